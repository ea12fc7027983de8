import PyProof.Rows.All
import Wide.All
import OpenK.AllK
import Wide.FinOn
import KE.KStateDown
import Lean
import HandS.Defaults
import HandS.MakeKwOnly
import HandS.Head0
import HandS.Head1
import HandS.Head2
import HandS.HeadEnd
import HandS.HeadHook1
import HandS.HeadHook2
import HandS.ForMost
import HandS.HeadHook3
import HandS.Deep
import HandS.IsInst
import HandS.NoneIn
import HandS.DictComp
import HandS.Evl
import HandS.Conv
import HandS.Walk
import PyProof.DictCompW
import KE.SortData
import HandS.Text
import HandS.More
import PyProof.InstSpecial
import KE.KOwnIter
import HandS.OwnEq
import HandS.OwnIter
import HandS.FStr
import PyProof.DictDisplay
import PyProof.DictTable
import HandS.Zip
import HandS.TupSets
import PySem.Challenge.RW_lastslip_k54_whole_plans_of_winners_hold
set_option Elab.async false
set_option linter.all false
set_option maxRecDepth 100000
set_option autoImplicit false
/-! Txt -/
set_option maxHeartbeats 4000000
/-! The text by places: printed by gen_txt.py. -/
namespace Ls
open PySem PySem.Spec PyProof.Rows L2
def top (i : Nat) : Stmt := PySem.Challenge.pw_lastslip_k54_whole_plans_of_winners_hold.main.body.getD i (.Pass ⟨0, 0, 0, 0⟩)
abbrev FnP (K : PySem.W.Frag) (x q : Str) (st : Stmt) (dvs : List V) (kws : List (Str × V)) (f : Addr) (fd : FuncData) : Prop := FunD K x q (defArgs st) (defBody st) (defScope st) dvs kws f fd
abbrev s_is_number : Stmt := top 16
abbrev s_is_word : Stmt := top 17
abbrev s_is_alphabet : Stmt := top 18
abbrev s_is_transition : Stmt := top 23
abbrev s_a_init : Stmt := inClass (top 24) 1
abbrev s_a_check_state : Stmt := inClass (top 24) 3
abbrev s_a_check_letter : Stmt := inClass (top 24) 4
abbrev s_a_moves : Stmt := inClass (top 24) 5
abbrev s_calm_positions : Stmt := top 26
abbrev s_first_ranks : Stmt := top 27
abbrev s_reply_of : Stmt := top 28
abbrev s_forced : Stmt := top 29
abbrev s_second_table : Stmt := top 30
abbrev s_b_init : Stmt := inClass (top 33) 1
abbrev s_b_is_move : Stmt := inClass (top 33) 2
abbrev s_b_check_node : Stmt := inClass (top 33) 3
abbrev s_b_owner : Stmt := inClass (top 33) 4
abbrev s_b_moves_of : Stmt := inClass (top 33) 5
abbrev s_b_letters : Stmt := inClass (top 33) 6
abbrev s_board_options : Stmt := top 34
abbrev s_winner : Stmt := top 35
abbrev s_p_init : Stmt := inClass (top 36) 0
abbrev s_p_rows : Stmt := inClass (top 36) 1
abbrev s_p_ranks : Stmt := inClass (top 36) 2
abbrev s_p_len : Stmt := inClass (top 36) 3
abbrev s_p_repr : Stmt := inClass (top 36) 4
abbrev s_plan : Stmt := top 37
abbrev s_l_draws : Stmt := top 39
abbrev s_l_pull : Stmt := top 40
abbrev s_l_any : Stmt := top 41
abbrev s_l_mixed : Stmt := top 42
abbrev s_l_like : Stmt := top 43
abbrev s_l_alphabet : Stmt := top 44
abbrev s_l_rows : Stmt := top 45
abbrev s_l_spec : Stmt := top 46
abbrev s_l_made : Stmt := top 47
abbrev s_l_steps : Stmt := top 48
abbrev s_l_harmful : Stmt := top 49
abbrev s_l_board : Stmt := top 50
abbrev s_l_first_plan : Stmt := top 51
abbrev s_l_second_plan : Stmt := top 52
abbrev s_law : Stmt := top 53
def d_is_number : He.DefD := ⟨("is_number", none), "is_number", "is_number", defArgs s_is_number, defBody s_is_number, defScope s_is_number, [], []⟩
def d_is_word : He.DefD := ⟨("is_word", none), "is_word", "is_word", defArgs s_is_word, defBody s_is_word, defScope s_is_word, [.int 200], []⟩
def d_is_alphabet : He.DefD := ⟨("is_alphabet", none), "is_alphabet", "is_alphabet", defArgs s_is_alphabet, defBody s_is_alphabet, defScope s_is_alphabet, [], []⟩
def d_is_transition : He.DefD := ⟨("is_transition", none), "is_transition", "is_transition", defArgs s_is_transition, defBody s_is_transition, defScope s_is_transition, [], []⟩
def d_a_init : He.DefD := ⟨("Automaton", some "__init__"), "__init__", "Automaton.__init__", defArgs s_a_init, defBody s_a_init, defScope s_a_init, [], [("initial", .int 0)]⟩
def d_a_check_state : He.DefD := ⟨("Automaton", some "check_state"), "check_state", "Automaton.check_state", defArgs s_a_check_state, defBody s_a_check_state, defScope s_a_check_state, [], []⟩
def d_a_check_letter : He.DefD := ⟨("Automaton", some "check_letter"), "check_letter", "Automaton.check_letter", defArgs s_a_check_letter, defBody s_a_check_letter, defScope s_a_check_letter, [], []⟩
def d_a_moves : He.DefD := ⟨("Automaton", some "moves"), "moves", "Automaton.moves", defArgs s_a_moves, defBody s_a_moves, defScope s_a_moves, [], []⟩
def d_calm_positions : He.DefD := ⟨("calm_positions", none), "calm_positions", "calm_positions", defArgs s_calm_positions, defBody s_calm_positions, defScope s_calm_positions, [], []⟩
def d_first_ranks : He.DefD := ⟨("first_ranks", none), "first_ranks", "first_ranks", defArgs s_first_ranks, defBody s_first_ranks, defScope s_first_ranks, [], []⟩
def d_reply_of : He.DefD := ⟨("reply_of", none), "reply_of", "reply_of", defArgs s_reply_of, defBody s_reply_of, defScope s_reply_of, [], []⟩
def d_forced : He.DefD := ⟨("forced", none), "forced", "forced", defArgs s_forced, defBody s_forced, defScope s_forced, [], []⟩
def d_second_table : He.DefD := ⟨("second_table", none), "second_table", "second_table", defArgs s_second_table, defBody s_second_table, defScope s_second_table, [], []⟩
def d_b_init : He.DefD := ⟨("Board", some "__init__"), "__init__", "Board.__init__", defArgs s_b_init, defBody s_b_init, defScope s_b_init, [], []⟩
def d_b_is_move : He.DefD := ⟨("Board", some "is_move"), "is_move", "Board.is_move", defArgs s_b_is_move, defBody s_b_is_move, defScope s_b_is_move, [], []⟩
def d_b_check_node : He.DefD := ⟨("Board", some "check_node"), "check_node", "Board.check_node", defArgs s_b_check_node, defBody s_b_check_node, defScope s_b_check_node, [], []⟩
def d_b_owner : He.DefD := ⟨("Board", some "owner"), "owner", "Board.owner", defArgs s_b_owner, defBody s_b_owner, defScope s_b_owner, [], []⟩
def d_b_moves_of : He.DefD := ⟨("Board", some "moves_of"), "moves_of", "Board.moves_of", defArgs s_b_moves_of, defBody s_b_moves_of, defScope s_b_moves_of, [], []⟩
def d_b_letters : He.DefD := ⟨("Board", some "letters"), "letters", "Board.letters", defArgs s_b_letters, defBody s_b_letters, defScope s_b_letters, [], []⟩
def d_board_options : He.DefD := ⟨("board_options", none), "board_options", "board_options", defArgs s_board_options, defBody s_board_options, defScope s_board_options, [], []⟩
def d_winner : He.DefD := ⟨("winner", none), "winner", "winner", defArgs s_winner, defBody s_winner, defScope s_winner, [.int 0], []⟩
def d_p_init : He.DefD := ⟨("Plan", some "__init__"), "__init__", "Plan.__init__", defArgs s_p_init, defBody s_p_init, defScope s_p_init, [], []⟩
def d_p_rows : He.DefD := ⟨("Plan", some "rows"), "rows", "Plan.rows", defArgs s_p_rows, defBody s_p_rows, defScope s_p_rows, [], []⟩
def d_p_ranks : He.DefD := ⟨("Plan", some "ranks"), "ranks", "Plan.ranks", defArgs s_p_ranks, defBody s_p_ranks, defScope s_p_ranks, [], []⟩
def d_p_len : He.DefD := ⟨("Plan", some "__len__"), "__len__", "Plan.__len__", defArgs s_p_len, defBody s_p_len, defScope s_p_len, [], []⟩
def d_p_repr : He.DefD := ⟨("Plan", some "__repr__"), "__repr__", "Plan.__repr__", defArgs s_p_repr, defBody s_p_repr, defScope s_p_repr, [], []⟩
def d_plan : He.DefD := ⟨("plan", none), "plan", "plan", defArgs s_plan, defBody s_plan, defScope s_plan, [.int 0], []⟩
def d_l_draws : He.DefD := ⟨("_law_draws", none), "_law_draws", "_law_draws", defArgs s_l_draws, defBody s_l_draws, defScope s_l_draws, [], []⟩
def d_l_pull : He.DefD := ⟨("_law_pull", none), "_law_pull", "_law_pull", defArgs s_l_pull, defBody s_l_pull, defScope s_l_pull, [], []⟩
def d_l_any : He.DefD := ⟨("_law_any", none), "_law_any", "_law_any", defArgs s_l_any, defBody s_l_any, defScope s_l_any, [], []⟩
def d_l_mixed : He.DefD := ⟨("_law_mixed", none), "_law_mixed", "_law_mixed", defArgs s_l_mixed, defBody s_l_mixed, defScope s_l_mixed, [], []⟩
def d_l_like : He.DefD := ⟨("_law_like", none), "_law_like", "_law_like", defArgs s_l_like, defBody s_l_like, defScope s_l_like, [], []⟩
def d_l_alphabet : He.DefD := ⟨("_law_alphabet", none), "_law_alphabet", "_law_alphabet", defArgs s_l_alphabet, defBody s_l_alphabet, defScope s_l_alphabet, [], []⟩
def d_l_rows : He.DefD := ⟨("_law_rows", none), "_law_rows", "_law_rows", defArgs s_l_rows, defBody s_l_rows, defScope s_l_rows, [], []⟩
def d_l_spec : He.DefD := ⟨("_law_spec", none), "_law_spec", "_law_spec", defArgs s_l_spec, defBody s_l_spec, defScope s_l_spec, [], []⟩
def d_l_made : He.DefD := ⟨("_law_made", none), "_law_made", "_law_made", defArgs s_l_made, defBody s_l_made, defScope s_l_made, [], []⟩
def d_l_steps : He.DefD := ⟨("_law_steps", none), "_law_steps", "_law_steps", defArgs s_l_steps, defBody s_l_steps, defScope s_l_steps, [], []⟩
def d_l_harmful : He.DefD := ⟨("_law_harmful", none), "_law_harmful", "_law_harmful", defArgs s_l_harmful, defBody s_l_harmful, defScope s_l_harmful, [], []⟩
def d_l_board : He.DefD := ⟨("_law_board", none), "_law_board", "_law_board", defArgs s_l_board, defBody s_l_board, defScope s_l_board, [], []⟩
def d_l_first_plan : He.DefD := ⟨("_law_first_plan", none), "_law_first_plan", "_law_first_plan", defArgs s_l_first_plan, defBody s_l_first_plan, defScope s_l_first_plan, [], []⟩
def d_l_second_plan : He.DefD := ⟨("_law_second_plan", none), "_law_second_plan", "_law_second_plan", defArgs s_l_second_plan, defBody s_l_second_plan, defScope s_l_second_plan, [], []⟩
def d_law : He.DefD := ⟨("law", none), "law", "law", defArgs s_law, defBody s_law, defScope s_law, [], []⟩
def fn : List He.DefD := [d_is_number, d_is_word, d_is_alphabet, d_is_transition, d_a_init, d_a_check_state, d_a_check_letter, d_a_moves, d_calm_positions, d_first_ranks, d_reply_of, d_forced, d_second_table, d_b_init, d_b_is_move, d_b_check_node, d_b_owner, d_b_moves_of, d_b_letters, d_board_options, d_winner, d_p_init, d_p_rows, d_p_ranks, d_p_len, d_p_repr, d_plan, d_l_draws, d_l_pull, d_l_any, d_l_mixed, d_l_like, d_l_alphabet, d_l_rows, d_l_spec, d_l_made, d_l_steps, d_l_harmful, d_l_board, d_l_first_plan, d_l_second_plan, d_law]
def fa : List He.Fa := [.glo "is_number", .glo "is_word", .glo "is_alphabet", .glo "is_transition", .glo "Automaton", .glo "calm_positions", .glo "first_ranks", .glo "reply_of", .glo "forced", .glo "second_table", .glo "Board", .glo "board_options", .glo "winner", .glo "Plan", .glo "plan", .glo "_law_draws", .glo "_law_pull", .glo "_law_any", .glo "_law_mixed", .glo "_law_like", .glo "_law_alphabet", .glo "_law_rows", .glo "_law_spec", .glo "_law_made", .glo "_law_steps", .glo "_law_harmful", .glo "_law_board", .glo "_law_first_plan", .glo "_law_second_plan", .glo "law", .free "isinstance", .free "int", .free "bool", .free "str", .free "len", .free "all", .free "any", .free "range", .free "enumerate", .free "sorted", .free "list", .free "tuple", .free "min", .free "max", .free "set", .free "repr", .free "zip", .int "MOST_LETTERS" 200, .int "MOST_STATES" 65, .int "MOST_NODES" 20000, .str "LETTERS" "abcdefghijklmnopqrstuvwxyz", .str "SAFE" "safe", .str "SLIP" "slip", .cls "Automaton", .noat "Automaton" "alphabet", .noat "Automaton" "size", .noat "Automaton" "initial", .noat "Automaton" "own_moves", .meth "Automaton" "check_state", .meth "Automaton" "check_letter", .meth "Automaton" "moves", .mkr "Automaton", .cls "Board", .noat "Board" "own_owners", .noat "Board" "own_moves", .meth "Board" "is_move", .meth "Board" "check_node", .meth "Board" "owner", .meth "Board" "moves_of", .meth "Board" "letters", .mkr "Board", .cls "Plan", .noat "Plan" "player", .noat "Plan" "own_rows", .noat "Plan" "own_ranks", .meth "Plan" "rows", .meth "Plan" "ranks", .meth "Plan" "__len__", .meth "Plan" "__repr__", .mkr "Plan"]
def nm0 : List PySem.Str := ["_wall", "SlipError", "InvalidAlphabet", "InvalidSize", "InvalidState", "InvalidNode", "StrangeLetter", "InvalidTransitions", "InvalidOwners", "InvalidMoves", "DeadEnd", "Incomplete", "LETTERS", "MOST_LETTERS", "is_number", "is_word", "is_alphabet", "MOST_STATES", "SAFE", "SLIP", "is_transition", "Automaton", "calm_positions", "first_ranks", "reply_of", "forced", "second_table", "MOST_NODES", "Board", "board_options"]
def nm1 : List PySem.Str := ["winner", "Plan", "plan", "_law_draws", "_law_pull", "_law_any", "_law_mixed", "_law_like", "_law_alphabet", "_law_rows", "_law_spec", "_law_made", "_law_steps", "_law_harmful", "_law_board", "_law_first_plan", "_law_second_plan"]
def loose : List PySem.Str := nm0 ++ nm1
end Ls
/-! Head -/
set_option maxHeartbeats 0
namespace Ls
open PySem PySem.W PySem.Calls PyProof.Rows
abbrev R : PySem.W.OpenRow := PySem.W.OpenLaw.row PySem.Challenge.rw_lastslip_k54_whole_plans_of_winners_hold
abbrev hk : PySem.W.Hook := He.hookD 4 fa fn
def ob (s : PySem.W.SharedT) : He.AlD := He.obsDG 4 fa fn (HandSHeadRun.getT s)
theorem ob_eq (s : PySem.W.SharedT) : ob s = hk.obs s.abs := He.obsDG_eq (HandSHeadRun.getT_eq s)
theorem run (w : World) : HandSHeadRun.RunEq R (PySem.W.view R.prog [53]) hk ob 8000 loose w := by
  intro os
  kernel_rfl
end Ls
/-! Math -/
/-! The plain law: games, in core Lean alone. -/
namespace Ls
/-! ### lists of truth values -/
def bat (l : List Bool) (i : Nat) : Bool := l.getD i false
theorem bat_lt {l : List Bool} {i : Nat} (h : bat l i = true) : i < l.length := by
  unfold bat at h
  by_cases q : i < l.length
  · exact q
  · rw [List.getD_eq_getElem?_getD, List.getElem?_eq_none (by omega)] at h
    cases h
theorem bat_map {n : Nat} {f : Nat → Bool} {i : Nat} (h : i < n) : bat ((List.range n).map f) i = f i := by
  unfold bat
  rw [List.getD_eq_getElem?_getD, List.getElem?_map, List.getElem?_range h]
  rfl
theorem bat_rep {n i : Nat} {b : Bool} (h : i < n) : bat (List.replicate n b) i = b := by
  unfold bat
  rw [List.getD_eq_getElem?_getD, List.getElem?_replicate, if_pos h]
  rfl
theorem ext_bat {l l' : List Bool} (hl : l.length = l'.length) (h : ∀ i, i < l.length → bat l i = bat l' i) : l = l' := by
  apply List.ext_getElem hl
  intro i h1 h2
  have q := h i h1
  unfold bat at q
  rw [List.getD_eq_getElem?_getD, List.getD_eq_getElem?_getD, List.getElem?_eq_getElem h1, List.getElem?_eq_getElem h2] at q
  exact q
def cnt (l : List Bool) : Nat := l.countP id
theorem cnt_le : ∀ (l l' : List Bool), l.length = l'.length → (∀ i, bat l i = true → bat l' i = true) → cnt l ≤ cnt l' ∧ (cnt l = cnt l' → l = l')
  | [], [], _, _ => ⟨Nat.le_refl _, fun _ => rfl⟩
  | [], _ :: _, h, _ => by simp at h
  | _ :: _, [], h, _ => by simp at h
  | a :: r, a' :: r', hl, h => by
    have h0 : a = true → a' = true := fun e => h 0 e
    obtain ⟨i1, i2⟩ := cnt_le r r' (by simpa using hl) fun i e => h (i + 1) e
    unfold cnt at i1 i2 ⊢
    rw [List.countP_cons, List.countP_cons]
    cases a with
    | false =>
      cases a' with
      | false => exact ⟨by simpa using i1, fun e => by rw [i2 (by simpa using e)]⟩
      | true => exact ⟨by simp; omega, fun e => by simp at e; omega⟩
    | true =>
      have e1 : a' = true := h0 rfl
      subst e1
      exact ⟨by simp; exact i1, fun e => by rw [i2 (by simpa using e)]⟩
theorem cnt_len (l : List Bool) : cnt l ≤ l.length := List.countP_le_length
/-! ### the calm positions -/
abbrev Game := List (List (List (Nat × Nat)))
def row (g : Game) (i : Nat) : List (List (Nat × Nat)) := g.getD i []
def GOk (g : Game) : Prop := ∀ r ∈ g, ∀ ch ∈ r, ∀ q ∈ ch, q.1 < g.length ∧ q.2 ≤ 1
theorem row_mem {g : Game} {i : Nat} (h : i < g.length) : row g i ∈ g := by
  unfold row
  rw [List.getD_eq_getElem?_getD, List.getElem?_eq_getElem h]
  exact List.getElem_mem h
theorem GOk.at_ {g : Game} (G : GOk g) {i : Nat} (h : i < g.length) {ch : List (Nat × Nat)} (hc : ch ∈ row g i) {q : Nat × Nat} (hq : q ∈ ch) : q.1 < g.length ∧ q.2 ≤ 1 :=
  G _ (row_mem h) ch hc q hq
def CPost (g : Game) (s : List Bool) (P : Nat → Prop) : Prop := ∀ i, P i → i < g.length ∧ ∀ ch ∈ row g i, ∃ q ∈ ch, (q.2 = 0 ∧ P q.1) ∨ (q.2 ≠ 0 ∧ bat s q.1 = true)
noncomputable def calmF (g : Game) (s : List Bool) : List Bool := (List.range g.length).map fun i => @decide (∃ P, CPost g s P ∧ P i) (Classical.propDecidable _)
theorem calmF_len (g : Game) (s : List Bool) : (calmF g s).length = g.length := by simp [calmF]
theorem bat_calmF {g : Game} {s : List Bool} {i : Nat} : bat (calmF g s) i = true ↔ ∃ P, CPost g s P ∧ P i := by
  constructor
  · intro h
    have hl := bat_lt h
    rw [calmF_len] at hl
    unfold calmF at h
    rw [bat_map hl] at h
    exact @of_decide_eq_true _ (Classical.propDecidable _) h
  · rintro ⟨P, hP, hi⟩
    unfold calmF
    rw [bat_map (hP i hi).1]
    exact @decide_eq_true _ (Classical.propDecidable _) ⟨P, hP, hi⟩
theorem calmF_post (g : Game) (s : List Bool) : CPost g s (fun i => bat (calmF g s) i = true) := by
  intro i h
  obtain ⟨P, hP, hi⟩ := bat_calmF.mp h
  refine ⟨(hP i hi).1, fun ch hc => ?_⟩
  obtain ⟨q, hq, h1⟩ := (hP i hi).2 ch hc
  refine ⟨q, hq, ?_⟩
  rcases h1 with ⟨a, b⟩ | h1
  · exact .inl ⟨a, bat_calmF.mpr ⟨P, hP, b⟩⟩
  · exact .inr h1
def pickB (l s r : List Bool) (q : Nat × Nat) : Bool := bat (if q.2 = 0 then l else if q.2 = 1 then s else r) q.1
def calmStep (g : Game) (r s l : List Bool) : List Bool := (List.range g.length).map fun i => bat l i && (row g i).all fun ch => ch.any (pickB l s r)
theorem calmStep_len (g : Game) (r s l : List Bool) : (calmStep g r s l).length = g.length := by simp [calmStep]
structure CInv (g : Game) (s l : List Bool) : Prop where
  len : l.length = g.length
  all : ∀ P, CPost g s P → ∀ i, P i → bat l i = true
theorem CInv.start (g : Game) (s : List Bool) : CInv g s (List.replicate g.length true) := ⟨by simp, fun P hP i hi => bat_rep (hP i hi).1⟩
theorem pick01 {l s r : List Bool} {q : Nat × Nat} (h : q.2 ≤ 1) : pickB l s r q = true ↔ (q.2 = 0 ∧ bat l q.1 = true) ∨ (q.2 ≠ 0 ∧ bat s q.1 = true) := by
  unfold pickB
  by_cases h0 : q.2 = 0
  · rw [if_pos h0]
    simp [h0]
  · rw [if_neg h0, if_pos (by omega)]
    simp [h0]
theorem CInv.next {g : Game} {s l r : List Bool} (G : GOk g) (I : CInv g s l) : CInv g s (calmStep g r s l) := by
  refine ⟨calmStep_len g r s l, fun P hP i hi => ?_⟩
  obtain ⟨h1, h2⟩ := hP i hi
  unfold calmStep
  rw [bat_map h1, I.all P hP i hi, Bool.true_and]
  refine List.all_eq_true.mpr fun ch hc => ?_
  obtain ⟨q, hq, h3⟩ := h2 ch hc
  refine List.any_eq_true.mpr ⟨q, hq, (pick01 (G.at_ h1 hc hq).2).mpr ?_⟩
  rcases h3 with ⟨a, b⟩ | h3
  · exact .inl ⟨a, I.all P hP _ b⟩
  · exact .inr h3
theorem calmStep_le {g : Game} {s l r : List Bool} {i : Nat} (h : bat (calmStep g r s l) i = true) : bat l i = true := by
  have hl := bat_lt h
  rw [calmStep_len] at hl
  unfold calmStep at h
  rw [bat_map hl] at h
  exact (Bool.and_eq_true_iff.mp h).1
theorem CInv.fix {g : Game} {s l r : List Bool} (G : GOk g) (I : CInv g s l) (e : calmStep g r s l = l) : l = calmF g s := by
  have post : CPost g s (fun i => bat l i = true) := by
    intro i hi
    have hl : i < g.length := by rw [← I.len]; exact bat_lt hi
    refine ⟨hl, fun ch hc => ?_⟩
    rw [← e] at hi
    unfold calmStep at hi
    rw [bat_map hl] at hi
    have h2 := List.all_eq_true.mp (Bool.and_eq_true_iff.mp hi).2 ch hc
    obtain ⟨q, hq, h3⟩ := List.any_eq_true.mp h2
    exact ⟨q, hq, (pick01 (G.at_ hl hc hq).2).mp h3⟩
  refine ext_bat (I.len.trans (calmF_len g s).symm) fun i hi => ?_
  cases h : bat l i with
  | true => exact (bat_calmF.mpr ⟨_, post, h⟩).symm
  | false =>
    cases h2 : bat (calmF g s) i with
    | false => rfl
    | true =>
      have := I.all _ (calmF_post g s) i h2
      rw [h] at this
      cases this
theorem calm_falls {g : Game} {s l r : List Bool} (hl : l.length = g.length) (ne : calmStep g r s l ≠ l) : cnt (calmStep g r s l) < cnt l := by
  obtain ⟨h1, h2⟩ := cnt_le (calmStep g r s l) l (by rw [calmStep_len, hl]) fun i h => calmStep_le h
  rcases Nat.lt_or_eq_of_le h1 with h | h
  · exact h
  · exact absurd (h2 h) ne
/-! ### the first player's ranks -/
noncomputable def lotsF (g : Game) : Nat → List Bool
  | 0 => List.replicate g.length false
  | k + 1 => calmF g (lotsF g k)
theorem lotsF_len (g : Game) : ∀ k, (lotsF g k).length = g.length
  | 0 => by simp [lotsF]
  | k + 1 => calmF_len g _
theorem CPost.mono {g : Game} {s s' : List Bool} {P : Nat → Prop} (h : CPost g s P) (k : ∀ i, bat s i = true → bat s' i = true) : CPost g s' P := fun i hi => by
  obtain ⟨h1, h2⟩ := h i hi
  refine ⟨h1, fun ch hc => ?_⟩
  obtain ⟨q, hq, h3⟩ := h2 ch hc
  refine ⟨q, hq, ?_⟩
  rcases h3 with h3 | ⟨a, b⟩
  · exact .inl h3
  · exact .inr ⟨a, k _ b⟩
theorem lotsF_up (g : Game) : ∀ k i, bat (lotsF g k) i = true → bat (lotsF g (k + 1)) i = true
  | 0, i, h => by
    have hl := bat_lt h
    rw [lotsF_len] at hl
    have h' : bat (List.replicate g.length false) i = true := h
    rw [bat_rep hl] at h'
    cases h'
  | k + 1, i, h => bat_calmF.mpr ⟨_, (calmF_post g (lotsF g k)).mono (lotsF_up g k), h⟩
theorem lotsF_grows (g : Game) (k : Nat) (ne : lotsF g (k + 1) ≠ lotsF g k) : cnt (lotsF g k) < cnt (lotsF g (k + 1)) := by
  obtain ⟨h1, h2⟩ := cnt_le (lotsF g k) (lotsF g (k + 1)) (by rw [lotsF_len, lotsF_len]) (lotsF_up g k)
  rcases Nat.lt_or_eq_of_le h1 with h | h
  · exact h
  · exact absurd (h2 h).symm ne
theorem lotsF_stays {g : Game} {k : Nat} (e : lotsF g (k + 1) = lotsF g k) : ∀ j, lotsF g (k + j) = lotsF g k
  | 0 => rfl
  | j + 1 => by
    show calmF g (lotsF g (k + j)) = lotsF g k
    rw [lotsF_stays e j]
    exact e
theorem lotsF_one {g : Game} {k k' : Nat} (e : lotsF g (k + 1) = lotsF g k) (e' : lotsF g (k' + 1) = lotsF g k') : lotsF g k = lotsF g k' := by
  rcases Nat.le_total k k' with h | h
  · obtain ⟨j, rfl⟩ := Nat.exists_eq_add_of_le h
    exact (lotsF_stays e j).symm
  · obtain ⟨j, rfl⟩ := Nat.exists_eq_add_of_le h
    exact lotsF_stays e' j
/-- what stands at a place of a list of ranks -/
def oat {α : Type} (l : List (Option α)) (i : Nat) : Option α := l.getD i none
theorem oat_lt {α : Type} {l : List (Option α)} {i : Nat} {a : α} (h : oat l i = some a) : i < l.length := by
  unfold oat at h
  by_cases q : i < l.length
  · exact q
  · rw [List.getD_eq_getElem?_getD, List.getElem?_eq_none (by omega)] at h
    cases h
theorem oat_map {α : Type} {n : Nat} {f : Nat → Option α} {i : Nat} (h : i < n) : oat ((List.range n).map f) i = f i := by
  unfold oat
  rw [List.getD_eq_getElem?_getD, List.getElem?_map, List.getElem?_range h]
  rfl
theorem oat_rep {α : Type} {n i : Nat} : oat (List.replicate n (none : Option α)) i = none := by
  unfold oat
  rw [List.getD_eq_getElem?_getD, List.getElem?_replicate]
  split <;> rfl
theorem oat_get {α : Type} {l : List (Option α)} {i : Nat} (h : i < l.length) : l[i]? = some (oat l i) := by
  unfold oat
  rw [List.getD_eq_getElem?_getD, List.getElem?_eq_getElem h]
  rfl
def rankStep (n : Nat) (lot : List Bool) (k : Nat) (ranks : List (Option Nat)) : List (Option Nat) := (List.range n).map fun i => if (bat lot i && (oat ranks i).isNone) = true then some k else oat ranks i
noncomputable def ranksF (g : Game) : Nat → List (Option Nat)
  | 0 => List.replicate g.length none
  | k + 1 => rankStep g.length (lotsF g (k + 1)) k (ranksF g k)
theorem ranksF_len (g : Game) : ∀ k, (ranksF g k).length = g.length
  | 0 => by simp [ranksF]
  | k + 1 => by simp [ranksF, rankStep]
theorem ranksF_le (g : Game) : ∀ k i a, oat (ranksF g k) i = some a → a < k
  | 0, i, a, h => by
    have h' : oat (List.replicate g.length (none : Option Nat)) i = some a := h
    rw [oat_rep] at h'
    cases h'
  | k + 1, i, a, h => by
    have hl := oat_lt h
    rw [ranksF_len] at hl
    have h' : oat (rankStep g.length (lotsF g (k + 1)) k (ranksF g k)) i = some a := h
    unfold rankStep at h'
    rw [oat_map hl] at h'
    split at h'
    · have := Option.some.inj h'
      omega
    · have := ranksF_le g k i a h'
      omega
theorem ranksF_some (g : Game) : ∀ k i, (oat (ranksF g k) i).isSome = bat (lotsF g k) i
  | 0, i => by
    have h' : (oat (List.replicate g.length (none : Option Nat)) i).isSome = bat (List.replicate g.length false) i := by
      rw [oat_rep]
      cases h : bat (List.replicate g.length false) i with
      | false => rfl
      | true =>
        have hl := bat_lt h
        rw [List.length_replicate] at hl
        rw [bat_rep hl] at h
        cases h
    exact h'
  | k + 1, i => by
    by_cases hl : i < g.length
    · show (oat (rankStep g.length (lotsF g (k + 1)) k (ranksF g k)) i).isSome = _
      unfold rankStep
      rw [oat_map hl]
      have ih := ranksF_some g k i
      cases h1 : oat (ranksF g k) i with
      | some a =>
        rw [h1] at ih
        have : bat (lotsF g (k + 1)) i = true := lotsF_up g k i ih.symm
        rw [this]
        simp
      | none =>
        cases h2 : bat (lotsF g (k + 1)) i <;> simp
    · cases h : bat (lotsF g (k + 1)) i with
      | true =>
        have := bat_lt h
        rw [lotsF_len] at this
        exact absurd this hl
      | false =>
        cases h2 : oat (ranksF g (k + 1)) i with
        | none => rfl
        | some a =>
          have := oat_lt h2
          rw [ranksF_len] at this
          exact absurd this hl
theorem ranksF_keep (g : Game) (k i : Nat) {a : Nat} (h : oat (ranksF g k) i = some a) : oat (ranksF g (k + 1)) i = some a := by
  have hl := oat_lt h
  rw [ranksF_len] at hl
  show oat (rankStep g.length (lotsF g (k + 1)) k (ranksF g k)) i = some a
  unfold rankStep
  rw [oat_map hl, h]
  simp
/-- a rank's good replies -/
theorem ranksF_good {g : Game} (G : GOk g) : ∀ k i a, oat (ranksF g k) i = some a → ∀ ch ∈ row g i, ∃ q ∈ ch, ∃ b, oat (ranksF g k) q.1 = some b ∧ b + q.2 ≤ a
  | 0, i, a, h => by
    have h' : oat (List.replicate g.length (none : Option Nat)) i = some a := h
    rw [oat_rep] at h'
    cases h'
  | k + 1, i, a, h => by
    have hl := oat_lt h
    rw [ranksF_len] at hl
    intro ch hc
    cases h1 : oat (ranksF g k) i with
    | some a' =>
      have e := ranksF_keep g k i h1
      rw [h] at e
      obtain rfl := Option.some.inj e
      obtain ⟨q, hq, b, hb, hle⟩ := ranksF_good G k i a h1 ch hc
      exact ⟨q, hq, b, ranksF_keep g k _ hb, hle⟩
    | none =>
      have h' : oat (rankStep g.length (lotsF g (k + 1)) k (ranksF g k)) i = some a := h
      unfold rankStep at h'
      rw [oat_map hl, h1] at h'
      have h2 : bat (lotsF g (k + 1)) i = true := by
        have := ranksF_some g (k + 1) i
        rw [h] at this
        exact this.symm
      rw [h2] at h'
      have ea : k = a := by simpa using h'
      subst ea
      obtain ⟨q, hq, h3⟩ := (calmF_post g (lotsF g k) i h2).2 ch hc
      refine ⟨q, hq, ?_⟩
      rcases h3 with ⟨c0, l0⟩ | ⟨c1, l1⟩
      · have hs := ranksF_some g (k + 1) q.1
        have l0' : bat (lotsF g (k + 1)) q.1 = true := l0
        rw [l0'] at hs
        obtain ⟨b, hb⟩ := Option.isSome_iff_exists.mp hs
        have := ranksF_le g (k + 1) _ _ hb
        exact ⟨b, hb, by omega⟩
      · have hs := ranksF_some g k q.1
        rw [l1] at hs
        obtain ⟨b, hb⟩ := Option.isSome_iff_exists.mp hs
        have := ranksF_le g k _ _ hb
        have := (G.at_ hl hc hq).2
        exact ⟨b, ranksF_keep g k _ hb, by omega⟩
/-- what the second player's sets are closed under -/
def Shut (g : Game) (s : Nat → Prop) (C : Nat → Prop) : Prop := ∀ i, i < g.length → ∀ ch ∈ row g i, (∀ q ∈ ch, (q.2 = 0 → C q.1) ∧ (q.2 ≠ 0 → s q.1)) → C i
def SPost (g : Game) (S : Nat → Prop) : Prop := ∀ C : Nat → Prop, Shut g S C → ∀ i, S i → C i
/-- where the first player has no rank the second player holds -/
theorem lost_post {g : Game} (G : GOk g) {k : Nat} (e : lotsF g (k + 1) = lotsF g k) : SPost g (fun i => i < g.length ∧ bat (lotsF g k) i = false) := by
  intro C hC i hi
  apply Classical.byContradiction
  intro hn
  have post : CPost g (lotsF g k) (fun j => j < g.length ∧ ¬ C j) := by
    rintro j ⟨h1, h2⟩
    refine ⟨h1, fun ch hc => ?_⟩
    apply Classical.byContradiction
    intro h3
    refine h2 (hC j h1 ch hc fun q hq => ⟨fun h0 => ?_, fun h0 => ⟨(G.at_ h1 hc hq).1, ?_⟩⟩)
    · apply Classical.byContradiction
      intro h4
      exact h3 ⟨q, hq, .inl ⟨h0, (G.at_ h1 hc hq).1, h4⟩⟩
    · cases h5 : bat (lotsF g k) q.1 with
      | false => rfl
      | true => exact absurd ⟨q, hq, .inr ⟨h0, h5⟩⟩ h3
  have : bat (lotsF g (k + 1)) i = true := bat_calmF.mpr ⟨_, post, hi.1, hn⟩
  rw [e, hi.2] at this
  cases this
/-! ### the second player -/
abbrev Fnd := List (Option (Nat × Nat))
def isB (f : Fnd) (i : Nat) : Bool := (oat f i).isSome
/-- a reply that the second player likes -/
def pickF (f : Fnd) (s r : List Bool) (q : Nat × Nat) : Bool := if q.2 = 0 then isB f q.1 else if q.2 = 1 then bat s q.1 else bat r q.1
def forcedStep (g : Game) (s r : List Bool) (f : Fnd) (level : Nat) : Fnd := (List.range g.length).map fun i => match oat f i with
  | some x => some x
  | none => ((row g i).findIdx? fun ch => ch.all (pickF f s r)).map fun c => (c, level)
theorem forcedStep_len (g : Game) (s r : List Bool) (f : Fnd) (level : Nat) : (forcedStep g s r f level).length = g.length := by simp [forcedStep]
/-- f is under way: all steps below level -/
structure FInv (g : Game) (s old : List Bool) (f : Fnd) (level : Nat) : Prop where
  len : f.length = g.length
  pos : 0 < level
  base : ∀ i, i < g.length → bat old i = true → oat f i = some (0, 0)
  good : ∀ i c k, oat f i = some (c, k) → bat old i = false → k < level ∧ ∃ ch, (row g i)[c]? = some ch ∧ ∀ q ∈ ch, (q.2 = 0 → ∃ c' k', oat f q.1 = some (c', k') ∧ k' < k) ∧ (q.2 ≠ 0 → bat s q.1 = true)
/-- f is whole -/
structure FSpec (g : Game) (s old : List Bool) (f : Fnd) : Prop where
  len : f.length = g.length
  base : ∀ i, i < g.length → bat old i = true → oat f i = some (0, 0)
  good : ∀ i c k, oat f i = some (c, k) → bat old i = false → ∃ ch, (row g i)[c]? = some ch ∧ ∀ q ∈ ch, (q.2 = 0 → ∃ c' k', oat f q.1 = some (c', k') ∧ k' < k) ∧ (q.2 ≠ 0 → bat s q.1 = true)
  shut : ∀ i, i < g.length → ∀ ch ∈ row g i, (∀ q ∈ ch, (q.2 = 0 → isB f q.1 = true) ∧ (q.2 ≠ 0 → bat s q.1 = true)) → isB f i = true
def startF (old : List Bool) : Fnd := old.map fun b => if b then some (0, 0) else none
theorem oat_startF {old : List Bool} {i : Nat} : oat (startF old) i = if bat old i = true then some (0, 0) else none := by
  unfold startF oat bat
  rw [List.getD_eq_getElem?_getD, List.getD_eq_getElem?_getD, List.getElem?_map]
  cases h : old[i]? with
  | none => rfl
  | some b => cases b <;> rfl
theorem FInv.start {g : Game} {s old : List Bool} (h : old.length = g.length) : FInv g s old (startF old) 1 := by
  refine ⟨by simp [startF, h], by omega, fun i _ ho => ?_, fun i c k hf ho => ?_⟩
  · rw [oat_startF, if_pos ho]
  · rw [oat_startF, ho] at hf
    simp at hf
theorem pickF01 {f : Fnd} {s r : List Bool} {q : Nat × Nat} (h : q.2 ≤ 1) : pickF f s r q = true ↔ (q.2 = 0 → isB f q.1 = true) ∧ (q.2 ≠ 0 → bat s q.1 = true) := by
  unfold pickF
  by_cases h0 : q.2 = 0
  · simp [h0]
  · have h1 : q.2 = 1 := by omega
    simp [h1]
theorem isB_some {f : Fnd} {i : Nat} : isB f i = true ↔ ∃ c k, oat f i = some (c, k) := by
  unfold isB
  cases h : oat f i with
  | none => simp
  | some x => obtain ⟨c, k⟩ := x; simp
theorem forcedStep_at {g : Game} {s r : List Bool} {f : Fnd} {level i : Nat} (h : i < g.length) : oat (forcedStep g s r f level) i = match oat f i with
    | some x => some x
    | none => ((row g i).findIdx? fun ch => ch.all (pickF f s r)).map fun c => (c, level) := by
  unfold forcedStep
  rw [oat_map h]
theorem forcedStep_keep {g : Game} {s r : List Bool} {f : Fnd} {level i : Nat} {x : Nat × Nat} (hl : f.length = g.length) (h : oat f i = some x) : oat (forcedStep g s r f level) i = some x := by
  rw [forcedStep_at (by rw [← hl]; exact oat_lt h), h]
theorem FInv.next {g : Game} {s r old : List Bool} {f : Fnd} {level : Nat} (G : GOk g) (I : FInv g s old f level) : FInv g s old (forcedStep g s r f level) (level + 1) := by
  refine ⟨forcedStep_len g s r f level, by omega, fun i hi ho => forcedStep_keep I.len (I.base i hi ho), fun i c k hf ho => ?_⟩
  have hl := oat_lt hf
  rw [forcedStep_len] at hl
  cases h1 : oat f i with
  | some x =>
    have e := forcedStep_keep (s := s) (r := r) (level := level) I.len h1
    rw [hf] at e
    rw [← Option.some.inj e] at h1
    obtain ⟨a, ch, b, z⟩ := I.good i c k h1 ho
    refine ⟨by omega, ch, b, fun q hq => ⟨fun h0 => ?_, (z q hq).2⟩⟩
    obtain ⟨c', k', e1, e2⟩ := (z q hq).1 h0
    exact ⟨c', k', forcedStep_keep I.len e1, e2⟩
  | none =>
    rw [forcedStep_at hl, h1] at hf
    obtain ⟨c', hc, e⟩ := Option.map_eq_some_iff.mp hf
    have e1 : c' = c := congrArg Prod.fst e
    have e2 : level = k := congrArg Prod.snd e
    subst e1 e2
    obtain ⟨hlt, h2, _⟩ := List.findIdx?_eq_some_iff_getElem.mp hc
    refine ⟨by omega, _, List.getElem?_eq_getElem hlt, fun q hq => ?_⟩
    have h3 := (pickF01 (G.at_ hl (List.getElem_mem hlt) hq).2).mp (List.all_eq_true.mp h2 q hq)
    refine ⟨fun h0 => ?_, h3.2⟩
    obtain ⟨c2, k2, e3⟩ := isB_some.mp (h3.1 h0)
    refine ⟨c2, k2, forcedStep_keep I.len e3, ?_⟩
    cases ho2 : bat old q.1 with
    | false => exact (I.good _ _ _ e3 ho2).1
    | true =>
      have := I.base q.1 (G.at_ hl (List.getElem_mem hlt) hq).1 ho2
      rw [e3] at this
      have := congrArg Prod.snd (Option.some.inj this)
      have hp := I.pos
      simp at this
      omega
theorem FInv.fix {g : Game} {s r old : List Bool} {f : Fnd} {level : Nat} (G : GOk g) (I : FInv g s old f level) (e : forcedStep g s r f level = f) : FSpec g s old f := by
  refine ⟨I.len, I.base, fun i c k hf ho => (I.good i c k hf ho).2, fun i hi ch hc h => ?_⟩
  cases h1 : oat f i with
  | some x => unfold isB; rw [h1]; rfl
  | none =>
    have e2 : oat (forcedStep g s r f level) i = none := by rw [e]; exact h1
    rw [forcedStep_at hi, h1] at e2
    have e3 := List.findIdx?_eq_none_iff.mp (Option.map_eq_none_iff.mp e2) ch hc
    have e4 : ch.all (pickF f s r) = true := List.all_eq_true.mpr fun q hq => (pickF01 (G.at_ hi hc hq).2).mpr (h q hq)
    rw [e4] at e3
    cases e3
def cntF (f : Fnd) : Nat := f.countP Option.isNone
theorem cntF_le : ∀ (f f' : Fnd), f.length = f'.length → (∀ i x, oat f i = some x → oat f' i = some x) → cntF f' ≤ cntF f ∧ (cntF f' = cntF f → f' = f)
  | [], [], _, _ => ⟨Nat.le_refl _, fun _ => rfl⟩
  | [], _ :: _, h, _ => by simp at h
  | _ :: _, [], h, _ => by simp at h
  | a :: r, a' :: r', hl, h => by
    have h0 : ∀ x, a = some x → a' = some x := fun x e => h 0 x e
    obtain ⟨i1, i2⟩ := cntF_le r r' (by simpa using hl) fun i x e => h (i + 1) x e
    unfold cntF at i1 i2 ⊢
    rw [List.countP_cons, List.countP_cons]
    cases a with
    | some x =>
      have e1 := h0 x rfl
      subst e1
      exact ⟨by simp; exact i1, fun e => by rw [i2 (by simpa using e)]⟩
    | none =>
      cases a' with
      | none => exact ⟨by simpa using i1, fun e => by rw [i2 (by simpa using e)]⟩
      | some x => exact ⟨by simp; omega, fun e => by simp at e; omega⟩
theorem forced_falls {g : Game} {s r : List Bool} {f : Fnd} {level : Nat} (hl : f.length = g.length) (ne : forcedStep g s r f level ≠ f) : cntF (forcedStep g s r f level) < cntF f := by
  obtain ⟨h1, h2⟩ := cntF_le f (forcedStep g s r f level) (by rw [forcedStep_len, hl]) fun i x e => forcedStep_keep hl e
  rcases Nat.lt_or_eq_of_le h1 with h | h
  · exact h
  · exact absurd (h2 h) ne
def lateF (f : Fnd) : List Bool := f.map Option.isSome
theorem bat_lateF {f : Fnd} {i : Nat} : bat (lateF f) i = isB f i := by
  unfold lateF bat isB oat
  rw [List.getD_eq_getElem?_getD, List.getD_eq_getElem?_getD, List.getElem?_map]
  cases f[i]? <;> rfl
theorem lateF_len (f : Fnd) : (lateF f).length = f.length := by simp [lateF]
/-- the inner loop of second_table -/
structure SInv (g : Game) (old s : List Bool) : Prop where
  len : s.length = g.length
  base : ∀ i, i < g.length → bat old i = true → bat s i = true
  shut : Shut g (fun i => bat s i = true) (fun i => bat s i = true)
  all : ∀ S, SPost g S → (∀ i, S i → i < g.length) → ∀ i, S i → bat s i = true
theorem SInv.start (g : Game) (old : List Bool) : SInv g old (List.replicate g.length true) :=
  ⟨by simp, fun i hi _ => bat_rep hi, fun i hi _ _ _ => bat_rep hi, fun S _ hl i hi => bat_rep (hl i hi)⟩
theorem FSpec.below {g : Game} {s old : List Bool} {f : Fnd} (F : FSpec g s old f) {C : Nat → Prop} (ho : ∀ i, i < g.length → bat old i = true → C i) (hC : Shut g (fun i => bat s i = true) C) : ∀ (k i c : Nat), oat f i = some (c, k) → C i := by
  intro k
  induction k using Nat.strongRecOn with
  | ind k ih =>
    intro i c h
    have hl := oat_lt h
    rw [F.len] at hl
    cases hb : bat old i with
    | true => exact ho i hl hb
    | false =>
      obtain ⟨ch, hc, hq⟩ := F.good i c k h hb
      refine hC i hl ch (List.mem_of_getElem? hc) fun q hm => ⟨fun h0 => ?_, (hq q hm).2⟩
      obtain ⟨c', k', e1, e2⟩ := (hq q hm).1 h0
      exact ih k' e2 q.1 c' e1
theorem SInv.le {g : Game} {old s : List Bool} {f : Fnd} (I : SInv g old s) (F : FSpec g s old f) {i : Nat} (h : isB f i = true) : bat s i = true := by
  obtain ⟨c, k, e⟩ := isB_some.mp h
  exact F.below (C := fun i => bat s i = true) I.base I.shut k i c e
theorem SInv.next {g : Game} {old s : List Bool} {f : Fnd} (I : SInv g old s) (F : FSpec g s old f) : SInv g old (lateF f) := by
  refine ⟨by rw [lateF_len, F.len], fun i hi ho => ?_, fun i hi ch hc h => ?_, fun S hS hl i hi => ?_⟩
  · rw [bat_lateF]
    exact isB_some.mpr ⟨0, 0, F.base i hi ho⟩
  · show bat (lateF f) i = true
    rw [bat_lateF]
    refine F.shut i hi ch hc fun q hq => ?_
    have h1 : (q.2 = 0 → bat (lateF f) q.1 = true) ∧ (q.2 ≠ 0 → bat (lateF f) q.1 = true) := h q hq
    rw [bat_lateF] at h1
    exact ⟨h1.1, fun h0 => I.le F (h1.2 h0)⟩
  · rw [bat_lateF]
    refine hS (fun i => isB f i = true) (fun j hj ch hc h => ?_) i hi
    exact F.shut j hj ch hc fun q hq => ⟨(h q hq).1, fun h0 => I.all S hS hl _ ((h q hq).2 h0)⟩
theorem second_falls {g : Game} {old s : List Bool} {f : Fnd} (I : SInv g old s) (F : FSpec g s old f) (ne : lateF f ≠ s) : cnt (lateF f) < cnt s := by
  obtain ⟨h1, h2⟩ := cnt_le (lateF f) s (by rw [lateF_len, F.len, I.len]) fun i h => I.le F (by rw [← bat_lateF]; exact h)
  rcases Nat.lt_or_eq_of_le h1 with h | h
  · exact h
  · exact absurd (h2 h) ne
/-- the inner loop's end -/
structure SEnd (g : Game) (old : List Bool) (f : Fnd) : Prop where
  spec : FSpec g (lateF f) old f
  inv : SInv g old (lateF f)
/-- behind the first stage nothing comes -/
theorem second_stops {g : Game} {f f' : Fnd} (E : SEnd g (List.replicate g.length false) f) (E' : SEnd g (lateF f) f') : lateF f' = lateF f := by
  have none0 : ∀ i, bat (List.replicate g.length false) i = false := fun i => by
    cases h : bat (List.replicate g.length false) i with
    | false => rfl
    | true =>
      have hl := bat_lt h
      rw [List.length_replicate] at hl
      rw [bat_rep hl] at h
      cases h
  have sub : ∀ i, bat (lateF f) i = true → bat (lateF f') i = true := fun i h => by
    have hl := bat_lt h
    rw [lateF_len, E.spec.len] at hl
    exact E'.inv.base i hl h
  refine ext_bat (by rw [lateF_len, lateF_len, E.spec.len, E'.spec.len]) fun i hi => ?_
  cases h : bat (lateF f) i with
  | true => exact sub i h
  | false =>
    cases h2 : bat (lateF f') i with
    | false => rfl
    | true =>
      have post : SPost g (fun i => bat (lateF f') i = true) := by
        intro C hC j hj
        have w1 : ∀ i, i < g.length → bat (lateF f) i = true → C i := fun i _ h => by
          have h' : isB f i = true := by rw [← bat_lateF]; exact h
          obtain ⟨c, k, e⟩ := isB_some.mp h'
          refine E.spec.below (C := C) (fun i _ h => by rw [none0] at h; cases h) (fun i hi ch hc hh => hC i hi ch hc fun q hq => ⟨(hh q hq).1, fun h0 => sub _ ((hh q hq).2 h0)⟩) k i c e
        have h' : isB f' j = true := by rw [← bat_lateF]; exact hj
        obtain ⟨c, k, e⟩ := isB_some.mp h'
        exact E'.spec.below (C := C) w1 hC k j c e
      have := E.inv.all _ post (fun i hi => by
        have := bat_lt hi
        rw [lateF_len, E'.spec.len] at this
        exact this) i h2
      rw [h] at this
      cases this
/-- the second player's table: (challenge, stage, steps) -/
abbrev Tab := List (Option (Nat × Nat × Nat))
structure TSpec (g : Game) (t : Tab) : Prop where
  len : t.length = g.length
  good : ∀ i c st k, oat t i = some (c, st, k) → ∃ ch, (row g i)[c]? = some ch ∧ ∀ q ∈ ch, ∃ c' st' k', oat t q.1 = some (c', st', k') ∧ (q.2 = 0 → k' < k)
  all : ∀ S, SPost g S → (∀ i, S i → i < g.length) → ∀ i, S i → ∃ x, oat t i = some x
def tabOf (f : Fnd) : Tab := f.map fun x => x.map fun y => (y.1, 0, y.2)
theorem oat_tabOf {f : Fnd} {i : Nat} : oat (tabOf f) i = (oat f i).map fun y => (y.1, 0, y.2) := by
  unfold tabOf oat
  rw [List.getD_eq_getElem?_getD, List.getD_eq_getElem?_getD, List.getElem?_map]
  cases f[i]? <;> rfl
theorem tab_spec {g : Game} {f : Fnd} (E : SEnd g (List.replicate g.length false) f) : TSpec g (tabOf f) := by
  have none0 : ∀ i, bat (List.replicate g.length false) i = false := fun i => by
    cases h : bat (List.replicate g.length false) i with
    | false => rfl
    | true =>
      have hl := bat_lt h
      rw [List.length_replicate] at hl
      rw [bat_rep hl] at h
      cases h
  refine ⟨by simp [tabOf, E.spec.len], fun i c st k h => ?_, fun S hS hl i hi => ?_⟩
  · rw [oat_tabOf] at h
    obtain ⟨⟨c1, k1⟩, h1, h2⟩ := Option.map_eq_some_iff.mp h
    have e1 : c1 = c := congrArg (·.1) h2
    have e2 : k1 = k := congrArg (·.2.2) h2
    subst e1 e2
    obtain ⟨ch, hc, hq⟩ := E.spec.good i c1 k1 h1 (none0 i)
    refine ⟨ch, hc, fun q hm => ?_⟩
    by_cases h0 : q.2 = 0
    · obtain ⟨c', k', e1, e2⟩ := (hq q hm).1 h0
      exact ⟨c', 0, k', by rw [oat_tabOf, e1]; rfl, fun _ => e2⟩
    · have h3 := (hq q hm).2 h0
      rw [bat_lateF] at h3
      obtain ⟨c', k', e1⟩ := isB_some.mp h3
      exact ⟨c', 0, k', by rw [oat_tabOf, e1]; rfl, fun z => absurd z h0⟩
  · have h1 := E.inv.all S hS hl i hi
    rw [bat_lateF] at h1
    obtain ⟨c, k, e⟩ := isB_some.mp h1
    exact ⟨_, by rw [oat_tabOf, e]; rfl⟩
end Ls
/-! Lay -/
set_option maxHeartbeats 4000000
/-! A layer over HandS: readings by data. G: the part of the heap that stands still; H: the heap. -/
namespace Ls
open PySem PySem.Spec PyProof.Rows L2
/-! ### steps of the heap -/
/-- what may change while something runs (B), and what is true of it all along (J) -/
structure Amb where
  B : Addr → Prop
  J : Hp → Hp → Prop
  st : ∀ {G H G2 H2 : Hp}, Same H H2 → Same G G2 → (∀ a o, G2 a = some o → G a = some o ∨ H a = none) → J G H → J G2 H2
  mt : ∀ {G H : Hp} {l : Addr} {o o' : HO}, J G H → H l = some o → G l = none → ¬ B l → J G (upd H l o')
  sl : ∀ {G H : Hp} {l : Addr} {o : HO}, J G H → H l = some o → G l = none → ¬ B l → J (upd G l o) H
structure Stp (A : Amb) (G H G2 H2 : Hp) : Prop where
  h : ∀ a o, H a = some o → ¬ A.B a → H2 a = some o
  g : Same G G2
  s : Same G2 H2
  n : ∀ a o, G2 a = some o → G a = some o ∨ H a = none
  k : ∀ a, H2 a = none → H a = none
/-- nothing that stood changes -/
def A0 : Amb := ⟨fun _ => False, fun _ _ => True, fun _ _ _ _ => trivial, fun _ _ _ _ => trivial, fun _ _ _ _ => trivial⟩
theorem nb0 {l : Addr} : ¬ A0.B l := fun z => z
variable {A : Amb}
theorem Stp.refl {G H : Hp} (s : Same G H) : Stp A G H G H := ⟨fun _ _ e _ => e, Same.refl G, s, fun _ _ e => .inl e, fun _ e => e⟩
theorem Stp.trans {G H G1 H1 G2 H2 : Hp} (a : Stp A G H G1 H1) (b : Stp A G1 H1 G2 H2) : Stp A G H G2 H2 where
  h := fun x o e nb => b.h x o (a.h x o e nb) nb
  g := a.g.trans b.g
  s := b.s
  n := fun x o e => by
    rcases b.n x o e with q | q
    · exact a.n x o q
    · exact .inr (a.k x q)
  k := fun x e => a.k x (b.k x e)
theorem Stp.same {G H G2 H2 : Hp} (a : Stp A0 G H G2 H2) : Same H H2 := fun x o e => a.h x o e fun z => z
theorem Stp.up {G H G2 H2 : Hp} (a : Stp A0 G H G2 H2) : Stp A G H G2 H2 := ⟨fun x o e _ => a.same x o e, a.g, a.s, a.n, a.k⟩
theorem Stp.j {G H G2 H2 : Hp} (a : Stp A0 G H G2 H2) (j : A.J G H) : A.J G2 H2 := A.st a.same a.g a.n j
theorem same_k {H H2 : Hp} (s : Same H H2) : ∀ a, H2 a = none → H a = none := fun _ e => s.free e
/-- the heap alone has grown -/
theorem Stp.only {G H H2 : Hp} (s : Same G H) (e : Same H H2) : Stp A0 G H G H2 := ⟨fun x o q _ => e x o q, Same.refl G, s.trans e, fun _ _ q => .inl q, same_k e⟩
theorem same_new {H : Hp} {p : Addr} {o : HO} (h : H p = none) : Same H (upd H p o) := fun a u e => by
  rw [upd_ne (ne_of_none e h)]
  exact e
theorem same_upd {G H : Hp} {p : Addr} {o : HO} (s : Same G H) : Same (upd G p o) (upd H p o) := fun a u e => by
  by_cases q : a = p
  · subst q
    rw [upd_same] at e ⊢
    exact e
  · rw [upd_ne q] at e ⊢
    exact s a u e
/-- a new object that stays -/
theorem Stp.new {G H : Hp} {p : Addr} {o : HO} (s : Same G H) (h : H p = none) : Stp A0 G H (upd G p o) (upd H p o) where
  h := fun a u e _ => same_new h a u e
  g := same_new (s.free h)
  s := same_upd s
  n := fun a u e => by
    by_cases q : a = p
    · subst q
      exact .inr h
    · rw [upd_ne q] at e
      exact .inl e
  k := same_k (same_new h)
/-- an object of ours, unknown to G, changes or comes -/
theorem same_mut {G H : Hp} {p : Addr} {o : HO} (s : Same G H) (h : G p = none) : Same G (upd H p o) := fun a u e => by
  rw [upd_ne (ne_of_none e h)]
  exact s a u e
/-! ### facts of values -/
structure SP where
  p : Hp → V → Prop
  mono : ∀ {G G' : Hp} {v : V}, Same G G' → p G v → p G' v
mutual
inductive Rp (G : Hp) : V → PyData → Prop
  | non : Rp G .non .none
  | bl (b : Bool) : Rp G (.bl b) (.bool b)
  | int (i : Int) : Rp G (.int i) (.int i)
  | str (x : Str) : Rp G (.str x) (.str x)
  | lst {a : Addr} {xs : List V} {ds : List PyData} : G a = some (.lst xs) → RpAll G xs ds → Rp G (.ref a) (.list ds)
  | tup {a : Addr} {xs : List V} {ds : List PyData} : G a = some (.tup xs) → RpAll G xs ds → Rp G (.ref a) (.tuple ds)
inductive RpAll (G : Hp) : List V → List PyData → Prop
  | nil : RpAll G [] []
  | cons {v : V} {vs : List V} {d : PyData} {ds : List PyData} : Rp G v d → RpAll G vs ds → RpAll G (v :: vs) (d :: ds)
end
mutual
theorem Rp.mono {G G' : Hp} (s : Same G G') : ∀ {v : V} {d : PyData}, Rp G v d → Rp G' v d
  | _, _, .non => .non
  | _, _, .bl b => .bl b
  | _, _, .int i => .int i
  | _, _, .str x => .str x
  | _, _, .lst h r => .lst (s _ _ h) (RpAll.mono s r)
  | _, _, .tup h r => .tup (s _ _ h) (RpAll.mono s r)
theorem RpAll.mono {G G' : Hp} (s : Same G G') : ∀ {vs : List V} {ds : List PyData}, RpAll G vs ds → RpAll G' vs ds
  | _, _, .nil => .nil
  | _, _, .cons h r => .cons (Rp.mono s h) (RpAll.mono s r)
end
mutual
theorem Rp.dp {K : PySem.W.Frag} {G : Hp} : ∀ {v : V} {d : PyData}, Rp G v d → Dp K G v d
  | _, _, .non => .non
  | _, _, .bl b => .bl b
  | _, _, .int i => .int i
  | _, _, .str x => .str x
  | _, _, .lst h r => .lst (SqL.of h) (RpAll.dp r)
  | _, _, .tup h r => .tup (SqT.of h) (RpAll.dp r)
theorem RpAll.dp {K : PySem.W.Frag} {G : Hp} : ∀ {vs : List V} {ds : List PyData}, RpAll G vs ds → DpAll K G vs ds
  | _, _, .nil => .nil
  | _, _, .cons h r => .cons (Rp.dp h) (RpAll.dp r)
end
theorem RpAll.length {G : Hp} : ∀ {vs : List V} {ds : List PyData}, RpAll G vs ds → vs.length = ds.length
  | _, _, .nil => rfl
  | _, _, .cons _ r => by rw [List.length_cons, List.length_cons, RpAll.length r]
theorem RpAll.get {G : Hp} : ∀ {vs : List V} {ds : List PyData} {i : Nat} {d : PyData}, RpAll G vs ds → ds[i]? = some d → ∃ v, vs[i]? = some v ∧ Rp G v d
  | _, _, _, _, .nil, e => by simp at e
  | _, _, 0, _, .cons h _, e => by
    simp at e
    subst e
    exact ⟨_, rfl, h⟩
  | _, _, i + 1, _, .cons _ r, e => RpAll.get (i := i) r (by simpa using e)
theorem RpAll.get' {G : Hp} : ∀ {vs : List V} {ds : List PyData} {i : Nat} {v : V}, RpAll G vs ds → vs[i]? = some v → ∃ d, ds[i]? = some d ∧ Rp G v d
  | _, _, _, _, .nil, e => by simp at e
  | _, _, 0, _, .cons h _, e => by
    simp at e
    subst e
    exact ⟨_, rfl, h⟩
  | _, _, i + 1, _, .cons _ r, e => RpAll.get' (i := i) r (by simpa using e)
theorem RpAll.append {G : Hp} : ∀ {vs ws : List V} {ds es : List PyData}, RpAll G vs ds → RpAll G ws es → RpAll G (vs ++ ws) (ds ++ es)
  | _, _, _, _, .nil, q => q
  | _, _, _, _, .cons h r, q => .cons h (RpAll.append r q)
theorem RpAll.take {G : Hp} : ∀ {vs : List V} {ds : List PyData} (n : Nat), RpAll G vs ds → RpAll G (vs.take n) (ds.take n)
  | _, _, 0, _ => .nil
  | _, _, _ + 1, .nil => .nil
  | _, _, n + 1, .cons h r => .cons h (RpAll.take n r)
theorem RpAll.drop {G : Hp} : ∀ {vs : List V} {ds : List PyData} (n : Nat), RpAll G vs ds → RpAll G (vs.drop n) (ds.drop n)
  | _, _, 0, r => r
  | _, _, _ + 1, .nil => .nil
  | _, _, n + 1, .cons _ r => RpAll.drop n r
theorem RpAll.set {G : Hp} {v : V} {d : PyData} (h : Rp G v d) : ∀ {vs : List V} {ds : List PyData} (i : Nat), RpAll G vs ds → RpAll G (vs.set i v) (ds.set i d)
  | _, _, _, .nil => .nil
  | _, _, 0, .cons _ r => .cons h r
  | _, _, i + 1, .cons q r => .cons q (RpAll.set h i r)
theorem RpAll.insert {G : Hp} {v : V} {d : PyData} (h : Rp G v d) {vs : List V} {ds : List PyData} (i : Nat) (r : RpAll G vs ds) : RpAll G (vs.take i ++ v :: vs.drop i) (ds.take i ++ d :: ds.drop i) :=
  (r.take i).append (.cons h (r.drop i))
theorem RpAll.rep {G : Hp} {v : V} {d : PyData} (h : Rp G v d) : ∀ n : Nat, RpAll G (List.replicate n v) (List.replicate n d)
  | 0 => .nil
  | n + 1 => .cons h (RpAll.rep h n)
theorem RpAll.of_map {G : Hp} {α : Type} (f : α → V) (g : α → PyData) : ∀ (l : List α), (∀ x ∈ l, Rp G (f x) (g x)) → RpAll G (l.map f) (l.map g)
  | [], _ => .nil
  | x :: r, h => .cons (h x List.mem_cons_self) (RpAll.of_map f g r fun y hy => h y (List.mem_cons_of_mem _ hy))
def dat (d : PyData) : SP := ⟨fun G v => Rp G v d, fun s h => h.mono s⟩
def isV (v : V) : SP := ⟨fun _ u => u = v, fun _ h => h⟩
/-- one of several -/
def ex {α : Type} (P : α → Prop) (f : α → SP) : SP := ⟨fun G v => ∃ x, P x ∧ (f x).p G v, fun s ⟨x, h1, h2⟩ => ⟨x, h1, (f x).mono s h2⟩⟩
theorem Rp.list_inv {G : Hp} {v : V} {ds : List PyData} (h : Rp G v (.list ds)) : ∃ a xs, v = .ref a ∧ G a = some (.lst xs) ∧ RpAll G xs ds := by
  cases h with
  | lst h r => exact ⟨_, _, rfl, h, r⟩
theorem Rp.tup_inv {G : Hp} {v : V} {ds : List PyData} (h : Rp G v (.tuple ds)) : ∃ a xs, v = .ref a ∧ G a = some (.tup xs) ∧ RpAll G xs ds := by
  cases h with
  | tup h r => exact ⟨_, _, rfl, h, r⟩
theorem Rp.int_inv {G : Hp} {v : V} {i : Int} (h : Rp G v (.int i)) : v = .int i := by
  cases h
  rfl
theorem Rp.bl_inv {G : Hp} {v : V} {b : Bool} (h : Rp G v (.bool b)) : v = .bl b := by
  cases h
  rfl
theorem Rp.str_inv {G : Hp} {v : V} {x : Str} (h : Rp G v (.str x)) : v = .str x := by
  cases h
  rfl
theorem Rp.non_inv {G : Hp} {v : V} (h : Rp G v .none) : v = .non := by
  cases h
  rfl
/-! ### environments -/
abbrev Env := List (Option SP)
structure EnvOk (G : Hp) (σ : L2.St) (ρ : Env) : Prop where
  len : σ.length = ρ.length
  at_ : ∀ (i : Nat) (φ : SP), ρ[i]? = some (some φ) → ∃ v, σ[i]? = some (some v) ∧ φ.p G v
theorem EnvOk.mono {G G' : Hp} {σ : L2.St} {ρ : Env} (E : EnvOk G σ ρ) (s : Same G G') : EnvOk G' σ ρ :=
  ⟨E.len, fun i φ e => let ⟨v, h1, h2⟩ := E.at_ i φ e; ⟨v, h1, φ.mono s h2⟩⟩
theorem EnvOk.set {G : Hp} {σ : L2.St} {ρ : Env} (E : EnvOk G σ ρ) (i : Nat) {v : V} {φ : SP} (h : φ.p G v) : EnvOk G (σ.set i (some v)) (ρ.set i (some φ)) := by
  refine ⟨by rw [List.length_set, List.length_set, E.len], fun j ψ e => ?_⟩
  by_cases hj : i = j
  · subst hj
    by_cases hl : i < ρ.length
    · rw [List.getElem?_set_self hl] at e
      have e1 : φ = ψ := Option.some.inj (Option.some.inj e)
      subst e1
      exact ⟨v, List.getElem?_set_self (by rw [E.len]; exact hl), h⟩
    · rw [List.getElem?_eq_none (by rw [List.length_set]; omega)] at e
      cases e
  · rw [List.getElem?_set_ne hj] at e
    obtain ⟨u, h1, h2⟩ := E.at_ j ψ e
    exact ⟨u, by rw [List.getElem?_set_ne hj]; exact h1, h2⟩
theorem EnvOk.nil {G : Hp} : EnvOk G [] [] := ⟨rfl, fun i φ e => by simp at e⟩
theorem EnvOk.cons {G : Hp} {σ : L2.St} {ρ : Env} (E : EnvOk G σ ρ) {v : V} {φ : SP} (h : φ.p G v) : EnvOk G (some v :: σ) (some φ :: ρ) := by
  refine ⟨by simp [E.len], fun i ψ e => ?_⟩
  cases i with
  | zero =>
    have e1 : φ = ψ := Option.some.inj (Option.some.inj e)
    subst e1
    exact ⟨v, rfl, h⟩
  | succ i => exact E.at_ i ψ e
theorem EnvOk.skip {G : Hp} {σ : L2.St} {ρ : Env} (E : EnvOk G σ ρ) {o : Option V} : EnvOk G (o :: σ) (none :: ρ) := by
  refine ⟨by simp [E.len], fun i ψ e => ?_⟩
  cases i with
  | zero => cases e
  | succ i => exact E.at_ i ψ e
/-- forgetting, weakening -/
theorem EnvOk.weak {G : Hp} {σ : L2.St} {ρ ρ' : Env} (E : EnvOk G σ ρ) (hl : ρ'.length = ρ.length) (h : ∀ (i : Nat) (φ : SP), ρ'[i]? = some (some φ) → ∃ v, σ[i]? = some (some v) ∧ φ.p G v) : EnvOk G σ ρ' := ⟨E.len.trans hl.symm, h⟩
theorem EnvOk.forget {G : Hp} {σ : L2.St} {ρ : Env} (E : EnvOk G σ ρ) (j : Nat) : EnvOk G σ (ρ.set j none) := by
  refine E.weak (by rw [List.length_set]) fun i φ e => ?_
  by_cases h : j = i
  · subst h
    by_cases hl : j < ρ.length
    · rw [List.getElem?_set_self hl] at e
      cases e
    · rw [List.getElem?_eq_none (by rw [List.length_set]; omega)] at e
      cases e
  · rw [List.getElem?_set_ne h] at e
    exact E.at_ i φ e
/-- another fact of a slot's value -/
theorem EnvOk.put {G : Hp} {σ : L2.St} {ρ : Env} (E : EnvOk G σ ρ) {j : Nat} {v : V} {φ : SP} (e : σ[j]? = some (some v)) (h : φ.p G v) : EnvOk G σ (ρ.set j (some φ)) := by
  have q := E.set j h
  have hj := (List.getElem?_eq_some_iff.mp e).1
  have hs : σ.set j (some v) = σ := by
    apply List.ext_getElem?
    intro i
    by_cases hi : j = i
    · subst hi
      rw [List.getElem?_set_self hj, e]
    · rw [List.getElem?_set_ne hi]
  rw [hs] at q
  exact q
def wipeE (ρ : Env) : List Nat → Env
  | [] => ρ
  | v :: vs => (wipeE ρ vs).set v none
theorem EnvOk.wiped {G : Hp} {σ : L2.St} {ρ : Env} (E : EnvOk G σ ρ) : ∀ vs : List Nat, EnvOk G (wipe σ vs) (wipeE ρ vs)
  | [] => E
  | v :: vs => by
    have q := E.wiped vs
    refine ⟨by unfold wipe wipeE; rw [List.length_set, List.length_set, q.len], fun i φ e => ?_⟩
    unfold wipeE at e
    unfold wipe
    by_cases h : v = i
    · subst h
      by_cases hl : v < (wipeE ρ vs).length
      · rw [List.getElem?_set_self hl] at e
        cases e
      · rw [List.getElem?_eq_none (by rw [List.length_set]; omega)] at e
        cases e
    · rw [List.getElem?_set_ne h] at e
      obtain ⟨u, h1, h2⟩ := q.at_ i φ e
      exact ⟨u, by rw [List.getElem?_set_ne h]; exact h1, h2⟩
/-! ### what evaluates to what -/
def Ps (G : Hp) : List V → List SP → Prop := Paired fun v φ => φ.p G v
theorem Ps.mono {G G' : Hp} (s : Same G G') {vs : List V} {φs : List SP} (h : Ps G vs φs) : Ps G' vs φs := Paired.mapP h fun _ φ q => φ.mono s q
def XE (A : Amb) (te : TE) (ρ : Env) (φ : SP) : Prop := ∀ (G H : Hp) (σ : L2.St) (Q : VK), EnvOk G σ ρ → Same G H → A.J G H → (∀ v G2 H2, Stp A G H G2 H2 → A.J G2 H2 → φ.p G2 v → Q v H2) → te σ H Q
def XT (A : Amb) (tt : TT) (ρ : Env) (b : Bool) : Prop := ∀ (G H : Hp) (σ : L2.St) (Q : Bool → Hp → Prop), EnvOk G σ ρ → Same G H → A.J G H → (∀ G2 H2, Stp A G H G2 H2 → A.J G2 H2 → Q b H2) → tt σ H Q
def XA (A : Amb) (ta : TA) (ρ : Env) (φs : List SP) : Prop := ∀ (G H : Hp) (σ : L2.St) (Q : List V → Hp → Prop), EnvOk G σ ρ → Same G H → A.J G H → (∀ vs G2 H2, Stp A G H G2 H2 → A.J G2 H2 → Ps G2 vs φs → Q vs H2) → ta σ H Q
def XO (A : Amb) (to : TO) (ρ : Env) (o : Option Int) : Prop := ∀ (G H : Hp) (σ : L2.St) (Q : Option Int → Hp → Prop), EnvOk G σ ρ → Same G H → A.J G H → (∀ G2 H2, Stp A G H G2 H2 → A.J G2 H2 → Q o H2) → to σ H Q
/-- an operation by values; a call by values -/
def XR (A : Amb) (r : R2) (φ ψ χ : SP) : Prop := ∀ (G H : Hp) (x y : V) (Q : VK), Same G H → A.J G H → φ.p G x → ψ.p G y → (∀ v G2 H2, Stp A G H G2 H2 → A.J G2 H2 → χ.p G2 v → Q v H2) → r x y H Q
def XC (A : Amb) (r : List V → Hp → VK → Prop) (φs : List SP) (χ : SP) : Prop := ∀ (G H : Hp) (vs : List V) (Q : VK), Same G H → A.J G H → Ps G vs φs → (∀ v G2 H2, Stp A G H G2 H2 → A.J G2 H2 → χ.p G2 v → Q v H2) → r vs H Q
section
variable {ρ : Env} {te ta tb tc : TE} {tt tu : TT} {φ ψ χ : SP} {r r' : R2} {K : PySem.W.Frag}
theorem XE.up (h : XE A0 te ρ φ) : XE A te ρ φ := fun G H σ Q E s j k => h G H σ Q E s trivial fun v G2 H2 t _ p => k v G2 H2 t.up (t.j j) p
theorem XT.up {b : Bool} (h : XT A0 tt ρ b) : XT A tt ρ b := fun G H σ Q E s j k => h G H σ Q E s trivial fun G2 H2 t _ => k G2 H2 t.up (t.j j)
theorem XA.up {ta : TA} {φs : List SP} (h : XA A0 ta ρ φs) : XA A ta ρ φs := fun G H σ Q E s j k => h G H σ Q E s trivial fun v G2 H2 t _ p => k v G2 H2 t.up (t.j j) p
theorem XR.up (h : XR A0 r φ ψ χ) : XR A r φ ψ χ := fun G H x y Q s j hx hy k => h G H x y Q s trivial hx hy fun v G2 H2 t _ p => k v G2 H2 t.up (t.j j) p
theorem XC.up {r : List V → Hp → VK → Prop} {φs : List SP} (h : XC A0 r φs χ) : XC A r φs χ := fun G H vs Q s j hv k => h G H vs Q s trivial hv fun v G2 H2 t _ p => k v G2 H2 t.up (t.j j) p
theorem XE.imp (h : XE A te ρ φ) (i : ∀ G v, φ.p G v → ψ.p G v) : XE A te ρ ψ := fun G H σ Q E s j k => h G H σ Q E s j fun v G2 H2 t j2 p => k v G2 H2 t j2 (i G2 v p)
theorem XE.to {d d' : PyData} (h : XE A te ρ (dat d)) (e : d = d') : XE A te ρ (dat d') := e ▸ h
theorem XT.to {b b' : Bool} (h : XT A tt ρ b) (e : b = b') : XT A tt ρ b' := e ▸ h
theorem xe_var {i : Nat} (h : ρ[i]? = some (some φ)) : XE A (tVar i) ρ φ := fun G H σ Q E s j k => by
  obtain ⟨v, e, p⟩ := E.at_ i φ h
  exact ⟨v, e, k v G H (Stp.refl s) j p⟩
theorem xe_c {v : V} {d : PyData} (h : ∀ G, Rp G v d) : XE A (tC v) ρ (dat d) := fun G H σ Q E s j k => k v G H (Stp.refl s) j (h G)
theorem xe_int {i : Int} : XE A (tC (.int i)) ρ (dat (.int i)) := xe_c fun _ => .int i
theorem xe_bl {b : Bool} : XE A (tC (.bl b)) ρ (dat (.bool b)) := xe_c fun _ => .bl b
theorem xe_str {x : Str} : XE A (tC (.str x)) ρ (dat (.str x)) := xe_c fun _ => .str x
theorem xe_non : XE A (tC .non) ρ (dat .none) := xe_c fun _ => .non
theorem xe_cv {v : V} : XE A (tC v) ρ (isV v) := fun G H σ Q E s j k => k v G H (Stp.refl s) j rfl
theorem xe_op (ha : XE A ta ρ φ) (hb : XE A tb ρ ψ) (hr : XR A r φ ψ χ) : XE A (tOp r ta tb) ρ χ := fun G H σ Q E s j k =>
  ha G H σ _ E s j fun x G1 H1 t1 j1 p1 => hb G1 H1 σ _ (E.mono t1.g) t1.s j1 fun y G2 H2 t2 j2 p2 =>
    hr G2 H2 x y Q t2.s j2 (φ.mono t2.g p1) p2 fun v G3 H3 t3 j3 p3 => k v G3 H3 ((t1.trans t2).trans t3) j3 p3
/-- a value of the operation, nothing new -/
theorem xr_val {z : V} {d e f : PyData} (hz : ∀ G, Rp G z f) (h : ∀ (G H : Hp) (x y : V) (Q : VK), Same G H → Rp G x d → Rp G y e → Q z H → r x y H Q) : XR A r (dat d) (dat e) (dat f) := fun G H x y Q s j hx hy k =>
  h G H x y Q s hx hy (k z G H (Stp.refl s) j (hz G))
theorem xr_I0 {g : Int → Int → V} {i k : Int} {d : PyData} (hd : ∀ G, Rp G (g i k) d) : XR A (rI0 g) (dat (.int i)) (dat (.int k)) (dat d) := xr_val hd fun G H x y Q s hx hy q => ⟨i, k, hx.int_inv, hy.int_inv, q⟩
theorem xr_I {C : Int → Int → Prop} {g : Int → Int → V} {i k : Int} {d : PyData} (hd : ∀ G, Rp G (g i k) d) (hc : C i k) : XR A (rI C g) (dat (.int i)) (dat (.int k)) (dat d) := xr_val hd fun G H x y Q s hx hy q => ⟨i, k, hx.int_inv, hy.int_inv, hc, q⟩
theorem xr_add {i k : Int} : XR A (rI0 fun i j => .int (i + j)) (dat (.int i)) (dat (.int k)) (dat (.int (i + k))) := xr_I0 fun _ => .int _
theorem xr_sub {i k : Int} : XR A (rI0 fun i j => .int (i - j)) (dat (.int i)) (dat (.int k)) (dat (.int (i - k))) := xr_I0 fun _ => .int _
theorem xr_lt {i k : Int} : XR A (rI0 fun i j => .bl (decide (i < j))) (dat (.int i)) (dat (.int k)) (dat (.bool (decide (i < k)))) := xr_I0 fun _ => .bl _
theorem xr_le {i k : Int} : XR A (rI0 fun i j => .bl (decide (i ≤ j))) (dat (.int i)) (dat (.int k)) (dat (.bool (decide (i ≤ k)))) := xr_I0 fun _ => .bl _
theorem xr_gt {i k : Int} : XR A (rI0 fun i j => .bl (decide (j < i))) (dat (.int i)) (dat (.int k)) (dat (.bool (decide (k < i)))) := xr_I0 fun _ => .bl _
theorem xr_ge {i k : Int} : XR A (rI0 fun i j => .bl (decide (j ≤ i))) (dat (.int i)) (dat (.int k)) (dat (.bool (decide (k ≤ i)))) := xr_I0 fun _ => .bl _
theorem xr_eqI {i k : Int} : XR A rEq (dat (.int i)) (dat (.int k)) (dat (.bool (decide (i = k)))) := xr_val (z := .bl (decide (i = k))) (fun _ => .bl _) fun G H x y Q s hx hy q => by
  rw [hx.int_inv, hy.int_inv]
  refine ⟨rfl, ?_⟩
  have e : decide (V.int i = V.int k) = decide (i = k) := by
    by_cases h : i = k
    · rw [h]
      simp
    · rw [decide_eq_false h, decide_eq_false fun z => h (V.int.inj z)]
  rw [e]
  exact q
theorem xr_neI {i k : Int} : XR A rNe (dat (.int i)) (dat (.int k)) (dat (.bool (!decide (i = k)))) := xr_val (z := .bl (!decide (i = k))) (fun _ => .bl _) fun G H x y Q s hx hy q => by
  rw [hx.int_inv, hy.int_inv]
  refine ⟨rfl, ?_⟩
  have e : decide (V.int i = V.int k) = decide (i = k) := by
    by_cases h : i = k
    · rw [h]
      simp
    · rw [decide_eq_false h, decide_eq_false fun z => h (V.int.inj z)]
  rw [e]
  exact q
theorem xr_eqS {i k : Str} : XR A rEq (dat (.str i)) (dat (.str k)) (dat (.bool (decide (i = k)))) := xr_val (z := .bl (decide (i = k))) (fun _ => .bl _) fun G H x y Q s hx hy q => by
  rw [hx.str_inv, hy.str_inv]
  refine ⟨rfl, ?_⟩
  have e : decide (V.str i = V.str k) = decide (i = k) := by
    by_cases h : i = k
    · rw [h]
      simp
    · rw [decide_eq_false h, decide_eq_false fun z => h (V.str.inj z)]
  rw [e]
  exact q
theorem xr_neS {i k : Str} : XR A rNe (dat (.str i)) (dat (.str k)) (dat (.bool (!decide (i = k)))) := xr_val (z := .bl (!decide (i = k))) (fun _ => .bl _) fun G H x y Q s hx hy q => by
  rw [hx.str_inv, hy.str_inv]
  refine ⟨rfl, ?_⟩
  have e : decide (V.str i = V.str k) = decide (i = k) := by
    by_cases h : i = k
    · rw [h]
      simp
    · rw [decide_eq_false h, decide_eq_false fun z => h (V.str.inj z)]
  rw [e]
  exact q
theorem xr_eqB {i k : Bool} : XR A rEq (dat (.bool i)) (dat (.bool k)) (dat (.bool (decide (i = k)))) := xr_val (z := .bl (decide (i = k))) (fun _ => .bl _) fun G H x y Q s hx hy q => by
  rw [hx.bl_inv, hy.bl_inv]
  refine ⟨rfl, ?_⟩
  have e : decide (V.bl i = V.bl k) = decide (i = k) := by
    by_cases h : i = k
    · rw [h]
      simp
    · rw [decide_eq_false h, decide_eq_false fun z => h (V.bl.inj z)]
  rw [e]
  exact q
theorem xr_neB {i k : Bool} : XR A rNe (dat (.bool i)) (dat (.bool k)) (dat (.bool (!decide (i = k)))) := xr_val (z := .bl (!decide (i = k))) (fun _ => .bl _) fun G H x y Q s hx hy q => by
  rw [hx.bl_inv, hy.bl_inv]
  refine ⟨rfl, ?_⟩
  have e : decide (V.bl i = V.bl k) = decide (i = k) := by
    by_cases h : i = k
    · rw [h]
      simp
    · rw [decide_eq_false h, decide_eq_false fun z => h (V.bl.inj z)]
  rw [e]
  exact q
/-- == and != of data -/
theorem xr_eqD {d e : PyData} (hd : SeqAt.shaped d = true) (he : SeqAt.shaped e = true) : XR A (rEqD K) (dat d) (dat e) (dat (.bool (PyData.eqv d e))) := xr_val (z := .bl (PyData.eqv d e)) (fun _ => .bl _) fun G H x y Q s hx hy q =>
  ⟨d, e, (hx.mono s).dp, (hy.mono s).dp, hd, he, q⟩
theorem xr_neD {d e : PyData} (hd : SeqAt.shaped d = true) (he : SeqAt.shaped e = true) : XR A (rNeD K) (dat d) (dat e) (dat (.bool (!PyData.eqv d e))) := xr_val (z := .bl (!PyData.eqv d e)) (fun _ => .bl _) fun G H x y Q s hx hy q =>
  ⟨d, e, (hx.mono s).dp, (hy.mono s).dp, hd, he, q⟩
theorem xr_inD {d : PyData} {ds : List PyData} (hd : SeqAt.shaped d = true) (he : SeqAt.shaped (.list ds) = true) : XR A (rInD K) (dat d) (dat (.list ds)) (dat (.bool (ds.any fun z => PyData.eqv z d))) := xr_val (z := .bl (ds.any fun z => PyData.eqv z d)) (fun _ => .bl _) fun G H x y Q s hx hy q =>
  ⟨d, ds, (hx.mono s).dp, (hy.mono s).dp, hd, he, q⟩
theorem xr_notInD {d : PyData} {ds : List PyData} (hd : SeqAt.shaped d = true) (he : SeqAt.shaped (.list ds) = true) : XR A (rNotInD K) (dat d) (dat (.list ds)) (dat (.bool (!ds.any fun z => PyData.eqv z d))) := xr_val (z := .bl (!ds.any fun z => PyData.eqv z d)) (fun _ => .bl _) fun G H x y Q s hx hy q =>
  ⟨d, ds, (hx.mono s).dp, (hy.mono s).dp, hd, he, q⟩
/-- an item -/
theorem atI_of {α : Type} {xs : List α} {i : Int} {x : α} (h0 : 0 ≤ i) (h : xs[i.toNat]? = some x) : atI xs i = some x := by
  have e : i = (i.toNat : Int) := by omega
  rw [e]
  exact atI_nat h
theorem xr_ixL {ds : List PyData} {i : Int} {d : PyData} (h0 : 0 ≤ i) (h : ds[i.toNat]? = some d) : XR A (rIxL K) (dat (.list ds)) (dat (.int i)) (dat d) := fun G H x y Q s j hx hy k => by
  obtain ⟨a, xs, rfl, ha, r⟩ := Rp.list_inv hx
  obtain ⟨v, e, p⟩ := r.get h
  exact ⟨a, xs, i, v, rfl, hy.int_inv, SqL.of (s _ _ ha), atI_of h0 e, k v G H (Stp.refl s) j p⟩
theorem xr_ixT {ds : List PyData} {i : Int} {d : PyData} (h0 : 0 ≤ i) (h : ds[i.toNat]? = some d) : XR A (rIxT K) (dat (.tuple ds)) (dat (.int i)) (dat d) := fun G H x y Q s j hx hy k => by
  obtain ⟨a, xs, rfl, ha, r⟩ := Rp.tup_inv hx
  obtain ⟨v, e, p⟩ := r.get h
  exact ⟨a, xs, i, v, rfl, hy.int_inv, SqT.of (s _ _ ha), atI_of h0 e, k v G H (Stp.refl s) j p⟩
theorem xr_ixS {z : Str} {i : Int} {c : Nat} (hz : z.length ≤ 1000) (h0 : 0 ≤ i) (h : z.cps.toList[i.toNat]? = some c) : XR A rIxS (dat (.str z)) (dat (.int i)) (dat (.str ⟨#[c]⟩)) := fun G H x y Q s j hx hy k =>
  ⟨z, i, c, hx.str_inv, hy.int_inv, Nat.le_trans hz (by decide), atI_of h0 h, k _ G H (Stp.refl s) j (.str _)⟩
/-! ### tests -/
theorem xt_test {b : Bool} (h : XE A te ρ (dat (.bool b))) : XT A (tTest te) ρ b := fun G H σ Q E s j k => h G H σ _ E s j fun v G2 H2 t j2 p => ⟨b, p.bl_inv, k G2 H2 t j2⟩
theorem xt_B {b : Bool} (h : XE A te ρ (dat (.bool b))) : XT A (tB te) ρ b := fun G H σ Q E s j k => h G H σ _ E s j fun v G2 H2 t j2 p => ⟨b, p.bl_inv, k G2 H2 t j2⟩
theorem xt_not {b : Bool} (h : XT A tt ρ b) : XT A (tNot tt) ρ (!b) := fun G H σ Q E s j k => h G H σ _ E s j fun G2 H2 t j2 => k G2 H2 t j2
theorem xt_and {a b : Bool} (h1 : XT A tt ρ a) (h2 : a = true → XT A tu ρ b) : XT A (tAnd tt tu) ρ (a && b) := fun G H σ Q E s j k => h1 G H σ _ E s j fun G1 H1 t1 j1 => by
  cases a with
  | true =>
    show (if true = true then tu σ H1 Q else Q false H1)
    rw [if_pos rfl]
    exact h2 rfl G1 H1 σ Q (E.mono t1.g) t1.s j1 fun G2 H2 t2 j2 => k G2 H2 (t1.trans t2) j2
  | false =>
    show (if false = true then tu σ H1 Q else Q false H1)
    rw [if_neg Bool.false_ne_true]
    exact k G1 H1 t1 j1
theorem xt_or {a b : Bool} (h1 : XT A tt ρ a) (h2 : a = false → XT A tu ρ b) : XT A (tOr tt tu) ρ (a || b) := fun G H σ Q E s j k => h1 G H σ _ E s j fun G1 H1 t1 j1 => by
  cases a with
  | false =>
    show (if false = true then Q true H1 else tu σ H1 Q)
    rw [if_neg Bool.false_ne_true]
    exact h2 rfl G1 H1 σ Q (E.mono t1.g) t1.s j1 fun G2 H2 t2 j2 => k G2 H2 (t1.trans t2) j2
  | true =>
    show (if true = true then Q true H1 else tu σ H1 Q)
    rw [if_pos rfl]
    exact k G1 H1 t1 j1
theorem xe_and {a b : Bool} (h1 : XE A ta ρ (dat (.bool a))) (h2 : a = true → XE A tb ρ (dat (.bool b))) : XE A (tAndV ta tb) ρ (dat (.bool (a && b))) := fun G H σ Q E s j k => h1 G H σ _ E s j fun x G1 H1 t1 j1 p1 => ⟨a, p1.bl_inv, by
  cases a with
  | true =>
    rw [if_pos rfl]
    exact h2 rfl G1 H1 σ Q (E.mono t1.g) t1.s j1 fun v G2 H2 t2 j2 p2 => k v G2 H2 (t1.trans t2) j2 p2
  | false =>
    rw [if_neg Bool.false_ne_true]
    exact k _ G1 H1 t1 j1 (.bl _)⟩
theorem xe_or {a b : Bool} (h1 : XE A ta ρ (dat (.bool a))) (h2 : a = false → XE A tb ρ (dat (.bool b))) : XE A (tOrV ta tb) ρ (dat (.bool (a || b))) := fun G H σ Q E s j k => h1 G H σ _ E s j fun x G1 H1 t1 j1 p1 => ⟨a, p1.bl_inv, by
  cases a with
  | false =>
    rw [if_neg Bool.false_ne_true]
    exact h2 rfl G1 H1 σ Q (E.mono t1.g) t1.s j1 fun v G2 H2 t2 j2 p2 => k v G2 H2 (t1.trans t2) j2 p2
  | true =>
    rw [if_pos rfl]
    exact k _ G1 H1 t1 j1 (.bl _)⟩
theorem xe_not {a : Bool} (h : XE A ta ρ (dat (.bool a))) : XE A (tNotV ta) ρ (dat (.bool (!a))) := fun G H σ Q E s j k => h G H σ _ E s j fun v G2 H2 t j2 p => ⟨a, p.bl_inv, k _ G2 H2 t j2 (.bl _)⟩
theorem xe_if {b : Bool} (h : XT A tt ρ b) (h1 : b = true → XE A ta ρ φ) (h2 : b = false → XE A tb ρ φ) : XE A (tIf tt ta tb) ρ φ := fun G H σ Q E s j k => h G H σ _ E s j fun G1 H1 t1 j1 => by
  cases b with
  | true =>
    rw [if_pos rfl]
    exact h1 rfl G1 H1 σ Q (E.mono t1.g) t1.s j1 fun v G2 H2 t2 j2 p2 => k v G2 H2 (t1.trans t2) j2 p2
  | false =>
    rw [if_neg Bool.false_ne_true]
    exact h2 rfl G1 H1 σ Q (E.mono t1.g) t1.s j1 fun v G2 H2 t2 j2 p2 => k v G2 H2 (t1.trans t2) j2 p2
theorem xe_isN {d : PyData} {b : Bool} (h : XE A ta ρ (dat d)) (hb : ∀ G v, Rp G v d → decide (v = V.non) = b) : XE A (tIsN ta) ρ (dat (.bool b)) := fun G H σ Q E s j k => h G H σ _ E s j fun v G2 H2 t j2 p => by
  rw [hb G2 v p]
  exact k _ G2 H2 t j2 (.bl _)
theorem xe_notN {d : PyData} {b : Bool} (h : XE A ta ρ (dat d)) (hb : ∀ G v, Rp G v d → (!decide (v = V.non)) = b) : XE A (tNotN ta) ρ (dat (.bool b)) := fun G H σ Q E s j k => h G H σ _ E s j fun v G2 H2 t j2 p => by
  rw [hb G2 v p]
  exact k _ G2 H2 t j2 (.bl _)
theorem isNone_of {G : Hp} {v : V} {d : PyData} (h : Rp G v d) : decide (v = V.non) = (match d with | .none => true | _ => false) := by
  cases h <;> simp
theorem xe_chain {x y z : PyData} {a b : Bool} (ha : XE A ta ρ (dat x)) (hb : XE A tb ρ (dat y)) (hr : XR A r (dat x) (dat y) (dat (.bool a))) (hc : a = true → XE A tc ρ (dat z)) (hr' : a = true → XR A r' (dat y) (dat z) (dat (.bool b))) :
    XE A (tChain r r' ta tb tc) ρ (dat (.bool (a && b))) := fun G H σ Q E s j k =>
  ha G H σ _ E s j fun x1 G1 H1 t1 j1 p1 => hb G1 H1 σ _ (E.mono t1.g) t1.s j1 fun y1 G2 H2 t2 j2 p2 =>
    hr G2 H2 x1 y1 _ t2.s j2 (p1.mono t2.g) p2 fun v G3 H3 t3 j3 p3 => ⟨a, p3.bl_inv, by
      have E3 := ((E.mono t1.g).mono t2.g).mono t3.g
      cases a with
      | true =>
        rw [if_pos rfl]
        exact hc rfl G3 H3 σ _ E3 t3.s j3 fun z1 G4 H4 t4 j4 p4 => hr' rfl G4 H4 y1 z1 Q t4.s j4 ((p2.mono t3.g).mono t4.g) p4 fun w G5 H5 t5 j5 p5 => k w G5 H5 ((((t1.trans t2).trans t3).trans t4).trans t5) j5 p5
      | false =>
        rw [if_neg Bool.false_ne_true]
        exact k _ G3 H3 ((t1.trans t2).trans t3) j3 (.bl _)⟩
/-! ### displays -/
theorem xa_nil : XA A tNil ρ [] := fun G H σ Q E s j k => k [] G H (Stp.refl s) j .nil
theorem xa_cons {tr : TA} {φs : List SP} (h : XE A ta ρ φ) (hr : XA A tr ρ φs) : XA A (tCons ta tr) ρ (φ :: φs) := fun G H σ Q E s j k =>
  h G H σ _ E s j fun v G1 H1 t1 j1 p1 => hr G1 H1 σ _ (E.mono t1.g) t1.s j1 fun vs G2 H2 t2 j2 p2 => k _ G2 H2 (t1.trans t2) j2 (.cons (φ.mono t2.g p1) p2)
theorem ps_dats {G : Hp} : ∀ {vs : List V} {ds : List PyData}, Ps G vs (ds.map dat) → RpAll G vs ds
  | _, [], .nil => .nil
  | _, d :: ds, .cons h r => .cons h (ps_dats r)
theorem xe_tup {ta : TA} {ds : List PyData} (h : XA A ta ρ (ds.map dat)) (hl : ds.length ≤ 1000) : XE A (tTup ta) ρ (dat (.tuple ds)) := fun G H σ Q E s j k =>
  h G H σ _ E s j fun vs G1 H1 t1 j1 p1 => by
    have r := ps_dats p1
    refine ⟨by rw [r.length]; exact Nat.le_trans hl (by decide), fun p hp => ?_⟩
    have t2 := Stp.new (o := .tup vs) t1.s hp
    exact k _ _ _ (t1.trans t2.up) (t2.j j1) (.tup upd_same (r.mono t2.g))
theorem xe_lst {ta : TA} {ds : List PyData} (h : XA A ta ρ (ds.map dat)) (hl : ds.length ≤ 1000) : XE A (tLst ta) ρ (dat (.list ds)) := fun G H σ Q E s j k =>
  h G H σ _ E s j fun vs G1 H1 t1 j1 p1 => by
    have r := ps_dats p1
    refine ⟨by rw [r.length]; exact Nat.le_trans hl (by decide), fun p hp => ?_⟩
    have t2 := Stp.new (o := .lst vs) t1.s hp
    exact k _ _ _ (t1.trans t2.up) (t2.j j1) (.lst upd_same (r.mono t2.g))
theorem xe_tup1 {d : PyData} (h : XE A ta ρ (dat d)) : XE A (tTup (tCons ta tNil)) ρ (dat (.tuple [d])) := xe_tup (ds := [d]) (xa_cons h xa_nil) (by show 1 ≤ 1000; decide)
theorem xe_tup2 {d e : PyData} (h : XE A ta ρ (dat d)) (h2 : XE A tb ρ (dat e)) : XE A (tTup (tCons ta (tCons tb tNil))) ρ (dat (.tuple [d, e])) := xe_tup (ds := [d, e]) (xa_cons h (xa_cons h2 xa_nil)) (by show 2 ≤ 1000; decide)
theorem xe_tup3 {d e f : PyData} (h : XE A ta ρ (dat d)) (h2 : XE A tb ρ (dat e)) (h3 : XE A tc ρ (dat f)) : XE A (tTup (tCons ta (tCons tb (tCons tc tNil)))) ρ (dat (.tuple [d, e, f])) := xe_tup (ds := [d, e, f]) (xa_cons h (xa_cons h2 (xa_cons h3 xa_nil))) (by show 3 ≤ 1000; decide)
theorem xe_lst0 : XE A (tLst tNil) ρ (dat (.list [])) := xe_lst (ds := []) xa_nil (Nat.zero_le _)
theorem xe_lst1 {d : PyData} (h : XE A ta ρ (dat d)) : XE A (tLst (tCons ta tNil)) ρ (dat (.list [d])) := xe_lst (ds := [d]) (xa_cons h xa_nil) (by show 1 ≤ 1000; decide)
/-! ### calls by values -/
theorem xe_cb {r : List V → Hp → VK → Prop} {ta : TA} {φs : List SP} (h : XA A ta ρ φs) (hr : XC A r φs χ) : XE A (tCB r ta) ρ χ := fun G H σ Q E s j k =>
  h G H σ _ E s j fun vs G1 H1 t1 j1 p1 => hr G1 H1 vs Q t1.s j1 p1 fun v G2 H2 t2 j2 p2 => k v G2 H2 (t1.trans t2) j2 p2
theorem ps_one {G : Hp} {vs : List V} (h : Ps G vs [φ]) : ∃ v, vs = [v] ∧ φ.p G v := by
  cases h with
  | cons h r =>
    cases r
    exact ⟨_, rfl, h⟩
theorem ps_two {G : Hp} {vs : List V} (h : Ps G vs [φ, ψ]) : ∃ v w, vs = [v, w] ∧ φ.p G v ∧ ψ.p G w := by
  cases h with
  | cons h r =>
    cases r with
    | cons h2 r2 =>
      cases r2
      exact ⟨_, _, rfl, h, h2⟩
theorem ps_three {G : Hp} {vs : List V} (h : Ps G vs [φ, ψ, χ]) : ∃ v w u, vs = [v, w, u] ∧ φ.p G v ∧ ψ.p G w ∧ χ.p G u := by
  cases h with
  | cons h r =>
    obtain ⟨w, u, e, h2, h3⟩ := ps_two r
    subst e
    exact ⟨_, _, _, rfl, h, h2, h3⟩
/-- len of a list or a tuple -/
def rLenQ (K : PySem.W.Frag) : List V → Hp → VK → Prop := fun xs H Q => ∃ p ys, xs = [.ref p] ∧ (SqL K H p ys ∨ SqT K H p ys) ∧ Q (.int ys.length) H
theorem xc_lenL {ds : List PyData} : XC A (rLenQ K) [dat (.list ds)] (dat (.int ds.length)) := fun G H vs Q s j hv k => by
  obtain ⟨v, rfl, p⟩ := ps_one hv
  obtain ⟨a, xs, rfl, ha, r⟩ := Rp.list_inv p
  refine ⟨a, xs, rfl, .inl (SqL.of (s _ _ ha)), ?_⟩
  rw [r.length]
  exact k _ G H (Stp.refl s) j (.int _)
theorem xc_lenT {ds : List PyData} : XC A (rLenQ K) [dat (.tuple ds)] (dat (.int ds.length)) := fun G H vs Q s j hv k => by
  obtain ⟨v, rfl, p⟩ := ps_one hv
  obtain ⟨a, xs, rfl, ha, r⟩ := Rp.tup_inv p
  refine ⟨a, xs, rfl, .inr (SqT.of (s _ _ ha)), ?_⟩
  rw [r.length]
  exact k _ G H (Stp.refl s) j (.int _)
def rLenSQ : List V → Hp → VK → Prop := fun xs H Q => ∃ z : Str, xs = [.str z] ∧ z.length ≤ sizeLine ∧ Q (.int z.length) H
theorem xc_lenS {z : Str} (hz : z.length ≤ 1000) : XC A rLenSQ [dat (.str z)] (dat (.int z.length)) := fun G H vs Q s j hv k => by
  obtain ⟨v, rfl, p⟩ := ps_one hv
  exact ⟨z, by rw [p.str_inv], Nat.le_trans hz (by decide), k _ G H (Stp.refl s) j (.int _)⟩
/-- list(xs) -/
def rListQ (K : PySem.W.Frag) : List V → Hp → VK → Prop := fun xs H Q => ∃ p ys, xs = [.ref p] ∧ (SqL K H p ys ∨ SqT K H p ys) ∧ ∀ l, H l = none → Q (.ref l) (upd H l (.lst ys))
theorem xc_list {ds : List PyData} : XC A (rListQ K) [dat (.list ds)] (dat (.list ds)) := fun G H vs Q s j hv k => by
  obtain ⟨v, rfl, p⟩ := ps_one hv
  obtain ⟨a, xs, rfl, ha, r⟩ := Rp.list_inv p
  refine ⟨a, xs, rfl, .inl (SqL.of (s _ _ ha)), fun l hl => ?_⟩
  have t := Stp.new (o := .lst xs) s hl
  exact k _ _ _ t.up (t.j j) (.lst upd_same (r.mono t.g))
theorem rp_bools {G : Hp} : ∀ {vs : List V} {bs : List Bool}, RpAll G vs (bs.map .bool) → vs = bs.map V.bl
  | _, [], .nil => rfl
  | _, b :: bs, .cons h r => by
    rw [h.bl_inv, rp_bools r]
    rfl
theorem rp_ints {G : Hp} : ∀ {vs : List V} {ns : List Int}, RpAll G vs (ns.map .int) → vs = ns.map V.int
  | _, [], .nil => rfl
  | _, b :: bs, .cons h r => by
    rw [h.int_inv, rp_ints r]
    rfl
theorem xc_any {bs : List Bool} : XC A (rAny K) [dat (.list (bs.map .bool))] (dat (.bool (bs.any id))) := fun G H vs Q s j hv k => by
  obtain ⟨v, rfl, p⟩ := ps_one hv
  obtain ⟨a, xs, rfl, ha, r⟩ := Rp.list_inv p
  exact ⟨a, bs, rfl, SqL.of (by rw [← rp_bools r]; exact s _ _ ha), k _ G H (Stp.refl s) j (.bl _)⟩
theorem xc_all {bs : List Bool} : XC A (rAll K) [dat (.list (bs.map .bool))] (dat (.bool (bs.all id))) := fun G H vs Q s j hv k => by
  obtain ⟨v, rfl, p⟩ := ps_one hv
  obtain ⟨a, xs, rfl, ha, r⟩ := Rp.list_inv p
  exact ⟨a, bs, rfl, SqL.of (by rw [← rp_bools r]; exact s _ _ ha), k _ G H (Stp.refl s) j (.bl _)⟩
/-! ### slices, +, * -/
theorem xo_none : XO A tNoPart ρ none := fun G H σ Q E s j k => k G H (Stp.refl s) j
theorem xo_some {i : Int} (h : XE A te ρ (dat (.int i))) : XO A (tPart te) ρ (some i) := fun G H σ Q E s j k => h G H σ _ E s j fun v G2 H2 t j2 p => ⟨i, p.int_inv, k G2 H2 t j2⟩
def cutD (xs : List PyData) (lo hi : Option Int) : List PyData := (xs.drop (HT.sIx xs.length 0 lo)).take (HT.sIx xs.length xs.length hi - HT.sIx xs.length 0 lo)
theorem cut_rp {G : Hp} {xs : List V} {ds : List PyData} (r : RpAll G xs ds) (lo hi : Option Int) : RpAll G (cutV xs lo hi) (cutD ds lo hi) := by
  unfold cutV cutD
  rw [r.length]
  exact (r.drop _).take _
theorem xe_slL {tl th : TO} {ds : List PyData} {lo hi : Option Int} (h : XE A te ρ (dat (.list ds))) (h1 : XO A tl ρ lo) (h2 : XO A th ρ hi) : XE A (tSl (rSlL K) te tl th) ρ (dat (.list (cutD ds lo hi))) := fun G H σ Q E s j k =>
  h G H σ _ E s j fun v G1 H1 t1 j1 p1 => h1 G1 H1 σ _ (E.mono t1.g) t1.s j1 fun G2 H2 t2 j2 => h2 G2 H2 σ _ ((E.mono t1.g).mono t2.g) t2.s j2 fun G3 H3 t3 j3 => by
    obtain ⟨a, xs, rfl, ha, r⟩ := Rp.list_inv ((p1.mono t2.g).mono t3.g)
    refine ⟨a, xs, rfl, SqL.of (t3.s _ _ ha), fun p hp => ?_⟩
    have t4 := Stp.new (o := .lst (cutV xs lo hi)) t3.s hp
    exact k _ _ _ (((t1.trans t2).trans t3).trans t4.up) (t4.j j3) (.lst upd_same ((cut_rp r lo hi).mono t4.g))
theorem xe_slT {tl th : TO} {ds : List PyData} {lo hi : Option Int} (h : XE A te ρ (dat (.tuple ds))) (h1 : XO A tl ρ lo) (h2 : XO A th ρ hi) (hne : ¬ (HT.sIx ds.length 0 lo = 0 ∧ HT.sIx ds.length ds.length hi = ds.length)) : XE A (tSl (rSlT K) te tl th) ρ (dat (.tuple (cutD ds lo hi))) := fun G H σ Q E s j k =>
  h G H σ _ E s j fun v G1 H1 t1 j1 p1 => h1 G1 H1 σ _ (E.mono t1.g) t1.s j1 fun G2 H2 t2 j2 => h2 G2 H2 σ _ ((E.mono t1.g).mono t2.g) t2.s j2 fun G3 H3 t3 j3 => by
    obtain ⟨a, xs, rfl, ha, r⟩ := Rp.tup_inv ((p1.mono t2.g).mono t3.g)
    have rc := cut_rp r lo hi
    refine ⟨a, xs, rfl, SqT.of (t3.s _ _ ha), by rw [r.length]; exact hne, fun p hp => ?_⟩
    · have t4 := Stp.new (o := .tup (cutV xs lo hi)) t3.s hp
      exact k _ _ _ (((t1.trans t2).trans t3).trans t4.up) (t4.j j3) (.tup upd_same (rc.mono t4.g))
end
end Ls
/-! Lay2 -/
set_option maxHeartbeats 4000000
/-! The layer, second part: walks, comprehensions, calls, objects, statements. -/
namespace Ls
open PySem PySem.Spec PyProof.Rows L2
/-! ### what is walked -/
/-- the i-th item's fact -/
def YSp (G : Hp) (φs : List SP) : Nat → Hp → V → Hp → Prop := fun i H x H' => ∀ G' φ, Same G G' → Same G' H → φs[i]? = some φ → ∃ G2, Stp A0 G' H G2 H' ∧ φ.p G2 x
def XI (wi : TI) (ρ : Env) (φs : List SP) : Prop := ∀ (G H : Hp) (σ : L2.St) (R : It → Hp → Prop), EnvOk G σ ρ → Same G H → (∀ J G2 H2, Stp A0 G H G2 H2 → Walk J φs.length (fun H => Same G2 H) (YSp G2 φs) → R J H2) → wi σ H R
section
variable {A : Amb} {ρ : Env} {te ta tb tc : TE} {tt tu : TT} {φ ψ χ : SP} {K : PySem.W.Frag}
theorem xi_list {tl : TE} {ds : List PyData} (h : XE A0 tl ρ (dat (.list ds))) : XI (iList K tl) ρ (ds.map dat) := fun G H σ R E s k =>
  h G H σ _ E s trivial fun v G2 H2 t _ p => by
    obtain ⟨a, xs, rfl, ha, r⟩ := Rp.list_inv p
    refine ⟨a, rfl, ⟨xs, SqL.of (t.s _ _ ha)⟩, k _ G2 H2 t ?_⟩
    have hl : (ds.map dat).length = xs.length := by rw [List.length_map, r.length]
    rw [hl]
    refine (walk_list (K := K) (a := a) (xs := xs)).mono (fun H' s' => SqL.of (s' _ _ ha)) fun i H' x H2' hi s' y => ?_
    obtain ⟨rfl, hx⟩ := y
    intro G' φ sg sh hφ
    obtain ⟨d, hd, rp⟩ := r.get' hx
    rw [List.getElem?_map, hd] at hφ
    have e : dat d = φ := Option.some.inj hφ
    subst e
    exact ⟨G', Stp.refl sh, rp.mono sg⟩
theorem xi_tup {tl : TE} {ds : List PyData} (h : XE A0 tl ρ (dat (.tuple ds))) : XI (iTup K tl) ρ (ds.map dat) := fun G H σ R E s k =>
  h G H σ _ E s trivial fun v G2 H2 t _ p => by
    obtain ⟨a, xs, rfl, ha, r⟩ := Rp.tup_inv p
    refine ⟨a, rfl, ⟨xs, SqT.of (t.s _ _ ha)⟩, k _ G2 H2 t ?_⟩
    have hl : (ds.map dat).length = xs.length := by rw [List.length_map, r.length]
    rw [hl]
    refine (walk_tup (K := K) (a := a) (xs := xs)).mono (fun H' s' => SqT.of (s' _ _ ha)) fun i H' x H2' hi s' y => ?_
    obtain ⟨rfl, hx⟩ := y
    intro G' φ sg sh hφ
    obtain ⟨d, hd, rp⟩ := r.get' hx
    rw [List.getElem?_map, hd] at hφ
    have e : dat d = φ := Option.some.inj hφ
    subst e
    exact ⟨G', Stp.refl sh, rp.mono sg⟩
/-- lo, lo + 1, .. -/
def rngS (lo n : Nat) : List SP := (List.range n).map fun i => dat (.int ((lo + i : Nat) : Int))
theorem rngS_get {lo n i : Nat} {φ : SP} (h : (rngS lo n)[i]? = some φ) : i < n ∧ φ = dat (.int ((lo + i : Nat) : Int)) := by
  unfold rngS at h
  rw [List.getElem?_map] at h
  by_cases hi : i < n
  · rw [List.getElem?_range hi] at h
    exact ⟨hi, (Option.some.inj h).symm⟩
  · rw [List.getElem?_eq_none (by simpa using hi)] at h
    cases h
theorem walk_rng {G : Hp} {lo n : Nat} : Walk (Itr (lo : Int) n) (rngS lo n).length (fun H => Same G H) (YSp G (rngS lo n)) := by
  have hl : (rngS lo n).length = n := by simp [rngS]
  rw [hl]
  refine (walk_range (lo := (lo : Int)) (n := n)).mono (fun _ _ => trivial) fun i H x H' hi s y => ?_
  obtain ⟨rfl, hx⟩ := y
  intro G' φ sg sh hφ
  obtain ⟨_, rfl⟩ := rngS_get hφ
  refine ⟨G', Stp.refl sh, ?_⟩
  have e : (lo : Int) + (i : Int) = ((lo + i : Nat) : Int) := by omega
  have hx2 : x = V.int ((lo : Int) + (i : Int)) := hx
  rw [hx2, e]
  exact .int _
theorem xi_rng1 {ta : TA} {n : Nat} (h : XA A0 ta ρ [dat (.int (n : Int))]) (hn : n ≤ 100000) : XI (iRng1 ta) ρ (rngS 0 n) := fun G H σ R E s k =>
  h G H σ _ E s trivial fun vs G2 H2 t _ p => by
    obtain ⟨v, rfl, q⟩ := ps_one p
    refine ⟨(n : Int), by rw [Rp.int_inv q], by omega, by omega, k _ G2 H2 t ?_⟩
    have e : (n : Int).toNat = n := by omega
    rw [e]
    exact walk_rng
theorem xi_rng2 {ta : TA} {lo n : Nat} (h : XA A0 ta ρ [dat (.int (lo : Int)), dat (.int (n : Int))]) (hn : n ≤ 100000) (hl : lo ≤ 100000) : XI (iRng2 ta) ρ (rngS lo (n - lo)) := fun G H σ R E s k =>
  h G H σ _ E s trivial fun vs G2 H2 t _ p => by
    obtain ⟨v, w, rfl, q1, q2⟩ := ps_two p
    refine ⟨(lo : Int), (n : Int), by rw [Rp.int_inv q1, Rp.int_inv q2], ⟨by omega, by omega, by omega, by omega⟩, k _ G2 H2 t ?_⟩
    have e : ((n : Int) - (lo : Int)).toNat = n - lo := by omega
    rw [e]
    exact walk_rng
theorem xi_str {z : Str} (h : XE A0 te ρ (dat (.str z))) : XI (iStr te) ρ (z.cps.toList.map fun c => dat (.str ⟨#[c]⟩)) := fun G H σ R E s k =>
  h G H σ _ E s trivial fun v G2 H2 t _ p => by
    refine ⟨z, p.str_inv, k _ G2 H2 t ?_⟩
    have hl : (z.cps.toList.map fun c => dat (.str ⟨#[c]⟩)).length = z.cps.size := by simp
    rw [hl]
    refine (walk_str (z := z)).mono (fun _ _ => trivial) fun i H x H' hi s y => ?_
    obtain ⟨rfl, c, hc, hx⟩ := y
    intro G' φ sg sh hφ
    rw [List.getElem?_map, Array.getElem?_toList, hc] at hφ
    have e : dat (.str ⟨#[c]⟩) = φ := Option.some.inj hφ
    subst e
    exact ⟨G', Stp.refl sh, by rw [hx]; exact .str _⟩
def enumS (ds : List PyData) : List SP := ds.zipIdx.map fun q => dat (.tuple [.int (q.2 : Int), q.1])
theorem pair_new {G' H : Hp} {T : Addr} {x y : V} {d e : PyData} (sh : Same G' H) (hT : H T = none) (hx : Rp G' x d) (hy : Rp G' y e) : ∃ G2, Stp A0 G' H G2 (upd H T (.tup [x, y])) ∧ Rp G2 (.ref T) (.tuple [d, e]) :=
  ⟨_, Stp.new sh hT, .tup upd_same (.cons (hx.mono (same_new (sh.free hT))) (.cons (hy.mono (same_new (sh.free hT))) .nil))⟩
theorem xi_enum {ta : TA} {ds : List PyData} (h : XA A0 ta ρ [dat (.list ds)]) : XI (iEnum K ta) ρ (enumS ds) := fun G H σ R E s k =>
  h G H σ _ E s trivial fun vs G2 H2 t _ p => by
    obtain ⟨v, rfl, q⟩ := ps_one p
    obtain ⟨a, xs, rfl, ha, r⟩ := Rp.list_inv q
    refine ⟨a, xs, rfl, SqL.of (t.s _ _ ha), k _ G2 H2 t ?_⟩
    have hl : (enumS ds).length = xs.length := by simp [enumS, r.length]
    rw [hl]
    refine (walk_enum (K := K) (a := a) (xs := xs)).mono (fun H' s' => SqL.of (s' _ _ ha)) fun i H x H' hi s y => ?_
    obtain ⟨T, u, w, rfl, hT, rfl, h1, h2⟩ := y
    intro G' φ sg sh hφ
    obtain ⟨d, hd, rp⟩ := r.get' h2
    unfold enumS at hφ
    rw [List.getElem?_map, List.getElem?_zipIdx, hd] at hφ
    have e : dat (.tuple [.int ((0 + i : Nat) : Int), d]) = φ := Option.some.inj hφ
    subst e
    have e2 : u = .int (i : Nat) := (Option.some.inj h1).symm
    subst e2
    rw [Nat.zero_add]
    exact pair_new sh hT (.int _) (rp.mono sg)
def zipS (ds es : List PyData) : List SP := (ds.zip es).map fun q => dat (.tuple [q.1, q.2])
theorem xi_zip {ta : TA} {ds es : List PyData} (h : XA A0 ta ρ [dat (.list ds), dat (.list es)]) : XI (iZip K ta) ρ (zipS ds es) := fun G H σ R E s k =>
  h G H σ _ E s trivial fun vs G2 H2 t _ p => by
    obtain ⟨v, w, rfl, q1, q2⟩ := ps_two p
    obtain ⟨a, xs, rfl, ha, r⟩ := Rp.list_inv q1
    obtain ⟨b, ys, rfl, hb, r2⟩ := Rp.list_inv q2
    refine ⟨a, b, xs, ys, rfl, SqL.of (t.s _ _ ha), SqL.of (t.s _ _ hb), k _ G2 H2 t ?_⟩
    have hl : (zipS ds es).length = min xs.length ys.length := by simp [zipS, r.length, r2.length]
    rw [hl]
    refine (walk_zip (K := K) (a := a) (b := b) (xs := xs) (ys := ys) rfl).mono (fun H' s' => ⟨SqL.of (s' _ _ ha), SqL.of (s' _ _ hb)⟩) fun i H x H' hi s y => ?_
    obtain ⟨T, u, w, rfl, hT, rfl, h1, h2⟩ := y
    intro G' φ sg sh hφ
    obtain ⟨d, hd, rp⟩ := r.get' h1
    obtain ⟨d2, hd2, rp2⟩ := r2.get' h2
    unfold zipS at hφ
    have hz : (ds.zip es)[i]? = some (d, d2) := List.getElem?_zip_eq_some.mpr ⟨hd, hd2⟩
    rw [List.getElem?_map, hz] at hφ
    have e : dat (.tuple [d, d2]) = φ := Option.some.inj hφ
    subst e
    exact pair_new sh hT (rp.mono sg) (rp2.mono sg)
/-! ### targets -/
def Off (js : List Nat) (σ σ' : L2.St) : Prop := σ'.length = σ.length ∧ ∀ i : Nat, i ∉ js → σ'[i]? = σ[i]?
theorem Off.refl (js : List Nat) (σ : L2.St) : Off js σ σ := ⟨rfl, fun _ _ => rfl⟩
theorem Off.trans {js : List Nat} {σ σ1 σ2 : L2.St} (a : Off js σ σ1) (b : Off js σ1 σ2) : Off js σ σ2 := ⟨b.1.trans a.1, fun i h => (b.2 i h).trans (a.2 i h)⟩
theorem Off.set {js : List Nat} {σ : L2.St} {i : Nat} {o : Option V} (h : i ∈ js) : Off js σ (σ.set i o) := ⟨List.length_set, fun j hj => List.getElem?_set_ne fun e => hj (by rw [← e]; exact h)⟩
theorem wipe_get {σ : L2.St} : ∀ {vs : List Nat} {i : Nat}, (wipe σ vs)[i]? = if i ∈ vs ∧ i < σ.length then some none else σ[i]?
  | [], i => by simp [wipe]
  | v :: vs, i => by
    unfold wipe
    by_cases h : v = i
    · subst h
      by_cases hl : v < σ.length
      · rw [List.getElem?_set_self (by rw [wipe_length]; exact hl), if_pos ⟨List.mem_cons_self, hl⟩]
      · rw [List.getElem?_eq_none (by rw [List.length_set, wipe_length]; omega), if_neg (fun z => hl z.2), List.getElem?_eq_none (by omega)]
    · rw [List.getElem?_set_ne h, wipe_get]
      have e : i ∈ v :: vs ↔ i ∈ vs := by
        rw [List.mem_cons]
        constructor
        · rintro (q | q)
          · exact absurd q.symm h
          · exact q
        · exact Or.inr
      by_cases q : i ∈ vs ∧ i < σ.length
      · rw [if_pos q, if_pos ⟨e.mpr q.1, q.2⟩]
      · rw [if_neg q, if_neg fun z => q ⟨e.mp z.1, z.2⟩]
theorem Off.wipe {js vs : List Nat} {σ σ' : L2.St} (h : Off js (L2.wipe σ vs) σ') (hs : ∀ i ∈ js, i ∈ vs) : L2.wipe σ' vs = L2.wipe σ vs := by
  apply List.ext_getElem?
  intro i
  have hl : σ'.length = σ.length := by rw [h.1, wipe_length]
  rw [wipe_get, wipe_get, hl]
  by_cases q : i ∈ vs ∧ i < σ.length
  · rw [if_pos q, if_pos q]
  · rw [if_neg q, if_neg q]
    by_cases hi : i ∈ vs
    · have : ¬ i < σ.length := fun z => q ⟨hi, z⟩
      rw [List.getElem?_eq_none (by omega), List.getElem?_eq_none (by omega)]
    · rw [h.2 i fun z => hi (hs i z), wipe_get, if_neg fun z => hi z.1]
def XG (g : TG) (φ : SP) (js : List Nat) (ρ ρ' : Env) : Prop := ∀ (G H : Hp) (σ : L2.St) (v : V) (Q : L2.St → Hp → Prop), EnvOk G σ ρ → Same G H → φ.p G v → (∀ σ', EnvOk G σ' ρ' → Off js σ σ' → Q σ' H) → g v σ H Q
def XGs (g : TGs) (φs : List SP) (js : List Nat) (ρ ρ' : Env) : Prop := ∀ (G H : Hp) (σ : L2.St) (vs : List V) (Q : L2.St → Hp → Prop), EnvOk G σ ρ → Same G H → Ps G vs φs → (∀ σ', EnvOk G σ' ρ' → Off js σ σ' → Q σ' H) → g vs σ H Q
theorem xg_name {i : Nat} {js : List Nat} (h : i ∈ js) : XG (gName i) φ js ρ (ρ.set i (some φ)) := fun G H σ v Q E s p k => k _ (E.set i p) (Off.set h)
theorem xgs_nil {js : List Nat} : XGs gNil [] js ρ ρ := fun G H σ vs Q E s p k => by
  cases p
  exact ⟨rfl, k σ E (Off.refl js σ)⟩
theorem xgs_cons {g : TG} {gs : TGs} {φs : List SP} {js : List Nat} {ρ1 ρ2 : Env} (h : XG g φ js ρ ρ1) (hs : XGs gs φs js ρ1 ρ2) : XGs (gCons g gs) (φ :: φs) js ρ ρ2 := fun G H σ vs Q E s p k => by
  cases p with
  | cons p ps => exact ⟨_, _, rfl, h G H σ _ _ E s p fun σ1 E1 o1 => hs G H σ1 _ Q E1 s ps fun σ2 E2 o2 => k σ2 E2 (o1.trans o2)⟩
theorem ps_of_rp {G : Hp} : ∀ {vs : List V} {ds : List PyData}, RpAll G vs ds → Ps G vs (ds.map dat)
  | _, _, .nil => .nil
  | _, _, .cons h r => .cons h (ps_of_rp r)
theorem xg_tup {gs : TGs} {ds : List PyData} {js : List Nat} {ρ2 : Env} {n : Nat} (h : XGs gs (ds.map dat) js ρ ρ2) (hn : ds.length = n) : XG (gTup K n gs) (dat (.tuple ds)) js ρ ρ2 := fun G H σ v Q E s p k => by
  obtain ⟨a, xs, rfl, ha, r⟩ := Rp.tup_inv p
  exact ⟨a, xs, rfl, SqT.of (s _ _ ha), by rw [r.length, hn], h G H σ xs Q E s (ps_of_rp r) k⟩
theorem xg_tup2 {i j : Nat} {d e : PyData} {js : List Nat} (hi : i ∈ js) (hj : j ∈ js) : XG (gTup K 2 (gCons (gName i) (gCons (gName j) gNil))) (dat (.tuple [d, e])) js ρ ((ρ.set i (some (dat d))).set j (some (dat e))) :=
  xg_tup (ds := [d, e]) (xgs_cons (xg_name hi) (xgs_cons (xg_name hj) xgs_nil)) rfl
/-! ### comprehensions -/
/-- what is made behind i items -/
def made {α : Type} (l : List α) (F : α → Bool) (E : α → PyData) (i : Nat) : List PyData := ((l.take i).filter F).map E
theorem made_next {α : Type} {l : List α} {F : α → Bool} {E : α → PyData} {i : Nat} {x : α} (h : l[i]? = some x) : made l F E (i + 1) = made l F E i ++ (if F x = true then [E x] else []) := by
  unfold made
  rw [List.take_add_one, h, List.filter_append, List.map_append]
  congr 1
  cases hF : F x with
  | true => simp [hF]
  | false => simp [hF]
theorem made_len {α : Type} (l : List α) (F : α → Bool) (E : α → PyData) (i : Nat) : (made l F E i).length ≤ l.length := by
  unfold made
  rw [List.length_map]
  exact Nat.le_trans (List.length_filter_le _ _) (by rw [List.length_take]; exact Nat.min_le_right _ _)
theorem made_all {α : Type} (l : List α) (F : α → Bool) (E : α → PyData) : made l F E l.length = (l.filter F).map E := by
  unfold made
  rw [List.take_length]
/-- an owned list: H has it, G does not -/
structure Own (G H : Hp) (l : Addr) (o : HO) : Prop where
  h : H l = some o
  g : G l = none
theorem Own.step {G H G2 H2 : Hp} {l : Addr} {o : HO} (w : Own G H l o) (t : Stp A G H G2 H2) (nb : ¬ A.B l) : Own G2 H2 l o := by
  refine ⟨t.h l o w.h nb, ?_⟩
  cases e : G2 l with
  | none => rfl
  | some u =>
    rcases t.n l u e with q | q
    · rw [w.g] at q
      cases q
    · rw [w.h] at q
      cases q
theorem Own.step0 {G H G2 H2 : Hp} {l : Addr} {o : HO} (w : Own G H l o) (t : Stp A0 G H G2 H2) : Own G2 H2 l o := w.step t fun z => z
theorem Own.ne {G H : Hp} {l m : Addr} {o : HO} (w : Own G H l o) {u : HO} (h : G m = some u) : m ≠ l := fun e => by
  rw [e, w.g] at h
  cases h
/-- the list D grows, all else stands -/
theorem stp_own {G0 H0 G H : Hp} {D : Addr} {o : HO} (s0 : Same H0 H) (g : Same G0 G) (s : Same G H) (n : ∀ a u, G a = some u → G0 a = some u ∨ H0 a = none) (hD : H0 D = none) (w : G D = none) : Stp A0 G0 H0 G (upd H D o) where
  h := fun a u e _ => by
    rw [upd_ne (ne_of_none e hD)]
    exact s0 a u e
  g := g
  s := same_mut s w
  n := n
  k := fun a e => by
    by_cases q : a = D
    · rw [q]
      exact hD
    · rw [upd_ne q] at e
      exact s0.free e
/-- the list is finished: it stands still from now on -/
theorem stp_seal {G0 H0 G H : Hp} {D : Addr} {o : HO} (t : Stp A G0 H0 G H) (hD : H0 D = none) (w : Own G H D o) : Stp A G0 H0 (upd G D o) H ∧ Same G (upd G D o) := by
  have s1 : Same G (upd G D o) := same_new w.g
  refine ⟨⟨t.h, t.g.trans s1, fun a u e => ?_, fun a u e => ?_, t.k⟩, s1⟩
  · by_cases q : a = D
    · subst q
      rw [upd_same] at e
      rw [← Option.some.inj e]
      exact w.h
    · rw [upd_ne q] at e
      exact t.s a u e
  · by_cases q : a = D
    · subst q
      exact .inr hD
    · rw [upd_ne q] at e
      exact t.n a u e
theorem xe_lc {α : Type} {wi : TI} {g : TG} {vs js : List Nat} {l : List α} {ψ : α → SP} {F : α → Bool} {E : α → PyData} {ρx : α → Env} (hi : XI wi ρ (l.map ψ)) (hz : l.length ≤ 100000) (hjs : ∀ i ∈ js, i ∈ vs)
    (hx : ∀ x, x ∈ l → XG g (ψ x) js (wipeE ρ vs) (ρx x) ∧ XT A0 tt (ρx x) (F x) ∧ (F x = true → XE A0 te (ρx x) (dat (E x)))) : XE A0 (tLc wi g tt te vs) ρ (dat (.list ((l.filter F).map E))) := fun G H σ Q Ev s _ k =>
  hi G H σ _ Ev s fun J G1 H1 t1 wk => by
    intro D hD
    have hl : (l.map ψ).length = l.length := List.length_map ..
    rw [hl] at wk
    refine lc_it wk (fun i H' => ∃ G' xs, Same G1 G' ∧ Same G' H' ∧ Same H1 H' ∧ (∀ a u, G' a = some u → G1 a = some u ∨ H1 a = none) ∧ Own G' H' D (.lst xs) ∧ RpAll G' xs (made l F E i)) ?_ (fun i H' _ ⟨G', xs, a, b, _⟩ => a.trans b) ?_ ?_
    · exact ⟨G1, [], Same.refl _, same_mut t1.s (t1.s.free hD), same_new hD, fun a u e => .inl e, ⟨upd_same, t1.s.free hD⟩, .nil⟩
    · rintro i x H' H2 hlt ⟨G', xs, a, b, c, n, w, r⟩ y
      obtain ⟨z, hz2⟩ : ∃ z, l[i]? = some z := ⟨l[i], List.getElem?_eq_getElem hlt⟩
      obtain ⟨G2, t2, p2⟩ := y G' (ψ z) a b (by rw [List.getElem?_map, hz2] <;> rfl)
      obtain ⟨hg, ht, he⟩ := hx z (List.mem_of_getElem? hz2)
      have Ew : EnvOk G2 (wipe σ vs) (wipeE ρ vs) := ((Ev.mono t1.g).mono (a.trans t2.g)).wiped vs
      refine hg G2 H2 _ x _ Ew t2.s p2 fun σ2 E2 o2 => ⟨o2.wipe hjs, ?_⟩
      refine ht G2 H2 σ2 _ E2 t2.s trivial fun G3 H3 t3 _ => ?_
      have w3 := (w.step0 t2).step0 t3
      have t23 := t2.trans t3
      have n3 : ∀ a u, G3 a = some u → G1 a = some u ∨ H1 a = none := fun q u e => by
        rcases t23.n q u e with h | h
        · exact n q u h
        · exact .inr (c.free h)
      cases hF : F z with
      | true =>
        rw [if_pos rfl]
        refine he hF G3 H3 σ2 _ (E2.mono t3.g) t3.s trivial fun v G4 H4 t4 _ p4 => ?_
        have w4 := w3.step0 t4
        have hlen : xs.length < sizeLine := by
          rw [r.length]
          exact Nat.lt_of_le_of_lt (Nat.le_trans (made_len l F E i) hz) (by decide)
        refine ⟨xs, w4.h, hlen, G4, xs ++ [v], (a.trans t23.g).trans t4.g, same_mut t4.s w4.g, fun q u e => ?_, fun q u e => ?_, ⟨upd_same, w4.g⟩, ?_⟩
        · rw [upd_ne (ne_of_none e hD)]
          exact t4.same _ _ (t23.same _ _ (c _ _ e))
        · rcases t4.n q u e with h | h
          · exact n3 q u h
          · exact .inr (c.free (t23.k _ h))
        · rw [made_next hz2, hF, if_pos rfl]
          exact ((r.mono t23.g).mono t4.g).append (.cons p4 .nil)
      | false =>
        rw [if_neg Bool.false_ne_true]
        refine ⟨G3, xs, a.trans t23.g, t3.s, c.trans t23.same, n3, w3, ?_⟩
        rw [made_next hz2, hF, if_neg Bool.false_ne_true, List.append_nil]
        exact r.mono t23.g
    · rintro H' ⟨G', xs, a, b, c, n, w, r⟩
      rw [made_all] at r
      have t2 : Stp A0 G1 H1 G' H' := ⟨fun q u e _ => c q u e, a, b, n, same_k c⟩
      obtain ⟨t3, s3⟩ := stp_seal t2 hD w
      exact k _ _ _ (t1.trans t3) trivial (.lst upd_same (r.mono s3))
/-- a comprehension without a test -/
theorem xe_lcAll {α : Type} {wi : TI} {g : TG} {vs js : List Nat} {l : List α} {ψ : α → SP} {E : α → PyData} {ρx : α → Env} (hi : XI wi ρ (l.map ψ)) (hz : l.length ≤ 100000) (hjs : ∀ i ∈ js, i ∈ vs)
    (hx : ∀ x, x ∈ l → XG g (ψ x) js (wipeE ρ vs) (ρx x) ∧ XE A0 te (ρx x) (dat (E x))) : XE A0 (tLc wi g tYes te vs) ρ (dat (.list (l.map E))) := by
  have h := xe_lc (F := fun _ => true) (E := E) (te := te) (tt := tYes) hi hz hjs fun x m => ⟨(hx x m).1, fun G H σ Q Ev s j k => k G H (Stp.refl s) j, fun _ => (hx x m).2⟩
  have e : l.filter (fun _ => true) = l := List.filter_eq_self.mpr fun _ _ => rfl
  rw [e] at h
  exact h
/-! ### calls -/
/-- the promise of a def: from facts of the arguments to a fact of the value -/
def spA (A : Amb) (pre : List SP) (post : SP) : Sp := fun vs H Q _ => ∃ G, Same G H ∧ A.J G H ∧ Ps G vs pre ∧ ∀ v G2 H2, Stp A G H G2 H2 → A.J G2 H2 → post.p G2 v → Q v H2
theorem xe_call {ta : TA} {φs : List SP} {sp : Sp} {E : XK} (h : XA A ta ρ φs) (hs : ∀ vs H Q, spA A φs φ vs H Q E → sp vs H Q E) : XE A (tCall sp [] E ta) ρ φ := fun G H σ Q Ev s j k =>
  h G H σ _ Ev s j fun vs G1 H1 t1 j1 p1 => by
    show sp (vs ++ []) H1 Q E
    rw [List.append_nil]
    exact hs vs H1 Q ⟨G1, t1.s, j1, p1, fun v G2 H2 t2 j2 p2 => k v G2 H2 (t1.trans t2) j2 p2⟩
/-- .. with defaults -/
theorem xe_callD {ta : TA} {φs δs : List SP} {sp : Sp} {dvs : List V} {E : XK} (h : XA A ta ρ φs) (hd : ∀ G, Ps G dvs δs) (hs : ∀ vs H Q, spA A (φs ++ δs) φ vs H Q E → sp vs H Q E) : XE A (tCall sp dvs E ta) ρ φ := fun G H σ Q Ev s j k =>
  h G H σ _ Ev s j fun vs G1 H1 t1 j1 p1 => by
    have app : ∀ {vs : List V} {φs : List SP}, Ps G1 vs φs → Ps G1 (vs ++ dvs) (φs ++ δs) := fun {vs φs} p => by
      induction p with
      | nil => exact hd G1
      | cons h _ ih => exact .cons h ih
    exact hs _ H1 Q ⟨G1, t1.s, j1, app p1, fun v G2 H2 t2 j2 p2 => k v G2 H2 (t1.trans t2) j2 p2⟩
/-! ### objects -/
/-- an instance of the class at C with these attributes -/
def insS (C : Addr) (ns : List Str) (φs : List SP) : SP := ⟨fun G v => ∃ a dx us, v = .ref a ∧ G a = some (.ins C dx (ns.zip us)) ∧ ns.length = us.length ∧ Ps G us φs, fun s ⟨a, dx, us, e, h, l, p⟩ => ⟨a, dx, us, e, s _ _ h, l, p.mono s⟩⟩
theorem look_zip {f : Str} : ∀ {ns : List Str} {us : List V} {i : Nat}, ns.length = us.length → ns.findIdx? (fun n => decide (n = f)) = some i → (ns.zip us).lookup f = us[i]?
  | [], _, _, _, h => by simp at h
  | n :: ns, [], _, hl, _ => by simp at hl
  | n :: ns, u :: us, i, hl, h => by
    rw [List.findIdx?_cons] at h
    by_cases q : n = f
    · rw [if_pos (decide_eq_true q)] at h
      obtain rfl := Option.some.inj h
      subst q
      simp [List.zip_cons_cons, List.lookup_cons]
    · rw [if_neg (by simpa using q)] at h
      obtain ⟨j, hj, rfl⟩ := Option.map_eq_some_iff.mp h
      have q2 : (f == n) = false := by
        rw [beq_eq_false_iff_ne]
        exact fun e => q e.symm
      rw [List.zip_cons_cons, List.lookup_cons, q2]
      show (ns.zip us).lookup f = us[j]?
      exact look_zip (by simpa using hl) hj
theorem look_none {f : Str} : ∀ {ns : List Str} {us : List V}, ns.contains f = false → (ns.zip us).lookup f = none
  | [], _, _ => by simp
  | n :: ns, [], _ => by simp
  | n :: ns, u :: us, h => by
    rw [List.contains_cons] at h
    obtain ⟨h1, h2⟩ := Bool.or_eq_false_iff.mp h
    rw [List.zip_cons_cons, List.lookup_cons, h1]
    exact look_none h2
theorem ps_get {G : Hp} : ∀ {us : List V} {φs : List SP} {i : Nat} {φ : SP}, Ps G us φs → φs[i]? = some φ → ∃ u, us[i]? = some u ∧ φ.p G u
  | _, _, _, _, .nil, h => by simp at h
  | _, _, 0, _, .cons p _, h => by
    simp at h
    subst h
    exact ⟨_, rfl, p⟩
  | _, _, i + 1, _, .cons _ r, h => ps_get (i := i) r (by simpa using h)
theorem xe_fld {C : Addr} {ns : List Str} {φs : List SP} {f : Str} {i : Nat} (h : XE A ta ρ (insS C ns φs)) (c : Cls K C) (n : NoAttr K C f) (hi : ns.findIdx? (fun n => decide (n = f)) = some i) (hφ : φs[i]? = some φ) : XE A (tFld K ta f) ρ φ := fun G H σ Q Ev s j k =>
  h G H σ _ Ev s j fun v G1 H1 t1 j1 p1 => by
    obtain ⟨a, dx, us, rfl, ha, hl, ps⟩ := p1
    obtain ⟨u, hu, pu⟩ := ps_get ps hφ
    exact ⟨a, C, dx, _, u, rfl, t1.s _ _ ha, c, n, by rw [look_zip hl hi]; exact hu, k u G1 H1 t1 j1 pu⟩
theorem xe_meth {C : Addr} {m : Str} {ns : List Str} {φs χs : List SP} {ta2 : TA} {sp : Sp} {E : XK} (h : XE A ta ρ (insS C ns φs)) (hm : ns.contains m = false) (ha : XA A ta2 ρ χs) (hs : ∀ vs H Q, spA A (insS C ns φs :: χs) φ vs H Q E → sp vs H Q E) : XE A (tMeth C m sp [] E ta ta2) ρ φ := fun G H σ Q Ev s j k =>
  h G H σ _ Ev s j fun v G1 H1 t1 j1 p1 => by
    obtain ⟨a, dx, us, e, h1, hl, ps⟩ := id p1
    refine ⟨a, dx, _, e, t1.s _ _ h1, look_none hm, ?_⟩
    refine ha G1 H1 σ _ (Ev.mono t1.g) t1.s j1 fun vs G2 H2 t2 j2 p2 => ?_
    show sp (v :: (vs ++ [])) H2 Q E
    rw [List.append_nil]
    exact hs _ H2 Q ⟨G2, t2.s, j2, .cons ((insS C ns φs).mono t2.g p1) p2, fun w G3 H3 t3 j3 p3 => k w G3 H3 ((t1.trans t2).trans t3) j3 p3⟩
/-! ### states -/
structure At (A : Amb) (G0 H0 G H : Hp) (σ : L2.St) (ρ : Env) : Prop where
  env : EnvOk G σ ρ
  stp : Stp A G0 H0 G H
  j : A.J G H
variable {G0 H0 G H : Hp} {σ : L2.St} {D : Ends} {t u tz tw : TS}
theorem At.s (a : At A G0 H0 G H σ ρ) : Same G H := a.stp.s
end
end Ls
/-! Lay3 -/
set_option maxHeartbeats 4000000
/-! The layer, third part: statements. -/
namespace Ls
open PySem PySem.Spec PyProof.Rows L2
section
variable {A : Amb} {ρ : Env} {te ta tb tc : TE} {tt tu : TT} {φ ψ χ : SP} {K : PySem.W.Frag} {G0 H0 G H : Hp} {σ : L2.St} {D : Ends} {t u tz tw : TS}
theorem At.step {G2 H2 : Hp} (a : At A G0 H0 G H σ ρ) (s : Stp A G H G2 H2) (j : A.J G2 H2) : At A G0 H0 G2 H2 σ ρ := ⟨a.env.mono s.g, a.stp.trans s, j⟩
theorem At.step0 {G2 H2 : Hp} (a : At A G0 H0 G H σ ρ) (s : Stp A0 G H G2 H2) : At A G0 H0 G2 H2 σ ρ := a.step s.up (s.j a.j)
theorem At.begin {vs : List V} {N : List Str} (E : EnvOk G (start N vs) ρ) (s : Same G H) (j : A.J G H) : At A G H G H (start N vs) ρ := ⟨E, Stp.refl s, j⟩
theorem At.re {ρ' : Env} {σ' : L2.St} (a : At A G0 H0 G H σ ρ) (E : EnvOk G σ' ρ') : At A G0 H0 G H σ' ρ' := ⟨E, a.stp, a.j⟩
/-- an expression, a test, from here -/
theorem At.e {Q : VK} (a : At A G0 H0 G H σ ρ) (h : XE A te ρ φ) (k : ∀ v G2 H2, Stp A G H G2 H2 → At A G0 H0 G2 H2 σ ρ → φ.p G2 v → Q v H2) : te σ H Q := h G H σ Q a.env a.stp.s a.j fun v G2 H2 s j p => k v G2 H2 s (a.step s j) p
theorem s_asg {i : Nat} (a : At A G0 H0 G H σ ρ) (h : XE A te ρ φ) (k : ∀ v G2 H2, Stp A G H G2 H2 → φ.p G2 v → At A G0 H0 G2 H2 (σ.set i (some v)) (ρ.set i (some φ)) → D.nx (σ.set i (some v)) H2) : tAsg te (gName i) D σ H :=
  a.e h fun v G2 H2 s a2 p => k v G2 H2 s p (a2.re (a2.env.set i p))
theorem q_asg {i : Nat} (a : At A G0 H0 G H σ ρ) (h : XE A te ρ φ) (k : ∀ v G2 H2, Stp A G H G2 H2 → φ.p G2 v → At A G0 H0 G2 H2 (σ.set i (some v)) (ρ.set i (some φ)) → tz D (σ.set i (some v)) H2) : tSeq (tAsg te (gName i)) tz D σ H :=
  s_asg (D := { D with nx := tz D }) a h k
theorem s_asgG {g : TG} {js : List Nat} {ρ2 : Env} (a : At A G0 H0 G H σ ρ) (h : XE A te ρ φ) (hg : XG g φ js ρ ρ2) (k : ∀ σ2 G2 H2, Stp A G H G2 H2 → Off js σ σ2 → At A G0 H0 G2 H2 σ2 ρ2 → D.nx σ2 H2) : tAsg te g D σ H :=
  a.e h fun v G2 H2 s a2 p => hg G2 H2 σ v _ a2.env a2.s p fun σ2 E2 o => k σ2 G2 H2 s o (a2.re E2)
theorem q_asgG {g : TG} {js : List Nat} {ρ2 : Env} (a : At A G0 H0 G H σ ρ) (h : XE A te ρ φ) (hg : XG g φ js ρ ρ2) (k : ∀ σ2 G2 H2, Stp A G H G2 H2 → Off js σ σ2 → At A G0 H0 G2 H2 σ2 ρ2 → tz D σ2 H2) : tSeq (tAsg te g) tz D σ H :=
  s_asgG (D := { D with nx := tz D }) a h hg k
theorem s_ret (a : At A G0 H0 G H σ ρ) (h : XE A te ρ φ) (k : ∀ v G2 H2, Stp A G0 H0 G2 H2 → A.J G2 H2 → φ.p G2 v → D.rt v H2) : tRet te D σ H := a.e h fun v G2 H2 s a2 p => k v G2 H2 a2.stp a2.j p
theorem s_drop (a : At A G0 H0 G H σ ρ) (h : XE A te ρ φ) (k : ∀ v G2 H2, Stp A G H G2 H2 → At A G0 H0 G2 H2 σ ρ → φ.p G2 v → D.nx σ H2) : tDrop te D σ H := a.e h k
theorem q_drop (a : At A G0 H0 G H σ ρ) (h : XE A te ρ φ) (k : ∀ v G2 H2, Stp A G H G2 H2 → At A G0 H0 G2 H2 σ ρ → φ.p G2 v → tz D σ H2) : tSeq (tDrop te) tz D σ H := a.e h k
theorem s_if {b : Bool} (a : At A G0 H0 G H σ ρ) (h : XT A tt ρ b) (h1 : b = true → ∀ G2 H2, Stp A G H G2 H2 → At A G0 H0 G2 H2 σ ρ → t D σ H2) (h2 : b = false → ∀ G2 H2, Stp A G H G2 H2 → At A G0 H0 G2 H2 σ ρ → u D σ H2) : tIfS tt t u D σ H :=
  h G H σ _ a.env a.s a.j fun G2 H2 s j => by
    cases b with
    | true =>
      rw [if_pos rfl]
      exact h1 rfl G2 H2 s (a.step s j)
    | false =>
      rw [if_neg Bool.false_ne_true]
      exact h2 rfl G2 H2 s (a.step s j)
theorem q_if {b : Bool} (a : At A G0 H0 G H σ ρ) (h : XT A tt ρ b) (h1 : b = true → ∀ G2 H2, Stp A G H G2 H2 → At A G0 H0 G2 H2 σ ρ → t { D with nx := tz D } σ H2) (h2 : b = false → ∀ G2 H2, Stp A G H G2 H2 → At A G0 H0 G2 H2 σ ρ → u { D with nx := tz D } σ H2) : tSeq (tIfS tt t u) tz D σ H :=
  s_if (D := { D with nx := tz D }) a h h1 h2
/-- an if that is not taken (its body may be code that is never reached) -/
theorem q_no (a : At A G0 H0 G H σ ρ) (h : XT A tt ρ false) (k : ∀ G2 H2, Stp A G H G2 H2 → At A G0 H0 G2 H2 σ ρ → tz D σ H2) : tSeq (tIfS tt t tNext) tz D σ H :=
  q_if a h (fun e => by cases e) fun _ G2 H2 s a2 => k G2 H2 s a2
theorem s_no (a : At A G0 H0 G H σ ρ) (h : XT A tt ρ false) (k : ∀ G2 H2, Stp A G H G2 H2 → At A G0 H0 G2 H2 σ ρ → D.nx σ H2) : tIfS tt t tNext D σ H :=
  s_if a h (fun e => by cases e) fun _ G2 H2 s a2 => k G2 H2 s a2
theorem s_aug {i : Nat} {x y : Int} {f : Int → Int → Int} (a : At A G0 H0 G H σ ρ) (hx : ρ[i]? = some (some (dat (.int x)))) (h : XE A te ρ (dat (.int y))) (k : ∀ G2 H2, Stp A G H G2 H2 → At A G0 H0 G2 H2 (σ.set i (some (.int (f x y)))) (ρ.set i (some (dat (.int (f x y))))) → D.nx (σ.set i (some (.int (f x y)))) H2) : tAug i te (ipI f) D σ H := by
  obtain ⟨v, e, p⟩ := a.env.at_ i _ hx
  refine ⟨v, e, a.e h fun w G2 H2 s a2 p2 => ⟨x, y, p.int_inv, p2.int_inv, k G2 H2 s (a2.re (a2.env.set i (.int _)))⟩⟩
theorem s_par {i j : Nat} {φs : List SP} {ta2 : TA} (a : At A G0 H0 G H σ ρ) (h : XA A ta2 ρ [φ, ψ]) (k : ∀ v w G2 H2, Stp A G H G2 H2 → φ.p G2 v → ψ.p G2 w → At A G0 H0 G2 H2 ((σ.set i (some v)).set j (some w)) ((ρ.set i (some φ)).set j (some ψ)) → D.nx ((σ.set i (some v)).set j (some w)) H2) : tPar i j ta2 D σ H :=
  h G H σ _ a.env a.s a.j fun vs G2 H2 s jj p => by
    obtain ⟨v, w, rfl, p1, p2⟩ := ps_two p
    have a2 := a.step s jj
    exact ⟨v, w, rfl, k v w G2 H2 s p1 p2 (a2.re ((a2.env.set i p1).set j p2))⟩
theorem q_par {i j : Nat} {ta2 : TA} (a : At A G0 H0 G H σ ρ) (h : XA A ta2 ρ [φ, ψ]) (k : ∀ v w G2 H2, Stp A G H G2 H2 → φ.p G2 v → ψ.p G2 w → At A G0 H0 G2 H2 ((σ.set i (some v)).set j (some w)) ((ρ.set i (some φ)).set j (some ψ)) → tz D ((σ.set i (some v)).set j (some w)) H2) : tSeq (tPar i j ta2) tz D σ H :=
  s_par (D := { D with nx := tz D }) (φs := []) a h k
/-! ### loops -/
/-- N: what the body is to reach -/
theorem s_for {α : Type} {wi : TI} {g : TG} {tb : TS} {l : List α} {ψ : α → SP} (a : At A G0 H0 G H σ ρ) (hi : XI wi ρ (l.map ψ)) (P : Nat → Hp → Hp → L2.St → Prop)
    (hP : ∀ i G1 H1 σ1, P i G1 H1 σ1 → Same G1 H1) (h0 : ∀ G1 H1, Stp A0 G H G1 H1 → P 0 G1 H1 σ)
    (hs : ∀ i x G1 H1 σ1, l[i]? = some x → P i G1 H1 σ1 → ∀ v G2 H2, Stp A0 G1 H1 G2 H2 → (ψ x).p G2 v → g v σ1 H2 fun σ2 H3 => tb { D with nx := fun σ' H' => ∃ G', Same G1 G' ∧ P (i + 1) G' H' σ', ct := fun σ' H' => ∃ G', Same G1 G' ∧ P (i + 1) G' H' σ', bk := D.nx } σ2 H3)
    (hd : ∀ G1 H1 σ1, P l.length G1 H1 σ1 → D.nx σ1 H1) : tFor wi g tb D σ H :=
  hi G H σ _ a.env a.s fun J G1 H1 t1 wk => by
    have hl : (l.map ψ).length = l.length := List.length_map ..
    rw [hl] at wk
    refine ⟨fun i m σ' H' => m = l.length - i ∧ i ≤ l.length ∧ ∃ G', Same G1 G' ∧ P i G' H' σ', ⟨l.length, by simp, Nat.zero_le _, G1, Same.refl _, h0 G1 H1 t1⟩, ?_⟩
    rintro i m σ' H' ⟨rfl, hle, G', s, p⟩
    have sH := hP _ _ _ _ p
    by_cases hlt : i < l.length
    · refine .inr ⟨wk.goes i H' hlt (s.trans sH), fun σ2 H2 => ∃ G2, Same G' G2 ∧ P (i + 1) G2 H2 σ2, fun σ2 H2 ⟨G2, s2, p2⟩ => ⟨l.length - (i + 1), by omega, rfl, hlt, G2, s.trans s2, p2⟩, fun x H2 y => ?_⟩
      obtain ⟨z, hz⟩ : ∃ z, l[i]? = some z := ⟨l[i], List.getElem?_eq_getElem hlt⟩
      obtain ⟨G2, t2, p2⟩ := wk.yields i H' x H2 hlt (s.trans sH) y G' (ψ z) s sH (by rw [List.getElem?_map, hz] <;> rfl)
      exact hs i z G' H' σ' hz p x G2 H2 t2 p2
    · have e : i = l.length := by omega
      subst e
      exact .inl ⟨wk.stops H' (s.trans sH), hd G' H' σ' p⟩
theorem q_for {α : Type} {wi : TI} {g : TG} {tb : TS} {l : List α} {ψ : α → SP} (a : At A G0 H0 G H σ ρ) (hi : XI wi ρ (l.map ψ)) (P : Nat → Hp → Hp → L2.St → Prop)
    (hP : ∀ i G1 H1 σ1, P i G1 H1 σ1 → Same G1 H1) (h0 : ∀ G1 H1, Stp A0 G H G1 H1 → P 0 G1 H1 σ)
    (hs : ∀ i x G1 H1 σ1, l[i]? = some x → P i G1 H1 σ1 → ∀ v G2 H2, Stp A0 G1 H1 G2 H2 → (ψ x).p G2 v → g v σ1 H2 fun σ2 H3 => tb { D with nx := fun σ' H' => ∃ G', Same G1 G' ∧ P (i + 1) G' H' σ', ct := fun σ' H' => ∃ G', Same G1 G' ∧ P (i + 1) G' H' σ', bk := tz D } σ2 H3)
    (hd : ∀ G1 H1 σ1, P l.length G1 H1 σ1 → tz D σ1 H1) : tSeq (tFor wi g tb) tz D σ H :=
  s_for (D := { D with nx := tz D }) a hi P hP h0 hs hd
/-- while, by a word with its measure; the test is known -/
theorem s_while {c : TT} {tb : TS} (P : Nat → Hp → Hp → L2.St → Prop) (m0 : Nat) (h0 : P m0 G H σ)
    (hs : ∀ m G1 H1 σ1, P m G1 H1 σ1 → ∃ b, (∀ Q : Bool → Hp → Prop, (∀ G2 H2, Stp A0 G1 H1 G2 H2 → Q b H2) → c σ1 H1 Q) ∧
      (b = true → ∀ G2 H2, Stp A0 G1 H1 G2 H2 → tb { D with nx := fun σ' H' => ∃ m' G', m' < m ∧ P m' G' H' σ', ct := fun σ' H' => ∃ m' G', m' < m ∧ P m' G' H' σ', bk := D.nx } σ1 H2) ∧
      (b = false → ∀ G2 H2, Stp A0 G1 H1 G2 H2 → D.nx σ1 H2)) : tWhile c tb D σ H := by
  refine ⟨fun m σ' H' => ∃ G', P m G' H' σ', ⟨m0, G, h0⟩, ?_⟩
  rintro m σ' H' ⟨G', p⟩
  obtain ⟨b, h1, h2, h3⟩ := hs m G' H' σ' p
  refine h1 _ fun G2 H2 s => ?_
  cases b with
  | true =>
    rw [if_pos rfl]
    exact ⟨_, fun σ2 H3 ⟨m', G3, lt, p2⟩ => ⟨m', lt, G3, p2⟩, h2 rfl G2 H2 s⟩
  | false =>
    rw [if_neg Bool.false_ne_true]
    exact h3 rfl G2 H2 s
theorem q_while {c : TT} {tb : TS} (P : Nat → Hp → Hp → L2.St → Prop) (m0 : Nat) (h0 : P m0 G H σ)
    (hs : ∀ m G1 H1 σ1, P m G1 H1 σ1 → ∃ b, (∀ Q : Bool → Hp → Prop, (∀ G2 H2, Stp A0 G1 H1 G2 H2 → Q b H2) → c σ1 H1 Q) ∧
      (b = true → ∀ G2 H2, Stp A0 G1 H1 G2 H2 → tb { D with nx := fun σ' H' => ∃ m' G', m' < m ∧ P m' G' H' σ', ct := fun σ' H' => ∃ m' G', m' < m ∧ P m' G' H' σ', bk := tz D } σ1 H2) ∧
      (b = false → ∀ G2 H2, Stp A0 G1 H1 G2 H2 → tz D σ1 H2)) : tSeq (tWhile c tb) tz D σ H :=
  s_while (D := { D with nx := tz D }) P m0 h0 hs
/-- an owned object changes -/
theorem At.mut {l : Addr} {o o' : HO} (a : At A G0 H0 G H σ ρ) (w : Own G H l o) (f : H0 l = none) (nb : ¬ A.B l) : At A G0 H0 G (upd H l o') σ ρ ∧ Own G (upd H l o') l o' := by
  refine ⟨⟨a.env, ⟨fun b u q nq => ?_, a.stp.g, same_mut a.s w.g, a.stp.n, fun b q => ?_⟩, A.mt a.j w.h w.g nb⟩, upd_same, w.g⟩
  · rw [upd_ne (ne_of_none q f)]
    exact a.stp.h b u q nq
  · by_cases z : b = l
    · rw [z]
      exact f
    · rw [upd_ne z] at q
      exact a.stp.k b q
/-- .. another stays -/
theorem Own.mut {l m : Addr} {o' u : HO} (w : Own G H m u) (ne : m ≠ l) : Own G (upd H l o') m u := ⟨by rw [upd_ne ne]; exact w.h, w.g⟩
theorem Own.apart {l m : Addr} {o u : HO} (w : Own G H l o) (w2 : Own G H m u) (ne : o ≠ u) : l ≠ m := fun e => by
  have h1 := w.h
  rw [e, w2.h] at h1
  exact ne (Option.some.inj h1).symm
/-- an owned object stands still from now on -/
theorem At.seal {l : Addr} {o : HO} (a : At A G0 H0 G H σ ρ) (w : Own G H l o) (f : H0 l = none) (nb : ¬ A.B l) : At A G0 H0 (upd G l o) H σ ρ ∧ Same G (upd G l o) := by
  obtain ⟨t, s⟩ := stp_seal a.stp f w
  exact ⟨⟨a.env.mono s, t, A.sl a.j w.h w.g nb⟩, s⟩
theorem Own.seal {l m : Addr} {o u : HO} (w : Own G H m u) (ne : m ≠ l) : Own (upd G l o) H m u := ⟨w.h, by rw [upd_ne ne]; exact w.g⟩
/-- a new owned object -/
theorem At.fresh {l : Addr} {o : HO} (a : At A G0 H0 G H σ ρ) (h : H l = none) : At A G0 H0 G (upd H l o) σ ρ ∧ Own G (upd H l o) l o ∧ H0 l = none := by
  have s : Stp A0 G H G (upd H l o) := Stp.only a.s (same_new h)
  exact ⟨a.step0 s, ⟨upd_same, a.s.free h⟩, a.stp.k l h⟩
/-- an owned list by its name -/
theorem At.own {l : Addr} {i : Nat} (a : At A G0 H0 G H σ ρ) (hi : ρ[i]? = some (some (isV (.ref l)))) : σ[i]? = some (some (.ref l)) := by
  obtain ⟨u, e, p⟩ := a.env.at_ i _ hi
  have eu : u = .ref l := p
  rw [e, eu]
/-- l.append(x): an owned list -/
theorem s_app {l : Addr} {xs : List V} {i : Nat} (a : At A G0 H0 G H σ ρ) (w : Own G H l (.lst xs)) (f : H0 l = none) (nb : ¬ A.B l) (hi : ρ[i]? = some (some (isV (.ref l)))) (hz : xs.length ≤ 100000) (h : XE A te ρ φ)
    (k : ∀ v G2 H2, Stp A G H G2 H2 → φ.p G2 v → At A G0 H0 G2 (upd H2 l (.lst (xs ++ [v]))) σ ρ → Own G2 (upd H2 l (.lst (xs ++ [v]))) l (.lst (xs ++ [v])) → D.nx σ (upd H2 l (.lst (xs ++ [v])))) :
    tDrop (tBM K "list" rAppend (tVar i) (tCons te tNil)) D σ H := by
  refine ⟨_, a.own hi, .inl ⟨rfl, xs, SqL.of w.h⟩, ?_⟩
  refine a.e h fun v G2 H2 s a2 p2 => ?_
  have w2 := w.step s nb
  obtain ⟨a3, w3⟩ := a2.mut w2 f nb
  exact ⟨l, xs, v, rfl, rfl, w2.h, Nat.lt_of_le_of_lt hz (by decide), k v G2 H2 s p2 a3 w3⟩
theorem q_app {l : Addr} {xs : List V} {i : Nat} (a : At A G0 H0 G H σ ρ) (w : Own G H l (.lst xs)) (f : H0 l = none) (nb : ¬ A.B l) (hi : ρ[i]? = some (some (isV (.ref l)))) (hz : xs.length ≤ 100000) (h : XE A te ρ φ)
    (k : ∀ v G2 H2, Stp A G H G2 H2 → φ.p G2 v → At A G0 H0 G2 (upd H2 l (.lst (xs ++ [v]))) σ ρ → Own G2 (upd H2 l (.lst (xs ++ [v]))) l (.lst (xs ++ [v])) → tz D σ (upd H2 l (.lst (xs ++ [v])))) :
    tSeq (tDrop (tBM K "list" rAppend (tVar i) (tCons te tNil))) tz D σ H := s_app (D := { D with nx := tz D }) a w f nb hi hz h k
/-- l = [] : a new owned list -/
theorem q_new {i : Nat} (a : At A G0 H0 G H σ ρ) (k : ∀ l H2, H l = none → H0 l = none → Own G H2 l (.lst []) → Stp A0 G H G H2 → At A G0 H0 G H2 (σ.set i (some (.ref l))) (ρ.set i (some (isV (.ref l)))) → tz D (σ.set i (some (.ref l))) H2) : tSeq (tAsg (tLst tNil) (gName i)) tz D σ H :=
  ⟨Nat.zero_le _, fun l hl => by
    obtain ⟨a2, w, f⟩ := a.fresh (o := .lst []) hl
    exact k l _ hl f w (Stp.only a.s (same_new hl)) (a2.re (a2.env.set i rfl))⟩
/-- an expression over what we own: seen as standing still -/
theorem At.view {l : Addr} {xs : List V} {ds : List PyData} {i : Nat} (a : At A G0 H0 G H σ ρ) (w : Own G H l (.lst xs)) (hi : ρ[i]? = some (some (isV (.ref l)))) (r : RpAll G xs ds) :
    EnvOk (upd G l (.lst xs)) σ (ρ.set i (some (dat (.list ds)))) ∧ Same (upd G l (.lst xs)) H := by
  have s1 : Same G (upd G l (.lst xs)) := same_new w.g
  refine ⟨(a.env.mono s1).put (a.own hi) (.lst upd_same (r.mono s1)), fun b o e => ?_⟩
  by_cases q : b = l
  · subst q
    rw [upd_same] at e
    rw [← Option.some.inj e]
    exact w.h
  · rw [upd_ne q] at e
    exact a.s b o e
end
end Ls
/-! Lay4 -/
set_option maxHeartbeats 4000000
/-! The layer, fourth part: operations by values. -/
namespace Ls
open PySem PySem.Spec PyProof.Rows L2
section
variable {A : Amb} {ρ : Env} {te ta tb tc : TE} {tt tu : TT} {φ ψ χ : SP} {K : PySem.W.Frag} {G0 H0 G H : Hp} {σ : L2.St} {D : Ends} {t u tz tw : TS}
/-! ### isinstance -/
def tyD : PyData → String
  | .none => "NoneType"
  | .bool _ => "bool"
  | .int _ => "int"
  | .str _ => "str"
  | .list _ => "list"
  | .tuple _ => "tuple"
  | .dict _ => "dict"
theorem tyD_of {v : V} {d : PyData} (h : Rp G v d) (s : Same G H) (hn : d ≠ .none) : TyX K H v (.type (tyD d)) := by
  cases h with
  | non => exact absurd rfl hn
  | bl b => exact .base (.bl b)
  | int i => exact .base (.int i)
  | str x => exact .base (.str x)
  | lst h _ => exact .base (.lst (s _ _ h))
  | tup h _ => exact .base (.tup (s _ _ h))
theorem kit_same {n : String} : kitB n n = some true := if_pos (beq_self_eq_true _)
theorem kit_int_bool : kitB "int" "bool" = some false := by decide +kernel
theorem kit_int_str : kitB "int" "str" = some false := by decide +kernel
theorem kit_int_list : kitB "int" "list" = some false := by decide +kernel
theorem kit_int_tuple : kitB "int" "tuple" = some false := by decide +kernel
theorem kit_str_bool : kitB "str" "bool" = some false := by decide +kernel
theorem kit_str_int : kitB "str" "int" = some false := by decide +kernel
theorem kit_str_list : kitB "str" "list" = some false := by decide +kernel
theorem kit_str_tuple : kitB "str" "tuple" = some false := by decide +kernel
theorem kit_list_tuple : kitB "list" "tuple" = some false := by decide +kernel
theorem kit_tuple_list : kitB "tuple" "list" = some false := by decide +kernel
theorem xc_isi {d : PyData} {n : String} {b : Bool} (hn : d ≠ .none) (h : kitB (tyD d) n = some b) : XC A (rIsi K) [dat d, isV (.ty n)] (dat (.bool b)) := fun G H vs Q s j hv k => by
  obtain ⟨v, w, rfl, p1, p2⟩ := ps_two hv
  have e : w = .ty n := p2
  subst e
  exact ⟨v, .ty n, _, _, b, rfl, .ty n, tyD_of p1 s hn, kit_ty h, k _ G H (Stp.refl s) j (.bl _)⟩
/-- None is of no other class -/
theorem xc_isiN {n : String} {b : Bool} (h : PySem.W.kitOne K (.type "NoneType") (.type n) = some b) : XC A (rIsi K) [dat .none, isV (.ty n)] (dat (.bool b)) := fun G H vs Q s j hv k => by
  obtain ⟨v, w, rfl, p1, p2⟩ := ps_two hv
  have e : w = .ty n := p2
  subst e
  have e2 : v = .non := p1.non_inv
  subst e2
  exact ⟨.non, .ty n, .type "NoneType", _, b, rfl, .ty n, .base .non, h, k _ G H (Stp.refl s) j (.bl _)⟩
/-- a tuple of these very values -/
def tupV (cs : List V) : SP := ⟨fun G v => ∃ a, v = .ref a ∧ G a = some (.tup cs), fun s ⟨a, e, h⟩ => ⟨a, e, s _ _ h⟩⟩
theorem ps_isV {G : Hp} : ∀ {vs : List V} {cs : List V}, Ps G vs (cs.map isV) → vs = cs
  | _, [], .nil => rfl
  | _, c :: cs, .cons h r => by
    have e := ps_isV r
    rw [e]
    have e2 : _ = c := h
    rw [e2]
theorem xe_tupV {ta2 : TA} {cs : List V} (h : XA A ta2 ρ (cs.map isV)) (hl : cs.length ≤ 1000) : XE A (tTup ta2) ρ (tupV cs) := fun G H σ Q E s j k =>
  h G H σ _ E s j fun vs G1 H1 t1 j1 p1 => by
    have e := ps_isV p1
    subst e
    refine ⟨Nat.le_trans hl (by decide), fun p hp => ?_⟩
    have t2 := Stp.new (o := .tup vs) t1.s hp
    exact k _ _ _ (t1.trans t2.up) (t2.j j1) ⟨p, rfl, upd_same⟩
theorem xc_isiT {d : PyData} {n m : String} {b b2 : Bool} (hn : d ≠ .none) (h : kitB (tyD d) n = some b) (h2 : kitB (tyD d) m = some b2) : XC A (rIsiT K) [dat d, tupV [.ty n, .ty m]] (dat (.bool (b || b2))) := fun G H vs Q s j hv k => by
  obtain ⟨v, w, rfl, p1, p2⟩ := ps_two hv
  obtain ⟨a, rfl, ha⟩ := p2
  refine ⟨v, a, _, _, _, b || b2, rfl, s _ _ ha, .cons (.ty n) (.cons (.ty m) .nil), tyD_of p1 s hn, ?_, k _ G H (Stp.refl s) j (.bl _)⟩
  refine kitAny_cons (kit_ty h) (fun e => ?_) (fun e => by rw [e]; rfl)
  subst e
  refine kitAny_cons (kit_ty h2) (fun e => by rw [e]; exact kitAny_nil) (fun e => by rw [e]; rfl)
theorem xc_isiTN {n m : String} (h : PySem.W.kitOne K (.type "NoneType") (.type n) = some false) (h2 : PySem.W.kitOne K (.type "NoneType") (.type m) = some false) : XC A (rIsiT K) [dat .none, tupV [.ty n, .ty m]] (dat (.bool false)) := fun G H vs Q s j hv k => by
  obtain ⟨v, w, rfl, p1, p2⟩ := ps_two hv
  obtain ⟨a, rfl, ha⟩ := p2
  have e2 : v = .non := p1.non_inv
  subst e2
  refine ⟨.non, a, _, .type "NoneType", _, false, rfl, s _ _ ha, .cons (.ty n) (.cons (.ty m) .nil), .base .non, ?_, k _ G H (Stp.refl s) j (.bl _)⟩
  exact kitAny_cons h (fun _ => kitAny_cons h2 (fun _ => kitAny_nil) (fun e => e)) (fun e => e)
/-! ### in a written tuple of texts -/
theorem rp_strs {G : Hp} : ∀ {vs : List V} {zs : List Str}, RpAll G vs (zs.map .str) → vs = zs.map V.str
  | _, [], .nil => rfl
  | _, b :: bs, .cons h r => by
    rw [h.str_inv, rp_strs r]
    rfl
theorem inV_strs {x : Str} : ∀ {zs : List Str}, inV (.str x) (zs.map V.str) = decide (x ∈ zs)
  | [] => by simp [inV]
  | z :: zs => by
    have ih := inV_strs (x := x) (zs := zs)
    unfold inV at ih ⊢
    rw [List.map_cons, List.any_cons, ih]
    have e : eqV (.str z) (.str x) = decide (z = x) := by
      simp only [eqV]
      by_cases q : z = x
      · rw [q]
        simp
      · rw [decide_eq_false q]
        exact beq_eq_false_iff_ne.mpr q
    rw [e]
    by_cases q : z = x
    · subst q
      simp
    · have q2 : ¬ x = z := fun e => q e.symm
      simp [q, q2]
theorem flat_strs : ∀ zs : List Str, (zs.map V.str).all flatV = true
  | [] => rfl
  | z :: zs => by
    rw [List.map_cons, List.all_cons, flat_strs zs]
    rfl
theorem xr_inT {x : Str} {zs : List Str} : XR A (rIn K false) (dat (.str x)) (dat (.tuple (zs.map .str))) (dat (.bool (decide (x ∈ zs)))) := fun G H u v Q s j hx hy k => by
  obtain ⟨a, xs, rfl, ha, r⟩ := Rp.tup_inv hy
  have e := rp_strs r
  subst e
  rw [hx.str_inv]
  refine ⟨a, _, rfl, .inr (SqT.of (s _ _ ha)), rfl, flat_strs zs, ?_⟩
  rw [if_neg Bool.false_ne_true, inV_strs]
  exact k _ G H (Stp.refl s) j (.bl _)
theorem xr_notInT {x : Str} {zs : List Str} : XR A (rIn K true) (dat (.str x)) (dat (.tuple (zs.map .str))) (dat (.bool (!decide (x ∈ zs)))) := fun G H u v Q s j hx hy k => by
  obtain ⟨a, xs, rfl, ha, r⟩ := Rp.tup_inv hy
  have e := rp_strs r
  subst e
  rw [hx.str_inv]
  refine ⟨a, _, rfl, .inr (SqT.of (s _ _ ha)), rfl, flat_strs zs, ?_⟩
  rw [if_pos rfl, inV_strs]
  exact k _ G H (Stp.refl s) j (.bl _)
/-! ### texts -/
def rInSg : R2 := fun x y H Q => ∃ (c : Nat) (z : Str), x = .str ⟨#[c]⟩ ∧ y = .str z ∧ Q (.bl (decide (c ∈ z.cps.toList))) H
def rNotInSg : R2 := fun x y H Q => ∃ (c : Nat) (z : Str), x = .str ⟨#[c]⟩ ∧ y = .str z ∧ Q (.bl (!decide (c ∈ z.cps.toList))) H
theorem xr_inSg {c : Nat} {z : Str} : XR A rInSg (dat (.str ⟨#[c]⟩)) (dat (.str z)) (dat (.bool (decide (c ∈ z.cps.toList)))) := xr_val (z := .bl (decide (c ∈ z.cps.toList))) (fun _ => .bl _) fun G H x y Q s hx hy q => ⟨c, z, hx.str_inv, hy.str_inv, q⟩
theorem xr_notInSg {c : Nat} {z : Str} : XR A rNotInSg (dat (.str ⟨#[c]⟩)) (dat (.str z)) (dat (.bool (!decide (c ∈ z.cps.toList)))) := xr_val (z := .bl (!decide (c ∈ z.cps.toList))) (fun _ => .bl _) fun G H x y Q s hx hy q => ⟨c, z, hx.str_inv, hy.str_inv, q⟩
def rLtSg : R2 := fun x y H Q => ∃ i j : Str, x = .str i ∧ y = .str j ∧ Q (.bl (decide (i.cps.toList < j.cps.toList))) H
theorem xr_ltSg {x z : Str} : XR A rLtSg (dat (.str x)) (dat (.str z)) (dat (.bool (decide (x.cps.toList < z.cps.toList)))) := xr_val (z := .bl (decide (x.cps.toList < z.cps.toList))) (fun _ => .bl _) fun G H a b Q s hx hy q => ⟨x, z, hx.str_inv, hy.str_inv, q⟩
def rAddSg : R2 := fun x y H Q => ∃ i j : Str, x = .str i ∧ y = .str j ∧ i.length + j.length ≤ sizeLine ∧ Q (.str (i ++ j)) H
theorem xr_addSg {x z : Str} (hl : x.length + z.length ≤ 100000) : XR A rAddSg (dat (.str x)) (dat (.str z)) (dat (.str (x ++ z))) := xr_val (z := .str (x ++ z)) (fun _ => .str _) fun G H a b Q s hx hy q => ⟨x, z, hx.str_inv, hy.str_inv, Nat.le_trans hl (by decide), q⟩
/-! ### lists and tuples glued -/
theorem xr_cat {ds es : List PyData} (hl : ds.length + es.length ≤ 100000) : XR A rCat (dat (.list ds)) (dat (.list es)) (dat (.list (ds ++ es))) := fun G H x y Q s j hx hy k => by
  obtain ⟨a, xs, rfl, ha, r⟩ := Rp.list_inv hx
  obtain ⟨b, ys, rfl, hb, r2⟩ := Rp.list_inv hy
  refine ⟨a, b, xs, ys, rfl, rfl, s _ _ ha, s _ _ hb, by rw [r.length, r2.length]; exact Nat.le_trans hl (by decide), fun p hp => ?_⟩
  have t := Stp.new (o := .lst (xs ++ ys)) s hp
  exact k _ _ _ t.up (t.j j) (.lst upd_same ((r.append r2).mono t.g))
theorem flat_rep {α : Type} (v : α) : ∀ n : Nat, (List.replicate n [v]).flatten = List.replicate n v
  | 0 => rfl
  | n + 1 => by
    rw [List.replicate_succ, List.flatten_cons, flat_rep v n, List.replicate_succ]
    rfl
theorem xr_rep {d : PyData} {n : Nat} (hn : n ≤ 100000) : XR A rRep (dat (.list [d])) (dat (.int (n : Int))) (dat (.list (List.replicate n d))) := fun G H x y Q s j hx hy k => by
  obtain ⟨a, xs, rfl, ha, r⟩ := Rp.list_inv hx
  obtain ⟨v, rfl, hv⟩ : ∃ v, xs = [v] ∧ Rp G v d := by
    cases r with
    | cons h r =>
      cases r
      exact ⟨_, rfl, h⟩
  have en : ((n : Int)).toNat = n := by omega
  have ef : (List.replicate ((n : Int)).toNat [v]).flatten = List.replicate n v := by
    rw [en]
    exact flat_rep v n
  refine ⟨a, (n : Int), [v], rfl, hy.int_inv, s _ _ ha, by omega, by omega, by rw [en]; simp; exact Nat.le_trans hn (by decide), fun p hp => ?_⟩
  rw [ef]
  have t := Stp.new (o := .lst (List.replicate n v)) s hp
  exact k _ _ _ t.up (t.j j) (.lst upd_same ((RpAll.rep hv n).mono t.g))
theorem xr_catT {ds es : List PyData} (h1 : ds ≠ []) (h2 : es ≠ []) (hl : ds.length + es.length ≤ 100000) : XR A (rCatT K) (dat (.tuple ds)) (dat (.tuple es)) (dat (.tuple (ds ++ es))) := fun G H x y Q s j hx hy k => by
  obtain ⟨a, xs, rfl, ha, r⟩ := Rp.tup_inv hx
  obtain ⟨b, ys, rfl, hb, r2⟩ := Rp.tup_inv hy
  have n1 : xs ≠ [] := fun e => by
    rw [e] at r
    cases r
    exact h1 rfl
  have n2 : ys ≠ [] := fun e => by
    rw [e] at r2
    cases r2
    exact h2 rfl
  refine ⟨a, b, xs, ys, rfl, rfl, SqT.of (s _ _ ha), SqT.of (s _ _ hb), n1, by rw [r.length, r2.length]; exact Nat.le_trans hl (by decide), fun e => absurd e n2, fun _ p hp => ?_⟩
  have t := Stp.new (o := .tup (xs ++ ys)) s hp
  exact k _ _ _ t.up (t.j j) (.tup upd_same ((r.append r2).mono t.g))
/-! ### numbers -/
def rInt1 : List V → Hp → VK → Prop := fun xs H Q => (∃ i, xs = [.int i] ∧ Q (.int i) H) ∨ ∃ k, xs = [.bl k] ∧ Q (.int (if k then 1 else 0)) H
theorem xc_int {i : Int} : XC A rInt1 [dat (.int i)] (dat (.int i)) := fun G H vs Q s j hv k => by
  obtain ⟨v, rfl, p⟩ := ps_one hv
  exact .inl ⟨i, by rw [p.int_inv], k _ G H (Stp.refl s) j (.int _)⟩
theorem xc_intB {b : Bool} : XC A rInt1 [dat (.bool b)] (dat (.int (if b then 1 else 0))) := fun G H vs Q s j hv k => by
  obtain ⟨v, rfl, p⟩ := ps_one hv
  exact .inr ⟨b, by rw [p.bl_inv], k _ G H (Stp.refl s) j (.int _)⟩
def rMin2Q : List V → Hp → VK → Prop := fun xs H Q => ∃ i j, xs = [.int i, .int j] ∧ Q (.int (if j < i then j else i)) H
theorem xc_min {a b : Int} : XC A rMin2Q [dat (.int a), dat (.int b)] (dat (.int (if b < a then b else a))) := fun G H vs Q s j hv k => by
  obtain ⟨v, w, rfl, p, p2⟩ := ps_two hv
  exact ⟨a, b, by rw [p.int_inv, p2.int_inv], k _ G H (Stp.refl s) j (.int _)⟩
def rStrQ : List V → Hp → VK → Prop := fun xs H Q => ∃ i : Int, xs = [.int i] ∧ i.natAbs.log2 < 1920 ∧ Q (.str (toString i)) H
theorem xc_str {i : Int} (h : i.natAbs < 2 ^ 64) : XC A rStrQ [dat (.int i)] (dat (.str (toString i))) := fun G H vs Q s j hv k => by
  obtain ⟨v, rfl, p⟩ := ps_one hv
  refine ⟨i, by rw [p.int_inv], ?_, k _ G H (Stp.refl s) j (.str _)⟩
  by_cases h0 : i.natAbs = 0
  · rw [h0]
    decide
  · have := (Nat.log2_lt h0).mpr h
    omega
theorem xc_max {ns : List Int} (h0 : 0 < ns.length) : XC A (rMax K) [dat (.list (ns.map .int))] (ex (fun m : Int => m ∈ ns ∧ ∀ y ∈ ns, y ≤ m) fun m => dat (.int m)) := fun G H vs Q s j hv k => by
  obtain ⟨v, rfl, p⟩ := ps_one hv
  obtain ⟨a, xs, rfl, ha, r⟩ := Rp.list_inv p
  exact ⟨a, ns, rfl, SqL.of (by rw [← rp_ints r]; exact s _ _ ha), h0, fun m h1 h2 => k _ G H (Stp.refl s) j ⟨m, ⟨h1, h2⟩, .int m⟩⟩
/-! ### by numbers -/
theorem xr_ixLn {ds : List PyData} {n : Nat} {d : PyData} (h : ds[n]? = some d) : XR A (rIxL K) (dat (.list ds)) (dat (.int (n : Int))) (dat d) := xr_ixL (by omega) (by rw [Int.toNat_natCast]; exact h)
theorem xr_ixTn {ds : List PyData} {n : Nat} {d : PyData} (h : ds[n]? = some d) : XR A (rIxT K) (dat (.tuple ds)) (dat (.int (n : Int))) (dat d) := xr_ixT (by omega) (by rw [Int.toNat_natCast]; exact h)
/-- an item of a list of one kind -/
theorem map_get {α β : Type} {f : α → β} {l : List α} {n : Nat} {x : α} (h : l[n]? = some x) : (l.map f)[n]? = some (f x) := by
  rw [List.getElem?_map, h]
  rfl
theorem map_comp {α β γ : Type} (g : β → γ) (f : α → β) (l : List α) : l.map (fun x => g (f x)) = (l.map f).map g := by
  rw [List.map_map]
  rfl
theorem xi_listT {α : Type} {tl : TE} {l : List α} {e : α → PyData} (h : XE A0 tl ρ (dat (.list (l.map e)))) : XI (iList K tl) ρ (l.map fun x => dat (e x)) := by
  rw [map_comp dat e l]
  exact xi_list h
theorem xi_strT {z : Str} (h : XE A0 te ρ (dat (.str z))) : XI (iStr te) ρ (z.cps.toList.map fun c => dat (.str ⟨#[c]⟩)) := xi_str h
theorem xi_rangeT {ta : TA} {n : Nat} (h : XA A0 ta ρ [dat (.int (n : Int))]) (hn : n ≤ 100000) : XI (iRng1 ta) ρ ((List.range n).map fun i : Nat => dat (.int (i : Int))) := by
  have q := xi_rng1 h hn
  unfold rngS at q
  have e : (fun i : Nat => dat (.int ((0 + i : Nat) : Int))) = fun i : Nat => dat (.int (i : Int)) := funext fun i => by rw [Nat.zero_add]
  rw [e] at q
  exact q
theorem xi_enumT {α : Type} {ta : TA} {l : List α} {e : α → PyData} (h : XA A0 ta ρ [dat (.list (l.map e))]) : XI (iEnum K ta) ρ (l.zipIdx.map fun q => dat (.tuple [.int (q.2 : Int), e q.1])) := by
  have q := xi_enum (K := K) h
  have e2 : enumS (l.map e) = l.zipIdx.map fun q => dat (.tuple [.int (q.2 : Int), e q.1]) := by
    unfold enumS
    rw [List.zipIdx_map, List.map_map]
    rfl
  rw [e2] at q
  exact q
/-- forgetting -/
def subE : Env → Env → Prop
  | [], [] => True
  | none :: r', _ :: r => subE r' r
  | some φ :: r', o :: r => o = some φ ∧ subE r' r
  | _, _ => False
theorem subE_ok : ∀ {ρ' ρ : Env}, subE ρ' ρ → ρ'.length = ρ.length ∧ ∀ (i : Nat) (φ : SP), ρ'[i]? = some (some φ) → ρ[i]? = some (some φ)
  | [], [], _ => ⟨rfl, fun i φ h => h⟩
  | [], _ :: _, h => h.elim
  | none :: r', [], h => h.elim
  | some _ :: r', [], h => h.elim
  | none :: r', o :: r, h => by
    obtain ⟨h1, h2⟩ := subE_ok (ρ' := r') (ρ := r) h
    refine ⟨by simp [h1], fun i φ e => ?_⟩
    cases i with
    | zero => cases e
    | succ i => exact h2 i φ e
  | some ψ :: r', o :: r, h => by
    obtain ⟨h0, h⟩ := h
    obtain ⟨h1, h2⟩ := subE_ok (ρ' := r') (ρ := r) h
    refine ⟨by simp [h1], fun i φ e => ?_⟩
    cases i with
    | zero =>
      have e2 : some ψ = some φ := Option.some.inj e
      show some o = some (some φ)
      rw [h0, e2]
    | succ i => exact h2 i φ e
theorem EnvOk.sub {G : Hp} {σ : L2.St} {ρ ρ' : Env} (E : EnvOk G σ ρ) (h : subE ρ' ρ) : EnvOk G σ ρ' := by
  obtain ⟨h1, h2⟩ := subE_ok h
  exact E.weak h1 fun i φ e => E.at_ i φ (h2 i φ e)
theorem At.sub {ρ' : Env} (a : At A G0 H0 G H σ ρ) (h : subE ρ' ρ) : At A G0 H0 G H σ ρ' := a.re (a.env.sub h)
end
end Ls
/-! Rules -/
set_option maxHeartbeats 4000000
/-! Rules of ours: constants of the module, calls by a bundle, three names stored at once. -/
namespace Ls
open PySem PySem.Spec PyProof.Rows L2
theorem bt_isinstance : bootBuiltins "isinstance" = some (.builtin "isinstance") := by decide +kernel
theorem bt_all : bootBuiltins "all" = some (.builtin "all") := by decide +kernel
theorem bt_any : bootBuiltins "any" = some (.builtin "any") := by decide +kernel
theorem bt_sorted : bootBuiltins "sorted" = some (.builtin "sorted") := by decide +kernel
theorem bt_min : bootBuiltins "min" = some (.builtin "min") := by decide +kernel
theorem bt_max : bootBuiltins "max" = some (.builtin "max") := by decide +kernel
theorem bt_repr : bootBuiltins "repr" = some (.builtin "repr") := by decide +kernel
theorem bt_int : bootBuiltins "int" = some (.type "int") := by decide +kernel
theorem bt_bool : bootBuiltins "bool" = some (.type "bool") := by decide +kernel
theorem bt_str : bootBuiltins "str" = some (.type "str") := by decide +kernel
theorem bt_list : bootBuiltins "list" = some (.type "list") := by decide +kernel
theorem bt_tuple : bootBuiltins "tuple" = some (.type "tuple") := by decide +kernel
theorem bt_set : bootBuiltins "set" = some (.type "set") := by decide +kernel
/-- what the head has told -/
structure Fx (K : PySem.W.Frag) (mg : Str → Option Value) : Prop where
  b_isinstance : mg "isinstance" = none
  b_int : mg "int" = none
  b_bool : mg "bool" = none
  b_str : mg "str" = none
  b_len : mg "len" = none
  b_all : mg "all" = none
  b_any : mg "any" = none
  b_range : mg "range" = none
  b_enumerate : mg "enumerate" = none
  b_sorted : mg "sorted" = none
  b_list : mg "list" = none
  b_tuple : mg "tuple" = none
  b_min : mg "min" = none
  b_max : mg "max" = none
  b_set : mg "set" = none
  b_repr : mg "repr" = none
  b_zip : mg "zip" = none
  mMS : ∃ t, mg "MOST_STATES" = some (.int 65 t)
  mMN : ∃ t, mg "MOST_NODES" = some (.int 20000 t)
  mLET : ∃ t, mg "LETTERS" = some (.str "abcdefghijklmnopqrstuvwxyz" t)
  mSAFE : ∃ t, mg "SAFE" = some (.str "safe" t)
  mSLIP : ∃ t, mg "SLIP" = some (.str "slip" t)
  c_Automaton : Cls K (He.ga K "Automaton")
  c_Board : Cls K (He.ga K "Board")
  c_Plan : Cls K (He.ga K "Plan")
  n_a1 : NoAttr K (He.ga K "Automaton") "alphabet"
  n_a2 : NoAttr K (He.ga K "Automaton") "size"
  n_a3 : NoAttr K (He.ga K "Automaton") "initial"
  n_a4 : NoAttr K (He.ga K "Automaton") "own_moves"
  n_b1 : NoAttr K (He.ga K "Board") "own_owners"
  n_b2 : NoAttr K (He.ga K "Board") "own_moves"
  n_p1 : NoAttr K (He.ga K "Plan") "player"
  n_p2 : NoAttr K (He.ga K "Plan") "own_rows"
  n_p3 : NoAttr K (He.ga K "Plan") "own_ranks"
/-- a def of the module, its promise kept -/
structure Fn (P : Program) (w : World) (K : PySem.W.Frag) (mg : Str → Option Value) (base : Heap) (x : Str) (k : Nat) (ps : List Str) (dvs : List V) (sp : Sp) : Prop where
  ex : ∃ (f : Addr) (fd : FuncData) (ds : List Value), FnOk P w K mg base CX0 k f fd ps sp ∧ mg x = some (.ref f) ∧ PySem.W.keepIn K (.ref f) = true ∧ Binds K fd ps ds ∧ Vals dvs ds
/-- a method of the class at C -/
structure Md (P : Program) (w : World) (K : PySem.W.Frag) (mg : Str → Option Value) (base : Heap) (C : Addr) (m : Str) (k : Nat) (ps : List Str) (sp : Sp) : Prop where
  ex : ∃ (f : Addr) (fd : FuncData), FnOk P w K mg base CX0 k f fd ps sp ∧ Meth K C m f ∧ Binds K fd ps []
section
variable {X : Cx} {e o : Expr} {es : List Expr} {pos p apos : Pos} {ta te : TE} {t : TA} {x m : Str} {k : Nat} {ps : List Str} {dvs : List V} {sp : Sp} {C : Addr}
theorem pe_gint {i : Int} (hg : Gl X x) (hm : ∃ t, X.mg x = some (.int i t)) (hd : (x == ("__debug__" : Str)) = false := by decide) : PE X (.Name x pos) (tC (.int i)) := by
  obtain ⟨t, h⟩ := hm
  exact pe_glob hg h ⟨t, rfl⟩ hd
theorem pe_gstr {z : Str} (hg : Gl X x) (hm : ∃ t, X.mg x = some (.str z t)) (hd : (x == ("__debug__" : Str)) = false := by decide) : PE X (.Name x pos) (tC (.str z)) := by
  obtain ⟨t, h⟩ := hm
  exact pe_glob hg h ⟨t, rfl⟩ hd
theorem pe_bty (n : String) (hg : Gl X x) (hm : X.mg x = none) (hv : bootBuiltins x = some (.type n)) (hn : x ≠ "__name__" := by decide) (hd : (x == ("__debug__" : Str)) = false := by decide) : PE X (.Name x pos) (tC (.ty n)) := pe_bltn hg hm hv rfl hn hd
theorem pe_fn (F : Fn X.prog X.w X.K X.mg X.base x k ps [] sp) (hr : Room k X.A) (hg : Gl X x) (ha : PA X (e :: es) t) (hd : (x == ("__debug__" : Str)) = false := by decide) (he : starEach (e :: es) X.env = (false, eval e X.env) :: starEach es X.env := by rfl) (hpl : (backTo pos (starEach es X.env)).any (·.1) = false := by rfl) :
    PE X (.Call (.Name x p) (e :: es) [] pos) (tCall sp [] E0 t) := by
  obtain ⟨f, fd, ds, h1, h2, h3, h4, h5⟩ := F.ex
  cases h5
  exact pe_call h1 hr hg h2 h3 h4 .nil pass0 ha hd he hpl
theorem pe_fnD (F : Fn X.prog X.w X.K X.mg X.base x k ps dvs sp) (hr : Room k X.A) (hg : Gl X x) (ha : PA X (e :: es) t) (hd : (x == ("__debug__" : Str)) = false := by decide) (he : starEach (e :: es) X.env = (false, eval e X.env) :: starEach es X.env := by rfl) (hpl : (backTo pos (starEach es X.env)).any (·.1) = false := by rfl) :
    PE X (.Call (.Name x p) (e :: es) [] pos) (tCall sp dvs E0 t) := by
  obtain ⟨f, fd, ds, h1, h2, h3, h4, h5⟩ := F.ex
  exact pe_call h1 hr hg h2 h3 h4 h5 pass0 ha hd he hpl
theorem pe_md {pl : Sem Bool} (he : PE X o te) (c : Cls X.K C) (F : Md X.prog X.w X.K X.mg X.base C m k ps sp) (hr : Room k X.A) (ha : PA X (e :: es) t)
    (hs : starEach (e :: es) X.env = (false, eval e X.env) :: starEach es X.env := by rfl) (hpl : (backTo pos (starEach es X.env)).any (·.1) = false := by rfl)
    (ht : eval (.Call (.Attribute o m apos) (e :: es) [] pos) X.env = (do let ov ← eval o X.env; standAt apos.atName; let (f, first) ← holding [ov] (getMethod ov m pl); callWith pos f first (backTo pos (starEach (e :: es) X.env)) (backToKw pos (keywordEach [] X.env))) := by rfl) :
    PE X (.Call (.Attribute o m apos) (e :: es) [] pos) (tMeth C m sp [] E0 te t) := by
  obtain ⟨f, fd, h1, h2, h3⟩ := F.ex
  exact pe_meth he c h2 h1 hr h3 .nil pass0 ha hs hpl ht
theorem pe_md0 {pl : Sem Bool} (he : PE X o te) (c : Cls X.K C) (F : Md X.prog X.w X.K X.mg X.base C m k ps sp) (hr : Room k X.A)
    (ht : eval (.Call (.Attribute o m apos) [] [] pos) X.env = (do let ov ← eval o X.env; standAt apos.atName; let (f, first) ← holding [ov] (getMethod ov m pl); callWith pos f first (backTo pos (starEach [] X.env)) (backToKw pos (keywordEach [] X.env))) := by rfl) :
    PE X (.Call (.Attribute o m apos) [] [] pos) (tMeth C m sp [] E0 te tNil) := by
  obtain ⟨f, fd, h1, h2, h3⟩ := F.ex
  exact pe_meth0 he c h2 h1 hr h3 .nil pass0 ht
theorem room65 {A : Around} (hr : Room k A) : A.units + 65 < cLine := by
  have := hr.un
  omega
/-! ### the rules with the written part named -/
variable {a b : Expr} {tb : TE} (K : PySem.W.Frag)
theorem ix_listK (h : X.K = K := by rfl) : IxR X (rIxL K) := by subst h; exact ix_list
theorem ix_tupK (h : X.K = K := by rfl) : IxR X (rIxT K) := by subst h; exact ix_tup
theorem ix_seqK (h : X.K = K := by rfl) : IxR X (rIx K) := by subst h; exact ix_seq
theorem sl_listK (h : X.K = K := by rfl) : SlR X (rSlL K) := by subst h; exact sl_list
theorem sl_tupK (h : X.K = K := by rfl) : SlR X (rSlT K) := by subst h; exact sl_tup
theorem op_eqDK (hu : X.A.units + 64 < cLine) (h : X.K = K := by rfl) : OpR X (compareOp .Eq) (rEqD K) := by subst h; exact op_eqD hu
theorem op_neDK (hu : X.A.units + 64 < cLine) (h : X.K = K := by rfl) : OpR X (compareOp .NotEq) (rNeD K) := by subst h; exact op_neD hu
theorem op_inDK (hu : X.A.units + 65 < cLine) (h : X.K = K := by rfl) : OpR X (compareOp .In) (rInD K) := by subst h; exact op_inD hu
theorem op_notInDK (hu : X.A.units + 65 < cLine) (h : X.K = K := by rfl) : OpR X (compareOp .NotIn) (rNotInD K) := by subst h; exact op_notInD hu
theorem op_in_seqK (h : X.K = K := by rfl) : OpR X (compareOp .In) (rIn K false) := by subst h; exact op_in_seq
theorem op_notIn_seqK (h : X.K = K := by rfl) : OpR X (compareOp .NotIn) (rIn K true) := by subst h; exact op_notIn_seq
theorem op_catTK (h : X.K = K := by rfl) : OpR X (binaryOp .Add) (rCatT K) := by subst h; exact op_catT
theorem call_isiK' (h : X.K = K := by rfl) : CallR X (.builtin "isinstance") (rIsi K) := by subst h; exact call_isi
theorem call_isiTK (h : X.K = K := by rfl) : CallR X (.builtin "isinstance") (rIsiT K) := by subst h; exact call_isiT
theorem call_lenK (h : X.K = K := by rfl) : CallR X (.builtin "len") (rLenQ K) := by subst h; exact call_len_seq
theorem call_lenS : CallR X (.builtin "len") rLenSQ := call_len_str
theorem call_listK (h : X.K = K := by rfl) : CallR X (.type "list") (rListQ K) := by subst h; exact call_list_of
theorem call_int1Q : CallR X (.type "int") rInt1 := call_int1
theorem call_strQ : CallR X (.type "str") rStrQ := call_str_int
theorem call_min2Q (hc : X.calm = true) : CallR X (.builtin "min") rMin2Q := call_min2 hc
theorem cr_anyK (hc : X.calm = true) (h : X.K = K := by rfl) : CallR X (.builtin "any") (rAny K) := by subst h; exact cr_any hc
theorem cr_allK (hc : X.calm = true) (h : X.K = K := by rfl) : CallR X (.builtin "all") (rAll K) := by subst h; exact cr_all hc
theorem cr_maxK (hc : X.calm = true) (h : X.K = K := by rfl) : CallR X (.builtin "max") (rMax K) := by subst h; exact cr_max hc
theorem pi_listK {tg l : Expr} {tl : TE} (hl : PE X l tl) (h : X.K = K := by rfl) : PI X tg l (iList K tl) := by subst h; exact pi_list hl
theorem pi_tupK {tg l : Expr} {tl : TE} (hl : PE X l tl) (h : X.K = K := by rfl) : PI X tg l (iTup K tl) := by subst h; exact pi_tup hl
theorem pi_enumK {p pos tpos : Pos} {elts : List Expr} {kk : Nat} (hg : Gl X "enumerate") (hm : X.mg "enumerate" = none) (ha : PA X [e] t) (h : X.K = K := by rfl) (hs : starEach [e] X.env = [(false, eval e X.env)] := by rfl) :
    PI X (.Tuple elts kk tpos) (.Call (.Name "enumerate" p) [e] [] pos) (iEnum K t) := by subst h; exact pi_enum hg hm ha hs
theorem pi_zipK {e2 : Expr} {p pos tpos : Pos} {elts : List Expr} {kk : Nat} (hg : Gl X "zip") (hm : X.mg "zip" = none) (ha : PA X [e, e2] t) (h : X.K = K := by rfl) (hs : starEach [e, e2] X.env = (false, eval e X.env) :: starEach [e2] X.env := by rfl) (hs2 : (backTo pos (starEach [e2] X.env)).any (·.1) = false := by rfl) :
    PI X (.Tuple elts kk tpos) (.Call (.Name "zip" p) [e, e2] [] pos) (iZip K t) := by subst h; exact pi_zip hg hm ha hs hs2
theorem pg_tupK {es : List Expr} {k : Nat} {t : TGs} {n : Nat} (hc : X.calm = true) (h : PGs X es t) (hK : X.K = K := by rfl)
    (hn : (assignEach es X.env).length = n := by rfl) (hst : (assignEach es X.env).findIdx? (·.1) = none := by rfl) : PG X (.Tuple es k pos) (gTup K n t) := by subst hK; exact pg_tup hc h hn hst
theorem pe_fldK {f : Str} (he : PE X e te) (hb : attributeBase e f X.env (eval e X.env) = eval e X.env) (h : X.K = K := by rfl) : PE X (.Attribute e f pos) (tFld K te f) := by subst h; exact pe_fld he hb
end
section
variable {X : Cx} {e o : Expr} {es : List Expr} {pos p apos : Pos} {ta te : TE} {t : TA} {x m : Str} {k : Nat} {ps : List Str} {dvs : List V} {sp : Sp} {C : Addr}
/-! ### a, b, c = x, y, z with plain local names: stored from the right -/
def tPar3 (i j l : Nat) (ta : TA) : TS := fun D σ H => ta σ H fun vs H1 => ∃ v w u, vs = [v, w, u] ∧ D.nx (((σ.set i (some v)).set j (some w)).set l (some u)) H1
theorem vals3 {x y z : V} {us : List Value} (r : Vals [x, y, z] us) : ∃ u1 u2 u3, us = [u1, u2, u3] ∧ RelV x u1 ∧ RelV y u2 ∧ RelV z u3 := by
  cases r with
  | cons p q =>
    cases q with
    | cons p' q' =>
      cases q' with
      | cons p'' q'' =>
        cases q''
        exact ⟨_, _, _, rfl, p, p', p''⟩
theorem ps_par3 {i j l : Nat} {x y z : Str} {a b c : Expr} {px py pz pt : Pos} {kt k2 : Nat} {pt2 : Pos} (hc : X.calm = true) (hN : X.N.Nodup) (hi : X.N[i]? = some x) (hj : X.N[j]? = some y) (hl : X.N[l]? = some z) (hd : i ≠ j ∧ i ≠ l ∧ j ≠ l)
    (hx : X.env.scope.names.lookup x = some .local) (hy : X.env.scope.names.lookup y = some .local) (hz : X.env.scope.names.lookup z = some .local) (ha : PA X [a, b, c] t)
    (hw : swappedStores [.Tuple [.Name x px, .Name y py, .Name z pz] kt pt] (.Tuple [a, b, c] k2 pt2) X.env = pure (some [x, y, z]))
    (hs : swapsWithSole [.Tuple [.Name x px, .Name y py, .Name z pz] kt pt] (.Tuple [a, b, c] k2 pt2) pos.line X.env = pure false := by rfl) :
    PS X (.Assign [.Tuple [.Name x px, .Name y py, .Name z pz] kt pt] (.Tuple [a, b, c] k2 pt2) pos) (tPar3 i j l t) := by
  obtain ⟨hij, hil, hjl⟩ := hd
  refine ⟨fun pins s σ H D I h => ?_⟩
  rw [exec_Assign_arm]
  refine wpAny_bind (wpAny_standAt ?_)
  rw [hs]
  refine wpAny_bind (wpAny_pure ?_)
  rw [if_neg (by decide)]
  refine wpAny_bind (Tuple_ (thn (ha.run _ pins s σ H _ I h) fun us s1 ⟨vs, H1, I1, r1, q1⟩ => ?_))
  obtain ⟨v, w, u, e1, q1⟩ := q1
  subst e1
  obtain ⟨u1, u2, u3, rfl, rv, rw', ru⟩ := vals3 r1
  refine wpAny_newObj_type ?_ (by show 3 ≤ sizeLine; decide)
  have I2 : Inv X pins σ H1 { s1 with heap := s1.heap.push { cls := .type "tuple", data := .seq [u1, u2, u3].toArray } } := I1.kept (t' := s1.toks) fun b o e => Heap.get?_push_of_some _ e
  rw [hw]
  refine wpAny_bind (wpAny_pure ?_)
  show wpAny (model X.prog X.w) X.A (do rule "assign.swapped-stores"; let items ← unpackItems (.ref s1.heap.objs.size) 3 none; assignInOrder [fun v => bindName X.env z v, fun v => bindName X.env y v, fun v => bindName X.env x v] items.reverse; pure Flow.next) _ _ _
  refine wpAny_bind (wpAny_rule (wpAny_bind (unpackItems_tuple (items := #[u1, u2, u3]) (I.ok.hd hc) (IsTup.new s1.heap _) fun h' hx' => ?_)))
  have I3 := I2.kept (h' := h') (t' := s1.toks) fun b o e => hx' b o (Nat.ne_of_lt (Heap.lt_size e)) e
  show wpAny _ _ (assignInOrder [fun v => bindName X.env z v, fun v => bindName X.env y v, fun v => bindName X.env x v] [u3, u2, u1] >>= fun _ => pure Flow.next) _ _ _
  refine wpAny_bind (assignInOrder_cons (wpAny_bindName (store_ok I3 hN hl (.inl hz) ru (fun s2 I4 => ?_) (.inr hz))))
  refine assignInOrder_cons (wpAny_bindName (store_ok I4 hN hj (.inl hy) rw' (fun s3 I5 => ?_) (.inr hy)))
  refine assignInOrder_cons (wpAny_bindName (store_ok I5 hN hi (.inl hx) rv (fun s4 I6 => assignInOrder_nil (wpAny_pure ?_)) (.inr hx)))
  refine ⟨_, H1, I6, ?_⟩
  have e : ((σ.set l (some u)).set j (some w)).set i (some v) = ((σ.set i (some v)).set j (some w)).set l (some u) := by
    rw [List.set_comm _ _ (Ne.symm hjl), List.set_comm _ _ (Ne.symm hil), List.set_comm _ _ (Ne.symm hij)]
  rw [e]
  exact q1
end
section
variable {A : Amb} {ρ : Env} {G0 H0 G H : Hp} {σ : L2.St} {D : Ends} {tz : TS} {φ ψ χ : SP}
theorem q_par3 {i j l : Nat} {ta2 : TA} (a : At A G0 H0 G H σ ρ) (h : XA A ta2 ρ [φ, ψ, χ]) (k : ∀ v w u G2 H2, Stp A G H G2 H2 → φ.p G2 v → ψ.p G2 w → χ.p G2 u → At A G0 H0 G2 H2 (((σ.set i (some v)).set j (some w)).set l (some u)) (((ρ.set i (some φ)).set j (some ψ)).set l (some χ)) → tz D (((σ.set i (some v)).set j (some w)).set l (some u)) H2) : tSeq (tPar3 i j l ta2) tz D σ H :=
  h G H σ _ a.env a.s a.j fun vs G2 H2 s jj p => by
    obtain ⟨v, w, u, rfl, p1, p2, p3⟩ := ps_three p
    have a2 := a.step s jj
    exact ⟨v, w, u, rfl, k v w u G2 H2 s p1 p2 p3 (a2.re (((a2.env.set i p1).set j p2).set l p3))⟩
end
end Ls
/-! Lay5 -/
set_option maxHeartbeats 4000000
/-! The layer, fifth part: owned lists. -/
namespace Ls
open PySem PySem.Spec PyProof.Rows L2
section
variable {A : Amb} {ρ : Env} {te ta tb tc : TE} {tt tu : TT} {φ ψ χ : SP} {K : PySem.W.Frag} {G0 H0 G H : Hp} {σ : L2.St} {D : Ends} {t u tz tw : TS}
theorem ixN_at {n j : Nat} (hj : j < n) : ixN n (j : Int) = some j := by
  unfold ixN
  rw [if_pos (by omega), if_pos (by omega), Int.toNat_natCast]
/-- l[n] = e : an owned list -/
theorem s_setI {l : Addr} {xs : List V} {i n : Nat} {e : PyData} (a : At A G0 H0 G H σ ρ) (w : Own G H l (.lst xs)) (f : H0 l = none) (nb : ¬ A.B l) (hi : ρ[i]? = some (some (isV (.ref l)))) (h : XE A te ρ φ) (hj : XE A tb ρ (dat (.int (n : Int)))) (hn : n < xs.length)
    (k : ∀ v G2 H2, Stp A G H G2 H2 → φ.p G2 v → At A G0 H0 G2 (upd H2 l (.lst (xs.set n v))) σ ρ → Own G2 (upd H2 l (.lst (xs.set n v))) l (.lst (xs.set n v)) → D.nx σ (upd H2 l (.lst (xs.set n v)))) :
    tAsg te (gSub (tVar i) tb rSetL) D σ H :=
  a.e h fun v G2 H2 s a2 p2 => ⟨_, a2.own hi, a2.e hj fun y G3 H3 s3 a3 p3 => by
    have w2 := w.step (s.trans s3) nb
    obtain ⟨a4, w4⟩ := a3.mut w2 f nb
    exact ⟨l, xs, (n : Int), n, rfl, p3.int_inv, w2.h, ixN_at hn, k v G3 H3 (s.trans s3) (φ.mono s3.g p2) a4 w4⟩⟩
/-- x = list(y) : a new owned list -/
theorem q_copy {i : Nat} {ds : List PyData} (a : At A G0 H0 G H σ ρ) (h : XE A te ρ (dat (.list ds))) (k : ∀ l xs G2 H2, H2 l = some (.lst xs) → H0 l = none → Own G2 H2 l (.lst xs) → RpAll G2 xs ds → Stp A G H G2 H2 → At A G0 H0 G2 H2 (σ.set i (some (.ref l))) (ρ.set i (some (isV (.ref l)))) → tz D (σ.set i (some (.ref l))) H2) : tSeq (tAsg (tCB (rListQ K) (tCons te tNil)) (gName i)) tz D σ H :=
by
    unfold tSeq tAsg tCB
    refine (xa_cons h xa_nil) G H σ _ a.env a.s a.j fun vs G2 H2 s j2 p => ?_
    obtain ⟨v, rfl, p2⟩ := ps_one p
    have a2 := a.step s j2
    obtain ⟨b, xs, rfl, hb, r⟩ := Rp.list_inv p2
    refine ⟨b, xs, rfl, .inl (SqL.of (a2.s _ _ hb)), fun l hl => ?_⟩
    obtain ⟨a3, w, f⟩ := a2.fresh (o := .lst xs) hl
    exact k l xs G2 _ upd_same f w r (s.trans (Stp.only a2.s (same_new hl)).up) (a3.re (a3.env.set i rfl))
/-- a test over what we own -/
theorem At.viewT {l : Addr} {xs : List V} {ds : List PyData} {i : Nat} {b : Bool} (a : At A0 G0 H0 G H σ ρ) (w : Own G H l (.lst xs)) (hi : ρ[i]? = some (some (isV (.ref l)))) (r : RpAll G xs ds) (h : XT A0 tt (ρ.set i (some (dat (.list ds)))) b) {Q : Bool → Hp → Prop} (k : ∀ H2, Stp A0 G H G H2 → Q b H2) : tt σ H Q := by
  obtain ⟨E, s⟩ := a.view w hi r
  exact h _ H σ Q E s trivial fun G2 H2 st _ => k H2 (Stp.only a.s st.same)
theorem s_ifV {l : Addr} {xs : List V} {ds : List PyData} {i : Nat} {b : Bool} (a : At A0 G0 H0 G H σ ρ) (w : Own G H l (.lst xs)) (hi : ρ[i]? = some (some (isV (.ref l)))) (r : RpAll G xs ds) (h : XT A0 tt (ρ.set i (some (dat (.list ds)))) b)
    (h1 : b = true → ∀ H2, Stp A0 G H G H2 → At A0 G0 H0 G H2 σ ρ → t D σ H2) (h2 : b = false → ∀ H2, Stp A0 G H G H2 → At A0 G0 H0 G H2 σ ρ → u D σ H2) : tIfS tt t u D σ H :=
  a.viewT w hi r h fun H2 s => by
    cases b with
    | true =>
      rw [if_pos rfl]
      exact h1 rfl H2 s (a.step0 s)
    | false =>
      rw [if_neg Bool.false_ne_true]
      exact h2 rfl H2 s (a.step0 s)
/-- one of several: this one -/
theorem At.pick {α : Type} {P : α → Prop} {f : α → SP} {i : Nat} (a : At A G0 H0 G H σ ρ) (hi : ρ[i]? = some (some (ex P f))) : ∃ x, P x ∧ At A G0 H0 G H σ (ρ.set i (some (f x))) := by
  obtain ⟨v, e, x, hx, p⟩ := a.env.at_ i _ hi
  exact ⟨x, hx, a.re (a.env.put e p)⟩
/-- i, j, l = [d] * n, .., .. : the first is a new owned list -/
theorem q_par3Rep {i j l n : Nat} {d : PyData} {tr : TA} (a : At A G0 H0 G H σ ρ) (h1 : XE A ta ρ (dat (.list [d]))) (h2 : XE A tb ρ (dat (.int (n : Int)))) (hn : n ≤ 100000) (hr : XA A tr ρ [ψ, χ])
    (k : ∀ L xs σ2 G2 H2, H0 L = none → Own G2 H2 L (.lst xs) → RpAll G2 xs (List.replicate n d) → Stp A G H G2 H2 → At A G0 H0 G2 H2 σ2 (((ρ.set i (some (isV (.ref L)))).set j (some ψ)).set l (some χ)) → tz D σ2 H2) (nb : ∀ L, H L = none → ¬ A.B L) : tSeq (tPar3 i j l (tCons (tOp rRep ta tb) tr)) tz D σ H := by
  refine h1 G H σ _ a.env a.s a.j fun x G1 H1 t1 j1 p1 => ?_
  have a1 := a.step t1 j1
  refine h2 G1 H1 σ _ a1.env a1.s j1 fun y G2 H2 t2 j2 p2 => ?_
  have a2 := a1.step t2 j2
  obtain ⟨b, xs, rfl, hb, r⟩ := Rp.list_inv (p1.mono t2.g)
  obtain ⟨v, rfl, hv⟩ : ∃ v, xs = [v] ∧ Rp G2 v d := by
    cases r with
    | cons h r =>
      cases r
      exact ⟨_, rfl, h⟩
  have en : ((n : Int)).toNat = n := by omega
  have ef : (List.replicate ((n : Int)).toNat [v]).flatten = List.replicate n v := by
    rw [en]
    exact flat_rep v n
  refine ⟨b, (n : Int), [v], rfl, p2.int_inv, a2.s _ _ hb, by omega, by omega, by rw [en]; simp; exact Nat.le_trans hn (by decide), fun L hL => ?_⟩
  rw [ef]
  have hL0 : H L = none := t1.k L (t2.k L hL)
  obtain ⟨a3, w3, f3⟩ := a2.fresh (o := .lst (List.replicate n v)) hL
  refine hr _ _ σ _ a3.env a3.s a3.j fun vs G4 H4 t4 j4 p4 => ?_
  obtain ⟨u, z, rfl, pu, pz⟩ := ps_two p4
  have a4 := a3.step t4 j4
  exact ⟨_, _, _, rfl, k L _ _ G4 H4 f3 (w3.step t4 (nb L hL0)) ((RpAll.rep hv n).mono t4.g) (((t1.trans t2).trans (Stp.only a2.s (same_new hL)).up).trans t4) (a4.re (((a4.env.set i (φ := isV (.ref L)) rfl).set j pu).set l pz))⟩
/-! lists by halves -/
theorem part_next {α : Type} {x : α} : ∀ {f f' : List α} {i : Nat}, f.length = f'.length → f'[i]? = some x → (f'.take i ++ f.drop i).set i x = f'.take (i + 1) ++ f.drop (i + 1)
  | [], [], _, _, h => by simp at h
  | [], _ :: _, _, hl, _ => by simp at hl
  | _ :: _, [], _, hl, _ => by simp at hl
  | z :: r, y :: r', 0, hl, h => by
    have e : y = x := by simpa using h
    subst e
    simp
  | z :: r, y :: r', i + 1, hl, h => by
    have ih := part_next (f := r) (f' := r') (i := i) (x := x) (by simpa using hl) (by simpa using h)
    show y :: ((r'.take i ++ r.drop i).set i x) = y :: (r'.take (i + 1) ++ r.drop (i + 1))
    rw [ih]
theorem part_get {α : Type} : ∀ {f f' : List α} {i : Nat}, f.length = f'.length → (f'.take i ++ f.drop i)[i]? = f[i]?
  | [], [], _, _ => by simp
  | [], _ :: _, _, hl => by simp at hl
  | _ :: _, [], _, hl => by simp at hl
  | z :: r, y :: r', 0, hl => by simp
  | z :: r, y :: r', i + 1, hl => part_get (f := r) (f' := r') (i := i) (by simpa using hl)
theorem part_len {α : Type} {f f' : List α} {i : Nat} (hl : f.length = f'.length) : (f'.take i ++ f.drop i).length = f.length := by
  rw [List.length_append, List.length_take, List.length_drop]
  omega
theorem find_next {α : Type} {p : α → Bool} {l : List α} {j : Nat} {x : α} (h : l[j]? = some x) : (l.take (j + 1)).findIdx? p = ((l.take j).findIdx? p).or (if p x = true then some j else none) := by
  have hl := (List.getElem?_eq_some_iff.mp h).1
  rw [List.take_add_one, h]
  show ((l.take j) ++ [x]).findIdx? p = _
  rw [List.findIdx?_append, List.length_take, Nat.min_eq_left (by omega)]
  congr 1
  cases hp : p x with
  | true => simp [List.findIdx?_cons, hp]
  | false => simp [List.findIdx?_cons, hp]
end
end Ls
/-! Dc -/
set_option maxHeartbeats 4000000
/-! Comprehensions that make a dict, of one `for` or two, whatever the keys. -/
namespace Ls
open PySem PySem.Spec PyProof.Rows L2
/-- the key is put into the dict at D by a comprehension -/
theorem dictSet_put {X : Cx} {pins : List (Addr × Obj)} {σ : L2.St} {H H6 : Hp} {s : Shared} {E : Value → Shared → Prop} {D : Addr} {y v : V} {u r : Value} {Q : Unit → Shared → Prop} (hu : X.A.units + 1 < cLine) (I : Inv X pins σ H s) (g : DPut H D y v H6) (ry : RelV y u) (rv : RelV v r)
    (q : ∀ s', Inv X pins σ H6 s' → Q () s') : wpAny (model X.prog X.w) X.A (dictSet D u r) Q E s := by
  rcases g with ⟨kvs, key, e, rfl, lt, rfl⟩ | ⟨kvs, key, b, e, rfl, eb, lt, rfl⟩
  · exact d_dictSet I e lt ry rv q
  · obtain rfl : u = Value.ref b := ry
    obtain ⟨z, hd, xs, rel, dd⟩ := dt_of I.hok e
    have l1 : xs.length ≤ sizeLine := (Paired.length rel) ▸ z
    have l2 := length_putK kvs key v
    refine wpAny_dictSet_heap (show X.A.units < cLine from Nat.lt_of_succ_lt hu) (key_of I.hok eb) dd (fun h' dd' sb => q _ ?_) l1
    obtain ⟨ob, es, ep, o1, o2, o3, o4, _, o5⟩ := dd'
    refine d_write I (by rw [e]; exact True.intro) sb ⟨ob, o1⟩ ⟨by omega, hd, _, (rel.put key eb rv).keeps fun c ys ec => ?_, ob, es, ep, o1, o2, o3, o4, o5⟩
    exact (upd_ne (ne_of ec e fun z => nomatch z)).trans ec
/-- one turn of one `for`: B stands behind the tests -/
abbrev turnOf (tg : Expr) (p : Pos) (ifs : List Expr) (B : Sem PySem.Fin → Sem PySem.Fin) (it : Value) (env : PySem.Env) (nxt : Sem PySem.Fin) : Sem PySem.Fin := do
  standAt p
  match ← pyNext it with
  | none => pure (.done .next)
  | some v =>
    letOwnedTupleGo tg it v
    assign tg env v
    let mut ok := true
    for c in ifs do
      if ok then ok ← PySem.isTrue c env (eval c env)
    if ok then B nxt else nxt
/-- one key and its value -/
abbrev pairB (kx vx : Expr) (D : Addr) (env : PySem.Env) (nxt : Sem PySem.Fin) : Sem PySem.Fin := do
  (do
    let a ← eval kx env
    let b ← holding [a] (eval vx env)
    standAt { kx.pos with endLine := vx.pos.endLine, endCol := vx.pos.endCol }
    holding [a, b] (dictSet D a b))
  nxt
/-- all of the second `for` -/
abbrev deepB (cx src : Expr) (D : Addr) (env : PySem.Env) (nxt : Sem PySem.Fin) : Sem PySem.Fin := do
  let a ← eval src env
  standAt src.pos
  let a ← foldedSetIterable src env a
  let _ ← runOwn (.compStart cx 1 (← holding [a] (pyIter a)) (.ref D) env) env
  nxt
section
variable {kx vx tg src tg1 src1 : Expr} {ifs ifs1 : List Expr} {scope : Scope} {pos : Pos} {it : Value} {D : Addr} {env : PySem.Env}
theorem turn_one : compTurn (.DictComp kx vx [⟨tg, src, ifs, 0⟩] scope pos) 0 it (.ref D) env = turnOf tg src.pos ifs (pairB kx vx D env) it env (again (.compLoop (.DictComp kx vx [⟨tg, src, ifs, 0⟩] scope pos) 0 it (.ref D) env)) := by rfl
theorem turn_out : compTurn (.DictComp kx vx [⟨tg, src, ifs, 0⟩, ⟨tg1, src1, ifs1, 0⟩] scope pos) 0 it (.ref D) env = turnOf tg src.pos ifs (deepB (.DictComp kx vx [⟨tg, src, ifs, 0⟩, ⟨tg1, src1, ifs1, 0⟩] scope pos) src1 D env) it env (again (.compLoop (.DictComp kx vx [⟨tg, src, ifs, 0⟩, ⟨tg1, src1, ifs1, 0⟩] scope pos) 0 it (.ref D) env)) := by rfl
theorem turn_in : compTurn (.DictComp kx vx [⟨tg, src, ifs, 0⟩, ⟨tg1, src1, ifs1, 0⟩] scope pos) 1 it (.ref D) env = turnOf tg1 src1.pos ifs1 (pairB kx vx D env) it env (again (.compLoop (.DictComp kx vx [⟨tg, src, ifs, 0⟩, ⟨tg1, src1, ifs1, 0⟩] scope pos) 1 it (.ref D) env)) := by rfl
end
/-- what the loop over one `for` asks; tb: what stands behind the tests -/
def Loop1 (J : It) (g : TG) (tt : TT) (tb : L2.St → Hp → (Hp → Prop) → Prop) (vs : List Nat) (τ : L2.St) (W : Nat → Nat → Hp → Prop) (Z : Hp → Prop) : Prop := ∀ i m H, W i m H → (J.stop i H ∧ Z H) ∨ (J.go i H ∧ ∃ N : Hp → Prop, (∀ H', N H' → ∃ m', m' < m ∧ W (i + 1) m' H') ∧
  ∀ x H', J.yld i H x H' → g x (wipe τ vs) H' fun σ2 H2 => wipe σ2 vs = wipe τ vs ∧ tt σ2 H2 fun b H3 => if b = true then tb σ2 H3 N else N H3)
/-- what stands behind the tests does as tb says -/
def Body (X : Cx) (B : Sem PySem.Fin → Sem PySem.Fin) (tb : L2.St → Hp → (Hp → Prop) → Prop) (vB : List Nat) : Prop := ∀ (pins : List (Addr × Obj)) (s : Shared) (σ : L2.St) (H : Hp) (N : Hp → Prop) (nxt : Sem PySem.Fin) (Q : PySem.Fin → Shared → Prop) (E : Value → Shared → Prop), Inv X pins σ H s → tb σ H N →
  (∀ s' H', Inv X pins (wipe σ vB) H' s' → N H' → wpAny (model X.prog X.w) X.A nxt Q E s') → wpAny (model X.prog X.w) X.A (B nxt) Q E s
theorem thnX {α : Type} {t : Sem α} {Q Q' : α → Shared → Prop} {M : Model} {A : Around} {E E' : Value → Shared → Prop} {s : Shared} (hE : E = fun _ _ => False) (h : wpAny M A t Q E s) (hQ : ∀ a s, Q a s → Q' a s) : wpAny M A t Q' E' s := by
  subst hE
  exact thnF h hQ
theorem wipe_keep {σ τ : L2.St} {vs vB : List Nat} (e : wipe σ vs = wipe τ vs) (hv : ∀ i ∈ vB, i ∈ vs) : (wipe τ vs).length = (wipe σ vB).length ∧ ∀ (j : Nat) v, (wipe τ vs)[j]? = some (some v) → (wipe σ vB)[j]? = some (some v) := by
  rw [← e]
  refine ⟨by rw [wipe_length, wipe_length], fun j v h => ?_⟩
  obtain ⟨h1, h2⟩ := wipe_some h
  rw [wipe_out fun z => h2 (hv j z)]
  exact h1
theorem loop_runs {X : Cx} {kx vx tg : Expr} {gens : List Comprehension} {scope : Scope} {pos : Pos} {k : Nat} {p : Pos} {ifs : List Expr} {B : Sem PySem.Fin → Sem PySem.Fin} {it D : Addr} (ht : compTurn (.DictComp kx vx gens scope pos) k (.ref it) (.ref D) X.env = turnOf tg p ifs B (.ref it) X.env (again (.compLoop (.DictComp kx vx gens scope pos) k (.ref it) (.ref D) X.env)))
    {pins : List (Addr × Obj)} {J : It} {fp : List Addr} {tn : Nat → Heap → Prop} {vs vB : List Nat} {τ : L2.St} {g : TG} {tt : TT} {tb : L2.St → Hp → (Hp → Prop) → Prop} {W : Nat → Nat → Hp → Prop} {Z : Hp → Prop} {R : Result → Shared → Prop}
    (hc : X.calm = true) (hx : X.xe = fun _ _ => False) (T : Turn X.prog X.w X.K tg J fp it tn) (pg : PG X tg g) (pt : PTs X ifs tt) (pb : Body X B tb vB) (hv : ∀ i ∈ vB, i ∈ vs)
    (ok : ∀ {σ' H' s'}, Inv X pins σ' H' s' → (∀ b ∈ fp, H' b = none) → ∀ b ∈ fp, FpOk X pins H' b) (lp : Loop1 J g tt tb vs τ W Z) (fin : ∀ s H, Inv X pins (wipe τ vs) H s → Z H → R (.ok .next) s)
    {m0 : Nat} {s : Shared} {H : Hp} (I : Inv X pins (wipe τ vs) H s) (st : tn 0 s.heap) (nf : ∀ b ∈ fp, H b = none) (w0 : W 0 m0 H) : codeAny (model X.prog X.w) X.A (.compLoop (.DictComp kx vx gens scope pos) k (.ref it) (.ref D) X.env) R s := by
  refine codeAny_loop rfl (fun n s' => ∃ i H', Inv X pins (wipe τ vs) H' s' ∧ tn i s'.heap ∧ (∀ b ∈ fp, H' b = none) ∧ W i n H') ?_ m0 ⟨0, H, I, st, nf, w0⟩
  rintro n s5 ⟨i, H5, I5, st5, n5, w5⟩
  have go : wpAny (model X.prog X.w) X.A (compTurn (.DictComp kx vx gens scope pos) k (.ref it) (.ref D) X.env) (fun f s' => match f with
      | .done f => R (.ok f) s'
      | .again c' => c' = .compLoop (.DictComp kx vx gens scope pos) k (.ref it) (.ref D) X.env ∧ ∃ m, m < n ∧ ∃ i H', Inv X pins (wipe τ vs) H' s' ∧ tn i s'.heap ∧ (∀ b ∈ fp, H' b = none) ∧ W i m H') (notedBy (model X.prog X.w) X.A X.env fun e s' => R (.error e) s') s5 := by
    rw [ht]
    refine wpAny_bind (wpAny_standAt (wpAny_bind ?_))
    rcases lp i n H5 w5 with ⟨stop, z⟩ | ⟨goes, N, hN, step⟩
    · refine thnF (T.done X rfl rfl rfl hc i pins s5 _ H5 (fun _ _ => False) I5 (ok I5 n5) st5 stop) fun r s6 ⟨hr, I6⟩ => ?_
      subst hr
      exact wpAny_pure (fin s6 H5 I6 z)
    · refine thnF (T.item X rfl rfl rfl hc i pins s5 _ H5 (fun _ _ => False) I5 (ok I5 n5) st5 goes) fun r s6 ⟨u, hr, h6⟩ => ?_
      subst hr
      refine wpAny_bind (thnF h6 fun _ s7 ⟨x, H7, I7, r7, y7, st7, n7⟩ => ?_)
      have J7 := I7.pinned (ok I7 n7) (T.obj _ _ st7)
      refine wpAny_bind (thnX hx (pg.run _ s7 _ H7 x u _ J7 r7 (step x H7 y7)) fun _ s8 ⟨σ8, H8, I8, e8, q8⟩ => ?_)
      refine wpAny_bind (thnX hx (pt.run _ s8 σ8 H8 _ I8 q8) fun b s9 ⟨H9, I9, q9⟩ => ?_)
      have back : ∀ {σ' s' H'}, Inv X (pins ++ pinsAt fp s7.heap) σ' H' s' → (wipe τ vs).length = σ'.length → (∀ (j : Nat) v, (wipe τ vs)[j]? = some (some v) → σ'[j]? = some (some v)) → N H' → ∃ m, m < n ∧ ∃ i H', Inv X pins (wipe τ vs) H' s' ∧ tn i s'.heap ∧ (∀ b ∈ fp, H' b = none) ∧ W i m H' := fun {σ' s' H'} I' hl hk nx => by
        obtain ⟨m', lt, w'⟩ := hN H' nx
        have still : ∀ b ∈ fp, ∀ o, s7.heap.get? b = some o → s'.heap.get? b = some o ∧ H' b = none := fun b hb o e =>
          have z := I'.pin (b, o) (List.mem_append_right _ (List.mem_append_right _ (mem_pinsAt hb e)))
          ⟨z.1, z.2.1⟩
        refine ⟨m', lt, i + 1, H', I'.unpinned.weak hl hk, T.keep _ _ _ st7 fun b hb o e => (still b hb o e).1, fun b hb => ?_, w'⟩
        obtain ⟨o, e, _⟩ := T.obj _ _ st7 b hb
        exact (still b hb o e).2
      cases b with
      | false =>
        obtain ⟨l1, l2⟩ := wipe_keep (vB := []) e8 fun i h => by cases h
        exact wpAny_pure ⟨rfl, back I9 l1 l2 q9⟩
      | true =>
        obtain ⟨l1, l2⟩ := wipe_keep e8 hv
        exact pb _ s9 σ8 H9 N _ _ _ I9 q9 fun s10 H10 I10 z => wpAny_pure ⟨rfl, back I10 l1 l2 z⟩
  show wpAny _ X.A ((compTurn (.DictComp kx vx gens scope pos) k (.ref it) (.ref D) X.env).onRaise fun x => do noteFrame x X.env; theTreesLotGoes x) _ _ s5
  exact wpAny_noted go
/-! ### what stands behind the tests -/
def tbPair (tk tv : TE) (D : Addr) : L2.St → Hp → (Hp → Prop) → Prop := fun σ H N => tk σ H fun y H1 => tv σ H1 fun z H2 => ∃ H3, DPut H2 D y z H3 ∧ N H3
theorem body_pair {X : Cx} {kx vx : Expr} {D : Addr} {tk tv : TE} (hx : X.xe = fun _ _ => False) (hu : X.A.units + 1 < cLine) (hk : PE X kx tk) (hv : PE X vx tv) : Body X (pairB kx vx D X.env) (tbPair tk tv D) [] := fun pins s σ H N nxt Q E I h q => by
  refine wpAny_bind (wpAny_bind (thnX hx (hk.run pins s σ H _ I h) fun a s1 ⟨y, H1, I1, r1, q1⟩ => ?_))
  refine wpAny_bind (wpAny_holding (thnX hx (hv.run pins s1 σ H1 _ I1 q1) fun b s2 ⟨z, H2, I2, r2, H3, g, n⟩ => ?_))
  exact wpAny_bind (wpAny_standAt (wpAny_holding (dictSet_put hu I2 g r1 r2 fun s3 I3 => q s3 H3 I3 n)))
def tbDeep (wi1 : TI) (g1 : TG) (tt1 : TT) (tk tv : TE) (vs1 : List Nat) (D : Addr) : L2.St → Hp → (Hp → Prop) → Prop := fun σ H N => wi1 σ H fun J H1 => ∃ W, (∃ m, W 0 m H1) ∧ Loop1 J g1 tt1 (tbPair tk tv D) vs1 σ W N
section
variable {prog : Program} {w : World} {A : Around} {R : Result → Shared → Prop} {s : Shared} {kx vx t0 i0 t1 i1 : Expr} {l0 l1 : List Expr} {scope : Scope} {pos : Pos} {it acc : Value} {env : PySem.Env}
/-- the second `for` begins -/
theorem deep_starts (a : codeAny (model prog w) A (.compLoop (.DictComp kx vx [⟨t0, i0, l0, 0⟩, ⟨t1, i1, l1, 0⟩] scope pos) 1 it acc env) R s)
    (b : wpAny (model prog w) A (pyIter it) (fun j s' => codeAny (model prog w) A (.compLoop (.DictComp kx vx [⟨t0, i0, l0, 0⟩, ⟨t1, i1, l1, 0⟩] scope pos) 1 j acc env) R s') (notedBy (model prog w) A env fun x s' => R (.error x) s') s) :
    codeAny (model prog w) A (.compStart (.DictComp kx vx [⟨t0, i0, l0, 0⟩, ⟨t1, i1, l1, 0⟩] scope pos) 1 it acc env) R s := by
  refine codeAny_of_tree ?_
  have h : wpAny (model prog w) A (compStart (.DictComp kx vx [⟨t0, i0, l0, 0⟩, ⟨t1, i1, l1, 0⟩] scope pos) 1 it acc env) (fun f s' => match f with
      | .done f => R (.ok f) s'
      | .again c' => c'.quiet = true ∧ codeAny (model prog w) A c' R s') (notedBy (model prog w) A env fun x s' => R (.error x) s') s := by
    unfold compStart
    show wpAny _ _ (ask >>= _) _ _ s
    refine wpAny_bind (wpAny_askSetting (wpAny_ite ?_))
    split
    · first
        | exact wpAny_bind (wpAny_pure (wpAny_pure ⟨rfl, a⟩))
        | exact wpAny_pure ⟨rfl, a⟩
    · first
        | exact wpAny_bind (wpAny_rule (wpAny_bind (wpAny_standAt (wpAny_bind (wpAny_mono b (fun j s' h' => wpAny_pure ⟨rfl, h'⟩) fun _ _ x => x)))))
        | (refine wpAny_bind (wpAny_rule ?_); show wpAny _ _ (standAt i1.pos >>= _) _ _ s; exact wpAny_bind (wpAny_standAt (wpAny_bind (wpAny_mono b (fun j s' h' => wpAny_pure ⟨rfl, h'⟩) fun _ _ x => x))))
  show wpAny _ A ((compStart (.DictComp kx vx [⟨t0, i0, l0, 0⟩, ⟨t1, i1, l1, 0⟩] scope pos) 1 it acc env).onRaise (fun x => do noteFrame x env; standAt theWindowsPlace)) _ _ s
  exact wpAny_notedAt h
end
theorem body_deep {X : Cx} {kx vx t0 i0 t1 i1 : Expr} {l0 l1 : List Expr} {scope : Scope} {pos : Pos} {D : Addr} {wi1 : TI} {g1 : TG} {tt1 : TT} {tk tv : TE} {vs1 : List Nat} (hc : X.calm = true) (hx : X.xe = fun _ _ => False) (hu : X.A.units + 1 < cLine) (hi : PI X t1 i1 wi1) (hg : PG X t1 g1) (ht : PTs X l1 tt1) (hk : PE X kx tk) (hv : PE X vx tv)
    (hs : ∀ a, foldedSetIterable i1 X.env a = pure a) : Body X (deepB (.DictComp kx vx [⟨t0, i0, l0, 0⟩, ⟨t1, i1, l1, 0⟩] scope pos) i1 D X.env) (tbDeep wi1 g1 tt1 tk tv vs1 D) vs1 := fun pins s σ H N nxt Q E I h q => by
  refine wpAny_bind (thnX hx (hi.run pins s σ H _ I h) fun a s1 h1 => ?_)
  refine wpAny_bind (wpAny_standAt (wpAny_bind (wpAny_of_eq (hs a) (wpAny_bind (wpAny_holding (thnX hx h1 fun itv s2 h2 => ?_))))))
  obtain ⟨it, fp, tn, J, H2, e, I2, T, st2, f2, W, ⟨m0, w0⟩, lp⟩ := h2
  subst e
  refine wpAny_bind (wpAny_runOwn ?_)
  rw [Around.mark_none]
  have ok : ∀ {σ' H' s'}, Inv X pins σ' H' s' → (∀ b ∈ fp, H' b = none) → ∀ b ∈ fp, FpOk X pins H' b := fun _ hn b hb => ⟨hn b hb, (f2 b hb).2⟩
  have loop := loop_runs (R := fun r s' => match r with
    | .ok _ => wpAny (model X.prog X.w) X.A nxt Q E s'
    | .error _ => False) (turn_in (tg := t0) (src := i0) (tg1 := t1) (src1 := i1) (ifs1 := l1) (ifs := l0) (scope := scope) (pos := pos) (kx := kx) (vx := vx) (it := .ref it) (D := D)) hc hx T hg ht (body_pair hx hu hk hv) (vB := []) (vs := vs1) (fun i z => by cases z) ok lp (fun s' H' I' z => q s' H' I' z) (I2.weak (wipe_length _ _) fun j v e => (wipe_some e).1) st2 (fun b hb => (f2 b hb).1) w0
  refine codeAny_mono (deep_starts loop (T.self X.A 0 _ _ _ st2 loop)) fun r s' hr => ?_
  cases r with
  | ok f =>
    first
      | exact wpAny_pure hr
      | exact hr
  | error e => exact hr.elim
/-! ### the whole comprehension -/
/-- emp: the new dict, of the kind that is wanted -/
def tDcg (emp : HO) (wi : TI) (g : TG) (tt : TT) (tb : Addr → L2.St → Hp → (Hp → Prop) → Prop) (vs : List Nat) : TE := fun σ H Q => wi σ H fun J H1 => ∀ D, H1 D = none → ∃ W, (∃ m, W 0 m (upd H1 D emp)) ∧ Loop1 J g tt (tb D) vs σ W (Q (.ref D))
theorem empty_ok {emp : HO} (he : emp = .dK [] ∨ emp = .dT []) {P : Program} {w : World} {H : Hp} (h : Heap) (hb : sysModules < h.objs.size) : ObjOk P w H (h.push { cls := .type "dict", data := .dict #[] }) h.objs.size emp := by
  rcases he with rfl | rfl
  · exact dk_empty h hb
  · exact dt_empty h hb
section
variable {X : Cx} {kx vx tg src : Expr} {ifs : List Expr} {rest : List Comprehension} {scope : Scope} {own : List (Str × Nat)} {pos : Pos} {emp : HO} {wi : TI} {g : TG} {tt : TT} {tb : Addr → L2.St → Hp → (Hp → Prop) → Prop} {vB : List Nat} {B : Addr → PySem.Env → Sem PySem.Fin → Sem PySem.Fin}
theorem dcomp_core {pins : List (Addr × Obj)} {s : Shared} {σ : L2.St} {H : Hp} {Q : VK} {pos' : Pos} {use : Option (Value → Sem Unit)} {Qf : Value → Shared → Prop} (he : emp = .dK [] ∨ emp = .dT []) (hc : X.calm = true) (hN : X.N.Nodup) (I : Inv X pins σ H s) (hi : PI X tg src wi) (ok : BlkOk X.N X.env.scope scope own)
    (hturn : ∀ it D env, compTurn (.DictComp kx vx (⟨tg, src, ifs, 0⟩ :: rest) scope pos) 0 it (.ref D) env = turnOf tg src.pos ifs (B D env) it env (again (.compLoop (.DictComp kx vx (⟨tg, src, ifs, 0⟩ :: rest) scope pos) 0 it (.ref D) env)))
    (hg : ∀ (s : Shared) (H : Hp) (C : Addr) (cl : List (Str × Addr)) (fp : List Addr), PG (X.blk s H scope (compEnvC scope cl C X.env) fp) tg g) (hq : ∀ (s : Shared) (H : Hp) (C : Addr) (cl : List (Str × Addr)) (fp : List Addr), PTs (X.blk s H scope (compEnvC scope cl C X.env) fp) ifs tt)
    (hb : ∀ (s : Shared) (H : Hp) (C : Addr) (cl : List (Str × Addr)) (fp : List Addr) (D : Addr), Body (X.blk s H scope (compEnvC scope cl C X.env) fp) (B D (compEnvC scope cl C X.env)) (tb D) vB) (hv : ∀ i ∈ vB, i ∈ own.map (·.2)) (hs : ∀ x, foldedSetIterable src X.env x = pure x)
    (h : tDcg emp wi g tt tb (own.map (·.2)) σ H Q) (hR : ∀ D C s' m H', Inv X pins σ H' s' → Q (.ref D) H' → s'.heap.Ns C m → FpOk X pins H' C → compPost (model X.prog X.w) X.A X.xe use Qf (.ref D) C (.ok .next) s') :
    wpAny (model X.prog X.w) X.A (comprehension (.DictComp kx vx (⟨tg, src, ifs, 0⟩ :: rest) scope pos) scope X.env pos' newDict false (eval src X.env) use) Qf X.xe s := by
  have free : ∀ y ∈ scope.names, y.2 = .free → ∃ c, X.env.cells.lookup y.1 = some c := fun y hy e => I.ok.has _ ((ok.free y hy e).elim .inl .inr)
  refine wpAny_comprehension_free (use := use) rfl hs (closure_ok free) ok.kind (fun y hy e => by rw [ok.uniq y hy, e]) (thn (hi.run pins s σ H _ I h) fun xv s1 hx => thn hx fun itv s2 h2 => ?_)
  obtain ⟨it, fp, tn, J, H2, e, J2, T, st2, f2, q⟩ := h2
  subst e
  refine wpAny_newObj_type (newEnv_comp ?_)
  generalize hD : s2.heap.objs.size = D
  obtain ⟨W, ⟨m0, w0⟩, lp⟩ := q D (J2.hok.fresh (Nat.le_of_eq hD))
  generalize hs3 : ({ s2 with heap := s2.heap.push { cls := .type "dict", data := .dict #[] } } : Shared) = s3
  have h3 : s3.heap = s2.heap.push { cls := .type "dict", data := .dict #[] } := by rw [← hs3]
  have J3 : Inv X pins σ (upd H2 D emp) s3 := by
    rw [← hs3]
    refine J2.laid (t' := s2.toks) (fun b o z => Heap.get?_push_of_some _ z) (Nat.le_of_eq hD) ?_
    rw [← hD]
    exact empty_ok he s2.heap J2.big
  have f3 : ∀ b ∈ fp, FpOk X pins (upd H2 D emp) b ∧ b < s3.heap.objs.size := fun b hb => by
    obtain ⟨o, z, _⟩ := T.obj _ _ st2 b hb
    have lt := Heap.lt_size z
    refine ⟨⟨(upd_ne (by rw [← hD]; exact Nat.ne_of_lt lt)).trans (f2 b hb).1, (f2 b hb).2⟩, ?_⟩
    rw [h3, Heap.size_push]
    exact Nat.lt_succ_of_lt lt
  have J4 := block_start J3 ok hN f3
  have pg := hg s3 (upd H2 D emp) s3.heap.objs.size (cellsFrom (s3.heap.objs.size + 1) scope.names (cloFrom X.env.cells scope.names [])) fp
  have pq := hq s3 (upd H2 D emp) s3.heap.objs.size (cellsFrom (s3.heap.objs.size + 1) scope.names (cloFrom X.env.cells scope.names [])) fp
  have pb := hb s3 (upd H2 D emp) s3.heap.objs.size (cellsFrom (s3.heap.objs.size + 1) scope.names (cloFrom X.env.cells scope.names [])) fp D
  have tr := fun it => hturn it D (compEnvC scope (cellsFrom (s3.heap.objs.size + 1) scope.names (cloFrom X.env.cells scope.names [])) s3.heap.objs.size X.env)
  have n3 : ∀ b ∈ fp, (upd H2 D emp) b = none := fun b hb => (f3 b hb).1.1
  have st4 : tn 0 (pushCells (s3.heap.push { cls := .type "dict", data := .dict #[] }) scope.names) := T.keep _ _ _ st2 fun b _ o z => pushCells_keeps _ _ _ _ (Heap.get?_push_of_some _ (by rw [h3]; exact Heap.get?_push_of_some _ z))
  have cL : (compEnvC scope (cellsFrom (s3.heap.objs.size + 1) scope.names (cloFrom X.env.cells scope.names [])) s3.heap.objs.size X.env).locals = s3.heap.objs.size := rfl
  show codeAny _ _ (.compStart (.DictComp kx vx (⟨tg, src, ifs, 0⟩ :: rest) scope pos) 0 (.ref it) (.ref D) (compEnvC scope (cellsFrom (s3.heap.objs.size + 1) scope.names (cloFrom X.env.cells scope.names [])) s3.heap.objs.size X.env)) (compPost (model X.prog X.w) X.A X.xe use Qf (.ref D) s3.heap.objs.size) { s3 with heap := pushCells (s3.heap.push { cls := .type "dict", data := .dict #[] }) scope.names }
  generalize compEnvC scope (cellsFrom (s3.heap.objs.size + 1) scope.names (cloFrom X.env.cells scope.names [])) s3.heap.objs.size X.env = ce at J4 pg pq pb tr cL ⊢
  generalize upd H2 D emp = H3 at J3 J4 pg pq pb w0 n3 f3
  have fine : ∀ {σ' : L2.St} {H' : Hp} {s' : Shared}, Inv (X.blk s3 H3 scope ce fp) [] σ' H' s' → (∀ b ∈ fp, H' b = none) → ∀ b ∈ fp, FpOk (X.blk s3 H3 scope ce fp) [] H' b := fun {σ' H' s'} I' hn b hb =>
    ⟨hn b hb, (I'.ok.exf b hb).1, I'.ok.exfs b hb, .inl hb, fun x c z => (I'.ok.exf b hb).2 x c z, fun p hp => by cases (show p ∈ ([] : List (Addr × Obj)) from hp)⟩
  have loop := loop_runs (X := X.blk s3 H3 scope ce fp) (pins := []) (R := compPost (model X.prog X.w) X.A X.xe use Qf (.ref D) s3.heap.objs.size) (tr (.ref it)) hc rfl T pg pq pb hv fine lp (fun s6 H5 I6 z => by
    have J7 : Inv X pins σ H5 s6 := J3.call' (ch := fp) I6.os I6.base I6.hok I6.bare fun b hb => ⟨(f3 b hb).1.2.2.2.1, (f3 b hb).1.2.1, (f3 b hb).1.2.2.2.2.1, (f3 b hb).1.2.2.2.2.2⟩
    have nC : H5 ce.locals = none := I6.free
    obtain ⟨m, hn, _⟩ := I6.loc
    have hn : s6.heap.Ns ce.locals m := hn
    rw [cL] at hn nC
    exact hR D s3.heap.objs.size s6 m H5 J7 z hn (J3.fpOk (Nat.le_refl _) nC)) J4 st4 n3 w0
  exact codeAny_compStart_dict loop (T.self X.A 0 _ _ _ st4 loop)
/-- as a value -/
theorem pe_dcg (he : emp = .dK [] ∨ emp = .dT []) (hc : X.calm = true) (hN : X.N.Nodup) (hi : PI X tg src wi) (ok : BlkOk X.N X.env.scope scope own)
    (hturn : ∀ it D env, compTurn (.DictComp kx vx (⟨tg, src, ifs, 0⟩ :: rest) scope pos) 0 it (.ref D) env = turnOf tg src.pos ifs (B D env) it env (again (.compLoop (.DictComp kx vx (⟨tg, src, ifs, 0⟩ :: rest) scope pos) 0 it (.ref D) env)))
    (hg : ∀ (s : Shared) (H : Hp) (C : Addr) (cl : List (Str × Addr)) (fp : List Addr), PG (X.blk s H scope (compEnvC scope cl C X.env) fp) tg g) (hq : ∀ (s : Shared) (H : Hp) (C : Addr) (cl : List (Str × Addr)) (fp : List Addr), PTs (X.blk s H scope (compEnvC scope cl C X.env) fp) ifs tt)
    (hb : ∀ (s : Shared) (H : Hp) (C : Addr) (cl : List (Str × Addr)) (fp : List Addr) (D : Addr), Body (X.blk s H scope (compEnvC scope cl C X.env) fp) (B D (compEnvC scope cl C X.env)) (tb D) vB) (hv : ∀ i ∈ vB, i ∈ own.map (·.2)) (hs : ∀ x, foldedSetIterable src X.env x = pure x) :
    PE X (.DictComp kx vx (⟨tg, src, ifs, 0⟩ :: rest) scope pos) (tDcg emp wi g tt tb (own.map (·.2))) := by
  refine ⟨fun pins s σ H Q I h => ?_⟩
  rw [arm_eval_DictComp]
  refine dcomp_core he hc hN I hi ok hturn hg hq hb hv hs h fun D C s' m H' J' q hn f => ⟨m, hn, fun h'' sb => ?_⟩
  exact ⟨.ref D, H', J'.turned (t' := s'.toks) (fun b o hb e => (sb.2 b hb).trans e) f.1 f.2.1 f.2.2.2.1 f.2.2.2.2.1 f.2.2.2.2.2, rfl, q⟩
/-- stored at once in a plain local name -/
theorem ps_setDcg {i : Nat} {y : Str} {py spos : Pos} (he : emp = .dK [] ∨ emp = .dT []) (hc : X.calm = true) (hN : X.N.Nodup) (hy : X.N[i]? = some y) (hyl : X.env.scope.names.lookup y = some .local)
    (hsw : swapsWith (.DictComp kx vx (⟨tg, src, ifs, 0⟩ :: rest) scope pos) (some (.Name y py)) spos.line X.env = pure true) (hi : PI X tg src wi) (ok : BlkOk X.N X.env.scope scope own)
    (hturn : ∀ it D env, compTurn (.DictComp kx vx (⟨tg, src, ifs, 0⟩ :: rest) scope pos) 0 it (.ref D) env = turnOf tg src.pos ifs (B D env) it env (again (.compLoop (.DictComp kx vx (⟨tg, src, ifs, 0⟩ :: rest) scope pos) 0 it (.ref D) env)))
    (hg : ∀ (s : Shared) (H : Hp) (C : Addr) (cl : List (Str × Addr)) (fp : List Addr), PG (X.blk s H scope (compEnvC scope cl C X.env) fp) tg g) (hq : ∀ (s : Shared) (H : Hp) (C : Addr) (cl : List (Str × Addr)) (fp : List Addr), PTs (X.blk s H scope (compEnvC scope cl C X.env) fp) ifs tt)
    (hb : ∀ (s : Shared) (H : Hp) (C : Addr) (cl : List (Str × Addr)) (fp : List Addr) (D : Addr), Body (X.blk s H scope (compEnvC scope cl C X.env) fp) (B D (compEnvC scope cl C X.env)) (tb D) vB) (hv : ∀ i ∈ vB, i ∈ own.map (·.2)) (hs : ∀ x, foldedSetIterable src X.env x = pure x) :
    PS X (.Assign [.Name y py] (.DictComp kx vx (⟨tg, src, ifs, 0⟩ :: rest) scope pos) spos) (tAsg (tDcg emp wi g tt tb (own.map (·.2))) (gName i)) := by
  refine ⟨fun pins s σ H D I h => ?_⟩
  rw [exec_Assign_Name_used _ _ _ _ hsw]
  refine wpAny_bind (wpAny_standAt (wpAny_bind ?_))
  show wpAny _ X.A (do let _ ← comprehension (.DictComp kx vx (⟨tg, src, ifs, 0⟩ :: rest) scope pos) scope X.env (firstIterPos (⟨tg, src, ifs, 0⟩ :: rest) pos) newDict false (eval src X.env) (some (assign (.Name y py) X.env))) _ _ s
  have h : tDcg emp wi g tt tb (own.map (·.2)) σ H (fun x H1 => gName i x σ H1 D.nx) := h
  refine wpAny_bind (thn (dcomp_core (Qf := fun _ s' => L2.SP X pins D .next s') he hc hN I hi ok hturn hg hq hb hv hs h fun L C s' m H' J' q hn f => ?_) fun _ s' z => wpAny_pure (wpAny_pure z))
  show wpAny _ _ (assign (.Name y py) X.env (.ref L)) _ _ _
  refine wpAny_assign_Name (store_ok2 (v := V.ref L) J' hN hy (.inl hyl) rfl (fun s2 J2 ⟨a, sb, ha⟩ => ?_) (.inr hyl))
  have ne : C ≠ a := ha.elim (fun z => by rw [z]; exact f.2.1) fun z e => f.2.2.2.2.1 y a z e.symm
  exact ⟨m, hn.sameBut sb ne, fun h3 sb3 => ⟨_, H', J2.turned (t' := s2.toks) (fun b o hb e => (sb3.2 b hb).trans e) f.1 f.2.1 f.2.2.2.1 f.2.2.2.2.1 f.2.2.2.2.2, q⟩⟩
end
theorem sw_trueD {kx vx : Expr} {gs : List Comprehension} {scope : Scope} {pos py : Pos} {y : Str} {l : Nat} {env : PySem.Env} (h1 : env.scope.kind = .function) (h2 : env.scope.names.lookup y = some .local) (h3 : (py.line == pos.line) = true)
    (h4 : (scope.names.any fun (n, k) => n == y && (k == .local || k == .cell)) = false) : swapsWith (.DictComp kx vx gs scope pos) (some (.Name y py)) l env = pure true := by
  have e1 : env.kindOf y = some .local := h2
  have e2 : env.blockKind = .function := by
    unfold Env.blockKind
    rw [h1]
    rfl
  unfold swapsWith
  simp only [e2, e1, h4, Expr.pos, h3]
  rfl
/-! ### as they are used -/
section
variable {X : Cx} {kx vx tg src tg1 src1 : Expr} {ifs ifs1 : List Expr} {scope : Scope} {own : List (Str × Nat)} {vs1 : List Nat} {pos : Pos} {emp : HO} {wi wi1 : TI} {g g1 : TG} {tt tt1 : TT} {tk tv : TE}
theorem pe_dc1 (he : emp = .dK [] ∨ emp = .dT []) (hc : X.calm = true) (hu : X.A.units + 1 < cLine) (hN : X.N.Nodup) (hi : PI X tg src wi) (ok : BlkOk X.N X.env.scope scope own)
    (hg : ∀ (s : Shared) (H : Hp) (C : Addr) (cl : List (Str × Addr)) (fp : List Addr), PG (X.blk s H scope (compEnvC scope cl C X.env) fp) tg g) (hq : ∀ (s : Shared) (H : Hp) (C : Addr) (cl : List (Str × Addr)) (fp : List Addr), PTs (X.blk s H scope (compEnvC scope cl C X.env) fp) ifs tt)
    (hk : ∀ (s : Shared) (H : Hp) (C : Addr) (cl : List (Str × Addr)) (fp : List Addr), PE (X.blk s H scope (compEnvC scope cl C X.env) fp) kx tk) (hv : ∀ (s : Shared) (H : Hp) (C : Addr) (cl : List (Str × Addr)) (fp : List Addr), PE (X.blk s H scope (compEnvC scope cl C X.env) fp) vx tv)
    (hs : ∀ x, foldedSetIterable src X.env x = pure x := by intro _; rfl) : PE X (.DictComp kx vx [⟨tg, src, ifs, 0⟩] scope pos) (tDcg emp wi g tt (tbPair tk tv) (own.map (·.2))) :=
  pe_dcg (vB := []) he hc hN hi ok (fun _ _ _ => turn_one) hg hq (fun s H C cl fp D => body_pair rfl hu (hk s H C cl fp) (hv s H C cl fp)) (fun i h => by cases h) hs
theorem pe_dc2 (he : emp = .dK [] ∨ emp = .dT []) (hc : X.calm = true) (hu : X.A.units + 1 < cLine) (hN : X.N.Nodup) (hi : PI X tg src wi) (ok : BlkOk X.N X.env.scope scope own) (hw : ∀ i ∈ vs1, i ∈ own.map (·.2))
    (hg : ∀ (s : Shared) (H : Hp) (C : Addr) (cl : List (Str × Addr)) (fp : List Addr), PG (X.blk s H scope (compEnvC scope cl C X.env) fp) tg g) (hq : ∀ (s : Shared) (H : Hp) (C : Addr) (cl : List (Str × Addr)) (fp : List Addr), PTs (X.blk s H scope (compEnvC scope cl C X.env) fp) ifs tt)
    (hi1 : ∀ (s : Shared) (H : Hp) (C : Addr) (cl : List (Str × Addr)) (fp : List Addr), PI (X.blk s H scope (compEnvC scope cl C X.env) fp) tg1 src1 wi1) (hg1 : ∀ (s : Shared) (H : Hp) (C : Addr) (cl : List (Str × Addr)) (fp : List Addr), PG (X.blk s H scope (compEnvC scope cl C X.env) fp) tg1 g1)
    (hq1 : ∀ (s : Shared) (H : Hp) (C : Addr) (cl : List (Str × Addr)) (fp : List Addr), PTs (X.blk s H scope (compEnvC scope cl C X.env) fp) ifs1 tt1) (hk : ∀ (s : Shared) (H : Hp) (C : Addr) (cl : List (Str × Addr)) (fp : List Addr), PE (X.blk s H scope (compEnvC scope cl C X.env) fp) kx tk)
    (hv : ∀ (s : Shared) (H : Hp) (C : Addr) (cl : List (Str × Addr)) (fp : List Addr), PE (X.blk s H scope (compEnvC scope cl C X.env) fp) vx tv) (hs : ∀ x, foldedSetIterable src X.env x = pure x := by intro _; rfl) (hs1 : ∀ env x, foldedSetIterable src1 env x = pure x := by intro _ _; rfl) :
    PE X (.DictComp kx vx [⟨tg, src, ifs, 0⟩, ⟨tg1, src1, ifs1, 0⟩] scope pos) (tDcg emp wi g tt (tbDeep wi1 g1 tt1 tk tv vs1) (own.map (·.2))) :=
  pe_dcg (vB := vs1) he hc hN hi ok (fun _ _ _ => turn_out) hg hq (fun s H C cl fp D => body_deep (t0 := tg) (i0 := src) (l0 := ifs) (scope := scope) (pos := pos) hc rfl hu (hi1 s H C cl fp) (hg1 s H C cl fp) (hq1 s H C cl fp) (hk s H C cl fp) (hv s H C cl fp) (hs1 _)) hw hs
theorem ps_setDc2 {i : Nat} {y : Str} {py spos : Pos} (he : emp = .dK [] ∨ emp = .dT []) (hc : X.calm = true) (hu : X.A.units + 1 < cLine) (hN : X.N.Nodup) (hy : X.N[i]? = some y) (hyl : X.env.scope.names.lookup y = some .local) (hsw : swapsWith (.DictComp kx vx [⟨tg, src, ifs, 0⟩, ⟨tg1, src1, ifs1, 0⟩] scope pos) (some (.Name y py)) spos.line X.env = pure true)
    (hi : PI X tg src wi) (ok : BlkOk X.N X.env.scope scope own) (hw : ∀ i ∈ vs1, i ∈ own.map (·.2))
    (hg : ∀ (s : Shared) (H : Hp) (C : Addr) (cl : List (Str × Addr)) (fp : List Addr), PG (X.blk s H scope (compEnvC scope cl C X.env) fp) tg g) (hq : ∀ (s : Shared) (H : Hp) (C : Addr) (cl : List (Str × Addr)) (fp : List Addr), PTs (X.blk s H scope (compEnvC scope cl C X.env) fp) ifs tt)
    (hi1 : ∀ (s : Shared) (H : Hp) (C : Addr) (cl : List (Str × Addr)) (fp : List Addr), PI (X.blk s H scope (compEnvC scope cl C X.env) fp) tg1 src1 wi1) (hg1 : ∀ (s : Shared) (H : Hp) (C : Addr) (cl : List (Str × Addr)) (fp : List Addr), PG (X.blk s H scope (compEnvC scope cl C X.env) fp) tg1 g1)
    (hq1 : ∀ (s : Shared) (H : Hp) (C : Addr) (cl : List (Str × Addr)) (fp : List Addr), PTs (X.blk s H scope (compEnvC scope cl C X.env) fp) ifs1 tt1) (hk : ∀ (s : Shared) (H : Hp) (C : Addr) (cl : List (Str × Addr)) (fp : List Addr), PE (X.blk s H scope (compEnvC scope cl C X.env) fp) kx tk)
    (hv : ∀ (s : Shared) (H : Hp) (C : Addr) (cl : List (Str × Addr)) (fp : List Addr), PE (X.blk s H scope (compEnvC scope cl C X.env) fp) vx tv) (hs : ∀ x, foldedSetIterable src X.env x = pure x := by intro _; rfl) (hs1 : ∀ env x, foldedSetIterable src1 env x = pure x := by intro _ _; rfl) :
    PS X (.Assign [.Name y py] (.DictComp kx vx [⟨tg, src, ifs, 0⟩, ⟨tg1, src1, ifs1, 0⟩] scope pos) spos) (tAsg (tDcg emp wi g tt (tbDeep wi1 g1 tt1 tk tv vs1) (own.map (·.2))) (gName i)) :=
  ps_setDcg (vB := vs1) he hc hN hy hyl hsw hi ok (fun _ _ _ => turn_out) hg hq (fun s H C cl fp D => body_deep (t0 := tg) (i0 := src) (l0 := ifs) (scope := scope) (pos := pos) hc rfl hu (hi1 s H C cl fp) (hg1 s H C cl fp) (hq1 s H C cl fp) (hk s H C cl fp) (hv s H C cl fp) (hs1 _)) hw hs
end
end Ls
/-! Lay6 -/
set_option maxHeartbeats 4000000
/-! The layer, sixth part: dicts whose keys are tuples. -/
namespace Ls
open PySem PySem.Spec PyProof.Rows L2
section
variable {A : Amb} {ρ : Env} {te ta tb tc : TE} {tt tu : TT} {φ ψ χ : SP} {K : PySem.W.Frag} {G0 H0 G H : Hp} {σ : L2.St} {D : Ends} {t u tz tw : TS}
/-! ### what a dict holds -/
abbrev TKey := List Key
abbrev DFn := TKey → Option PyData
def kD : Key → PyData
  | .inl i => .int i
  | .inr x => .str x
def tD (k : TKey) : PyData := .tuple (k.map kD)
theorem rp_key {G : Hp} : ∀ {k : Key} {v : V}, Rp G v (kD k) → v = kV k
  | .inl i, v, h => h.int_inv
  | .inr x, v, h => h.str_inv
theorem rp_keys {G : Hp} : ∀ {k : TKey} {vs : List V}, RpAll G vs (k.map kD) → vs = k.map kV
  | [], _, .nil => rfl
  | x :: r, _, .cons h t => by
    rw [rp_key h, rp_keys t]
    rfl
theorem rp_tkey {G : Hp} {k : TKey} {v : V} (h : Rp G v (tD k)) : ∃ b, v = .ref b ∧ G b = some (.tup (k.map kV)) := by
  obtain ⟨a, xs, rfl, ha, r⟩ := Rp.tup_inv h
  rw [rp_keys r] at ha
  exact ⟨a, rfl, ha⟩
structure DF (G : Hp) (kvs : List (TKey × V)) (f : DFn) : Prop where
  yes : ∀ k d, f k = some d → ∃ v, valV kvs k = some v ∧ Rp G v d
  no : ∀ k, f k = none → valV kvs k = none
theorem DF.mono {G G' : Hp} {kvs : List (TKey × V)} {f : DFn} (s : Same G G') (h : DF G kvs f) : DF G' kvs f :=
  ⟨fun k d e => let ⟨v, a, b⟩ := h.yes k d e; ⟨v, a, b.mono s⟩, h.no⟩
theorem DF.nil {G : Hp} : DF G [] fun _ => none := ⟨fun _ _ e => (by cases e), fun _ _ => rfl⟩
def putF (f : DFn) (k : TKey) (d : PyData) : DFn := fun j => if j = k then some d else f j
theorem DF.put {G : Hp} {kvs : List (TKey × V)} {f : DFn} {k : TKey} {v : V} {d : PyData} (h : DF G kvs f) (p : Rp G v d) : DF G (L2.putK kvs k v) (putF f k d) := by
  refine ⟨fun j e he => ?_, fun j he => ?_⟩
  · rw [valV_put]
    unfold putF at he
    by_cases q : j = k
    · rw [if_pos q] at he ⊢
      obtain rfl := Option.some.inj he
      exact ⟨v, rfl, p⟩
    · rw [if_neg q] at he ⊢
      exact h.yes j e he
  · rw [valV_put]
    unfold putF at he
    by_cases q : j = k
    · rw [if_pos q] at he
      cases he
    · rw [if_neg q] at he ⊢
      exact h.no j he
theorem DF.isSome {G : Hp} {kvs : List (TKey × V)} {f : DFn} (h : DF G kvs f) (k : TKey) : (valV kvs k).isSome = (f k).isSome := by
  cases e : f k with
  | none =>
    rw [h.no k e]
    rfl
  | some d =>
    obtain ⟨v, a, _⟩ := h.yes k d e
    rw [a]
    rfl
/-- an entry's key is held -/
theorem DF.mem {G : Hp} {kvs : List (TKey × V)} {f : DFn} (h : DF G kvs f) {i : Nat} {k : TKey} {v : V} (e : kvs[i]? = some (k, v)) : (f k).isSome = true := by
  rw [← h.isSome k, ← valV_any]
  exact List.any_eq_true.mpr ⟨(k, v), List.mem_of_getElem? e, decide_eq_true rfl⟩
theorem valV_mem {κ : Type} [DecidableEq κ] {k : κ} : ∀ {kvs : List (κ × V)} {v : V}, valV kvs k = some v → ∃ i : Nat, kvs[i]? = some (k, v)
  | [], _, e => by cases e
  | p :: r, v, e => by
    by_cases q : p.1 = k
    · rw [valV_pos q] at e
      have e2 : p = (k, v) := by
        rw [← q, ← Option.some.inj e]
      exact ⟨0, by rw [e2]; rfl⟩
    · rw [valV_neg q] at e
      obtain ⟨i, h⟩ := valV_mem e
      exact ⟨i + 1, h⟩
/-- what is held is an entry -/
theorem DF.ent {G : Hp} {kvs : List (TKey × V)} {f : DFn} (h : DF G kvs f) {k : TKey} {d : PyData} (e : f k = some d) : ∃ (i : Nat) (v : V), kvs[i]? = some (k, v) ∧ Rp G v d := by
  obtain ⟨v, a, p⟩ := h.yes k d e
  obtain ⟨i, q⟩ := valV_mem a
  exact ⟨i, v, q, p⟩
/-- a dict that stands still -/
theorem rd_mono {a : Addr} {o : HO} (s : Same G H) (h : Rd G a o) : Rd H a o := by
  rcases h with h | ⟨od, h⟩
  · exact .inl (s _ _ h)
  · exact .inr ⟨od, s _ _ h⟩
def dicS (f : DFn) : SP := ⟨fun G v => ∃ a kvs, v = .ref a ∧ Rd G a (.dT kvs) ∧ DF G kvs f, fun s ⟨a, kvs, e, h, d⟩ => ⟨a, kvs, e, rd_mono s h, d.mono s⟩⟩
theorem dicS_get {v : V} {f : DFn} (h : (dicS f).p G v) : ∃ a kvs, v = .ref a ∧ Rd G a (.dT kvs) ∧ DF G kvs f := h
theorem dget_rd {a b : Addr} {kvs : List (TKey × V)} {k : TKey} (e : Rd H a (.dT kvs)) (eb : H b = some (.tup (k.map kV))) : DGet H a (.ref b) (valV kvs k) := .inr ⟨kvs, k, b, e, rfl, eb, rfl⟩
theorem xe_dget {k : TKey} {d : PyData} {f : DFn} (h : XE A ta ρ (dicS f)) (hk : XE A tb ρ (dat (tD k))) (e : f k = some d) : XE A (tDGet ta tb) ρ (dat d) := fun G H σ Q E s j c =>
  h G H σ _ E s j fun x G1 H1 t1 j1 p1 => hk G1 H1 σ _ (E.mono t1.g) t1.s j1 fun y G2 H2 t2 j2 p2 => by
    obtain ⟨a, kvs, rfl, ha, df⟩ := dicS_get ((dicS f).mono t2.g p1)
    obtain ⟨b, rfl, hb⟩ := rp_tkey p2
    obtain ⟨v, l, p⟩ := df.yes k d e
    exact ⟨a, v, rfl, by rw [← l]; exact dget_rd (rd_mono t2.s ha) (t2.s _ _ hb), c v G2 H2 (t1.trans t2) j2 p⟩
theorem xe_din {k : TKey} {f : DFn} (hk : XE A tb ρ (dat (tD k))) (h : XE A ta ρ (dicS f)) : XE A (tDIn tb ta) ρ (dat (.bool (f k).isSome)) := fun G H σ Q E s j c =>
  hk G H σ _ E s j fun y G1 H1 t1 j1 p1 => h G1 H1 σ _ (E.mono t1.g) t1.s j1 fun x G2 H2 t2 j2 p2 => by
    obtain ⟨a, kvs, rfl, ha, df⟩ := dicS_get p2
    obtain ⟨b, rfl, hb⟩ := rp_tkey (p1.mono t2.g)
    refine ⟨a, _, rfl, dget_rd (rd_mono t2.s ha) (t2.s _ _ hb), ?_⟩
    rw [df.isSome k]
    exact c _ G2 H2 (t1.trans t2) j2 (.bl _)
theorem xe_dnin {k : TKey} {f : DFn} (hk : XE A tb ρ (dat (tD k))) (h : XE A ta ρ (dicS f)) : XE A (tDNotIn tb ta) ρ (dat (.bool (!(f k).isSome))) := fun G H σ Q E s j c =>
  hk G H σ _ E s j fun y G1 H1 t1 j1 p1 => h G1 H1 σ _ (E.mono t1.g) t1.s j1 fun x G2 H2 t2 j2 p2 => by
    obtain ⟨a, kvs, rfl, ha, df⟩ := dicS_get p2
    obtain ⟨b, rfl, hb⟩ := rp_tkey (p1.mono t2.g)
    refine ⟨a, _, rfl, dget_rd (rd_mono t2.s ha) (t2.s _ _ hb), ?_⟩
    rw [df.isSome k]
    exact c _ G2 H2 (t1.trans t2) j2 (.bl _)
/-! ### an owned dict seen as standing still -/
theorem same_in {l : Addr} {o : HO} (s : Same G H) (h : H l = some o) : Same (upd G l o) H := fun b u e => by
  by_cases q : b = l
  · subst q
    rw [upd_same] at e
    rw [← Option.some.inj e]
    exact h
  · rw [upd_ne q] at e
    exact s b u e
def without (G : Hp) (l : Addr) : Hp := fun b => if b = l then none else G b
theorem without_of {l b : Addr} {o : HO} (h : G b = some o) (ne : b ≠ l) : without G l b = some o := by
  unfold without
  rw [if_neg ne]
  exact h
mutual
theorem Rp.without {G : Hp} {l : Addr} (h1 : ∀ xs, G l ≠ some (.lst xs)) (h2 : ∀ xs, G l ≠ some (.tup xs)) : ∀ {v : V} {d : PyData}, Rp G v d → Rp (Ls.without G l) v d
  | _, _, .non => .non
  | _, _, .bl b => .bl b
  | _, _, .int i => .int i
  | _, _, .str x => .str x
  | _, _, .lst h r => .lst (without_of h fun e => h1 _ (by rw [← e]; exact h)) (RpAll.without h1 h2 r)
  | _, _, .tup h r => .tup (without_of h fun e => h2 _ (by rw [← e]; exact h)) (RpAll.without h1 h2 r)
theorem RpAll.without {G : Hp} {l : Addr} (h1 : ∀ xs, G l ≠ some (.lst xs)) (h2 : ∀ xs, G l ≠ some (.tup xs)) : ∀ {vs : List V} {ds : List PyData}, RpAll G vs ds → RpAll (Ls.without G l) vs ds
  | _, _, .nil => .nil
  | _, _, .cons h r => .cons (Rp.without h1 h2 h) (RpAll.without h1 h2 r)
end
/-- a step over what we own, told without it -/
theorem Stp.less {G2 H2 : Hp} {l : Addr} {o : HO} (w : Own G H l o) (s : Same G H) (t : Stp A0 (upd G l o) H G2 H2) : Stp A0 G H (Ls.without G2 l) H2 where
  h := t.h
  g := fun b u e => without_of (t.g b u (by rw [upd_ne (ne_of_none e w.g)]; exact e)) (ne_of_none e w.g)
  s := fun b u e => by
    unfold Ls.without at e
    by_cases q : b = l
    · rw [if_pos q] at e
      cases e
    · rw [if_neg q] at e
      exact t.s b u e
  n := fun b u e => by
    unfold Ls.without at e
    by_cases q : b = l
    · rw [if_pos q] at e
      cases e
    · rw [if_neg q] at e
      rcases t.n b u e with z | z
      · rw [upd_ne q] at z
        exact .inl z
      · exact .inr z
  k := t.k
/-- a dict of ours, locked or not -/
def IsDT (kvs : List (TKey × V)) (o : HO) : Prop := o = .dT kvs ∨ ∃ od, o = .frz od (.dT kvs)
theorem IsDT.rd {kvs : List (TKey × V)} {o : HO} {l : Addr} (h : IsDT kvs o) (e : G l = some o) : Rd G l (.dT kvs) := by
  rcases h with rfl | ⟨od, rfl⟩
  · exact .inl e
  · exact .inr ⟨od, e⟩
/-- an expression over an owned dict -/
theorem At.viewO {l : Addr} {kvs : List (TKey × V)} {f : DFn} {i : Nat} {d : PyData} {o : HO} (ho : IsDT kvs o) (a : At A0 G0 H0 G H σ ρ) (w : Own G H l o) (hi : ρ[i]? = some (some (isV (.ref l)))) (df : DF G kvs f) (h : XE A0 te (ρ.set i (some (dicS f))) (dat d)) {Q : VK}
    (k : ∀ v G2 H2, Stp A0 G H G2 H2 → Rp G2 v d → Q v H2) : te σ H Q := by
  have s1 : Same G (upd G l o) := same_new w.g
  have E : EnvOk (upd G l o) σ (ρ.set i (some (dicS f))) := (a.env.mono s1).put (a.own hi) ⟨l, kvs, rfl, ho.rd upd_same, df.mono s1⟩
  refine h _ H σ Q E (same_in a.s w.h) trivial fun v G2 H2 t _ p => ?_
  have e : G2 l = some o := t.g _ _ upd_same
  refine k v _ H2 (t.less w a.s) (p.without (fun xs z => ?_) fun xs z => ?_)
  · rw [e] at z
    rcases ho with rfl | ⟨od, rfl⟩ <;> cases z
  · rw [e] at z
    rcases ho with rfl | ⟨od, rfl⟩ <;> cases z
theorem At.viewD {l : Addr} {kvs : List (TKey × V)} {f : DFn} {i : Nat} {d : PyData} (a : At A0 G0 H0 G H σ ρ) (w : Own G H l (.dT kvs)) (hi : ρ[i]? = some (some (isV (.ref l)))) (df : DF G kvs f) (h : XE A0 te (ρ.set i (some (dicS f))) (dat d)) {Q : VK}
    (k : ∀ v G2 H2, Stp A0 G H G2 H2 → Rp G2 v d → Q v H2) : te σ H Q := a.viewO (.inl rfl) w hi df h k
/-- a test over an owned dict -/
theorem At.viewDT {l : Addr} {kvs : List (TKey × V)} {f : DFn} {i : Nat} {b : Bool} {o : HO} (ho : IsDT kvs o) (a : At A0 G0 H0 G H σ ρ) (w : Own G H l o) (hi : ρ[i]? = some (some (isV (.ref l)))) (df : DF G kvs f) (h : XT A0 tt (ρ.set i (some (dicS f))) b) {Q : Bool → Hp → Prop}
    (k : ∀ H2, Stp A0 G H G H2 → Q b H2) : tt σ H Q := by
  have s1 : Same G (upd G l o) := same_new w.g
  have E : EnvOk (upd G l o) σ (ρ.set i (some (dicS f))) := (a.env.mono s1).put (a.own hi) ⟨l, kvs, rfl, ho.rd upd_same, df.mono s1⟩
  exact h _ H σ Q E (same_in a.s w.h) trivial fun G2 H2 t _ => k H2 (Stp.only a.s t.same)
/-- an if over an owned dict, not taken -/
theorem q_noD {l : Addr} {kvs : List (TKey × V)} {f : DFn} {i : Nat} {o : HO} (ho : IsDT kvs o) (a : At A0 G0 H0 G H σ ρ) (w : Own G H l o) (hi : ρ[i]? = some (some (isV (.ref l)))) (df : DF G kvs f) (h : XT A0 tt (ρ.set i (some (dicS f))) false)
    (k : ∀ H2, Stp A0 G H G H2 → At A0 G0 H0 G H2 σ ρ → tz D σ H2) : tSeq (tIfS tt t tNext) tz D σ H :=
  a.viewDT ho w hi df h fun H2 s => by
    rw [if_neg Bool.false_ne_true]
    exact k H2 s (a.step0 s)
theorem s_noD {l : Addr} {kvs : List (TKey × V)} {f : DFn} {i : Nat} {o : HO} (ho : IsDT kvs o) (a : At A0 G0 H0 G H σ ρ) (w : Own G H l o) (hi : ρ[i]? = some (some (isV (.ref l)))) (df : DF G kvs f) (h : XT A0 tt (ρ.set i (some (dicS f))) false)
    (k : ∀ H2, Stp A0 G H G H2 → At A0 G0 H0 G H2 σ ρ → D.nx σ H2) : tIfS tt t tNext D σ H :=
  a.viewDT ho w hi df h fun H2 s => by
    rw [if_neg Bool.false_ne_true]
    exact k H2 s (a.step0 s)
/-- d[k] = e : an owned dict; the value may read it -/
theorem s_dput {l : Addr} {kvs : List (TKey × V)} {f : DFn} {i : Nat} {k : TKey} {d : PyData} (a : At A0 G0 H0 G H σ ρ) (w : Own G H l (.dT kvs)) (fr : H0 l = none) (hi : ρ[i]? = some (some (isV (.ref l)))) (df : DF G kvs f) (hz : kvs.length ≤ 100000)
    (h : XE A0 te (ρ.set i (some (dicS f))) (dat d)) (hk : XE A0 tb ρ (dat (tD k)))
    (c : ∀ G2 H2 kvs2, Stp A0 G H G2 H2 → kvs2.length ≤ kvs.length + 1 → DF G2 kvs2 (putF f k d) → At A0 G0 H0 G2 (upd H2 l (.dT kvs2)) σ ρ → Own G2 (upd H2 l (.dT kvs2)) l (.dT kvs2) → D.nx σ (upd H2 l (.dT kvs2))) :
    sDPut (tVar i) tb te D σ H :=
  a.viewD w hi df h fun v G1 H1 t1 p1 => by
    have a1 := a.step0 t1
    refine ⟨_, a1.own hi, ?_⟩
    refine a1.e hk fun y G2 H2 t2 a2 p2 => ?_
    have w2 := (w.step0 t1).step0 t2
    obtain ⟨b, rfl, hb⟩ := rp_tkey p2
    refine ⟨l, _, rfl, .t w2.h (a2.s _ _ hb) (Nat.lt_of_le_of_lt hz (by decide)), ?_⟩
    obtain ⟨a3, w3⟩ := a2.mut (o' := .dT (L2.putK kvs k v)) w2 fr nb0
    exact c G2 H2 _ (t1.trans t2) (length_putK kvs k v) ((df.mono (t1.trans t2).g).put (p1.mono t2.g)) a3 w3
theorem q_dput {l : Addr} {kvs : List (TKey × V)} {f : DFn} {i : Nat} {k : TKey} {d : PyData} (a : At A0 G0 H0 G H σ ρ) (w : Own G H l (.dT kvs)) (fr : H0 l = none) (hi : ρ[i]? = some (some (isV (.ref l)))) (df : DF G kvs f) (hz : kvs.length ≤ 100000)
    (h : XE A0 te (ρ.set i (some (dicS f))) (dat d)) (hk : XE A0 tb ρ (dat (tD k)))
    (c : ∀ G2 H2 kvs2, Stp A0 G H G2 H2 → kvs2.length ≤ kvs.length + 1 → DF G2 kvs2 (putF f k d) → At A0 G0 H0 G2 (upd H2 l (.dT kvs2)) σ ρ → Own G2 (upd H2 l (.dT kvs2)) l (.dT kvs2) → tz D σ (upd H2 l (.dT kvs2))) :
    tSeq (sDPut (tVar i) tb te) tz D σ H := s_dput (D := { D with nx := tz D }) a w fr hi df hz h hk c
/-- {} : a new owned dict -/
theorem q_dnew {i : Nat} (a : At A G0 H0 G H σ ρ) (k : ∀ l H2, H l = none → H0 l = none → Own G H2 l (.dT []) → Stp A0 G H G H2 → At A G0 H0 G H2 (σ.set i (some (.ref l))) (ρ.set i (some (isV (.ref l)))) → tz D (σ.set i (some (.ref l))) H2) : tSeq (tAsg tDNewT (gName i)) tz D σ H := fun l hl => by
  obtain ⟨a2, w, f⟩ := a.fresh (o := .dT []) hl
  exact k l _ hl f w (Stp.only a.s (same_new hl)) (a2.re (a2.env.set i rfl))
/-! ### locks -/
theorem At.lock {l : Addr} {o : HO} {od : Obj} (a : At A0 G0 H0 G H σ ρ) (w : Own G H l o) : At A0 G (upd H l (.frz od o)) G (upd H l (.frz od o)) σ ρ ∧ Own G (upd H l (.frz od o)) l (.frz od o) :=
  ⟨⟨a.env, Stp.refl (same_mut a.s w.g), trivial⟩, upd_same, w.g⟩
/-- behind a lock -/
theorem Stp.unlock {G2 H2 : Hp} {l : Addr} {o : HO} {od : Obj} (s : Same G H) (w : Own G H l o) (t : Stp A0 G (upd H l (.frz od o)) G2 H2) : Stp A0 G H G2 (upd H2 l o) ∧ Own G2 (upd H2 l o) l o := by
  have w1 : Own G (upd H l (.frz od o)) l (.frz od o) := ⟨upd_same, w.g⟩
  have w2 := w1.step0 t
  refine ⟨⟨fun b u e nb => ?_, t.g, same_mut t.s w2.g, fun b u e => ?_, fun b e => ?_⟩, upd_same, w2.g⟩
  · by_cases q : b = l
    · subst q
      rw [upd_same]
      rw [w.h] at e
      exact e
    · rw [upd_ne q]
      exact t.h b u (by rw [upd_ne q]; exact e) nb
  · rcases t.n b u e with z | z
    · exact .inl z
    · by_cases q : b = l
      · subst q
        rw [upd_same] at z
        cases z
      · rw [upd_ne q] at z
        exact .inr z
  · by_cases q : b = l
    · subst q
      rw [upd_same] at e
      cases e
    · rw [upd_ne q] at e
      have := t.k b e
      rw [upd_ne q] at this
      exact this
end
end Ls
/-! Srt -/
set_option maxHeartbeats 4000000
/-! sorted of data. -/
namespace Ls
open PySem PySem.Spec PyProof.Rows L2 PySem.W
/-! ### the order -/
def sortD (ds : List PyData) : List PyData := ds.mergeSort (dataLe false id)
theorem le_trans_d (a b c : PyData) (h1 : dataLe false id a b = true) (h2 : dataLe false id b c = true) : dataLe false id a c = true := by
  rw [dataLe_eq] at *
  simp only [cond_false, id] at *
  rw [Bool.not_eq_true'] at *
  cases h : dataLt c a with
  | false => rfl
  | true =>
    rcases lex_negTrans _ (keyToks b) _ h with q | q
    · rw [show dataLt c b = true from q] at h2
      cases h2
    · rw [show dataLt b a = true from q] at h1
      cases h1
theorem le_total_d (a b : PyData) : (dataLe false id a b || dataLe false id b a) = true := by
  rw [dataLe_eq]
  simp only [cond_false, id]
  cases h : dataLt b a with
  | false => rfl
  | true =>
    cases h2 : dataLt a b with
    | false => rfl
    | true =>
      have q := lex_trans _ _ _ h h2
      rw [lex_irrefl] at q
      cases q
theorem sortD_perm (ds : List PyData) : (sortD ds).Perm ds := List.mergeSort_perm _ _
theorem sortD_mem {ds : List PyData} {d : PyData} : d ∈ sortD ds ↔ d ∈ ds := (sortD_perm ds).mem_iff
theorem sortD_len (ds : List PyData) : (sortD ds).length = ds.length := (sortD_perm ds).length_eq
theorem sortD_idem (ds : List PyData) : sortD (sortD ds) = sortD ds := List.mergeSort_of_pairwise (List.pairwise_mergeSort le_trans_d le_total_d ds)
/-- of the written ones -/
theorem sortD_map {α : Type} (e : α → PyData) (l : List α) : ∃ m : List α, m.Perm l ∧ sortD (l.map e) = m.map e := by
  refine ⟨l.mergeSort fun x y => dataLe false id (e x) (e y), List.mergeSort_perm _ _, ?_⟩
  exact (List.map_mergeSort (f := e) (r := fun x y => dataLe false id (e x) (e y)) (s := dataLe false id) fun a _ b _ => rfl).symm
/-! ### the rule -/
def rSortedD (K : PySem.W.Frag) : List V → Hp → VK → Prop := fun vs H Q => ∃ (a : Addr) (xs : List V) (ds : List PyData), vs = [.ref a] ∧ SqL K H a xs ∧ DpAll K H xs ds ∧ AllAlike ds ∧ Sortable ds ∧ (∀ d ∈ ds, d.depth ≤ 60) ∧
  ∀ (m : List (V × PyData)) p, (∀ z ∈ m, z ∈ xs.zip ds) → m.map Prod.snd = sortD ds → H p = none → Q (.ref p) (upd H p (.lst (m.map Prod.fst)))
theorem zip_snd {α β : Type} : ∀ {xs : List α} {ys : List β}, xs.length = ys.length → (xs.zip ys).map Prod.snd = ys
  | [], [], _ => rfl
  | [], _ :: _, h => by simp at h
  | _ :: _, [], h => by simp at h
  | x :: xs, y :: ys, h => by
    rw [List.zip_cons_cons, List.map_cons, zip_snd (by simpa using h)]
theorem dpAll_len {K : PySem.W.Frag} {H : Hp} : ∀ {vs : List V} {ds : List PyData}, DpAll K H vs ds → vs.length = ds.length
  | _, _, .nil => rfl
  | _, _, .cons _ r => by rw [List.length_cons, List.length_cons, dpAll_len r]
section
variable {X : Cx} {pins : List (Addr × Obj)} {σ : L2.St} {H : Hp} {s : Shared}
theorem each_two (I : Inv X pins σ H s) : ∀ {vs : List V} {us : List Value} {ds : List PyData}, Vals vs us → DpAll X.K H vs ds → EachIs (fun u (b : V × PyData) => RelV b.1 u) us (vs.zip ds) ∧ EachIs (fun u (b : V × PyData) => ∃ as, Reads s.heap u b.2 as) us (vs.zip ds)
  | _, _, _, .nil, .nil => ⟨.nil, .nil⟩
  | _, _, _, .cons h r, .cons d e => by
    obtain ⟨a, b⟩ := each_two I r e
    exact ⟨.cons h a, .cons (Dp.reads I _ _ _ d h) b⟩
theorem vals_each : ∀ {us : List Value} {m : List (V × PyData)}, EachIs (fun u (b : V × PyData) => RelV b.1 u) us m → Vals (m.map Prod.fst) us
  | _, _, .nil => .nil
  | _, _, .cons h r => .cons h (vals_each r)
theorem cr_sortedD (hu : X.A.units + 64 < cLine) : CallR X (.builtin "sorted") (rSortedD X.K) := by
  intro pins s σ H vs us Q I r h
  obtain ⟨a, xs, ds, rfl, hs, hd, ha, hk, hp, q⟩ := h
  obtain ⟨its, rv, hl, hz⟩ := I.list hs
  obtain rfl := Vals.ref1 r
  have hlen := dpAll_len hd
  have hzip : (xs.zip ds).map Prod.snd = ds := zip_snd hlen
  obtain ⟨e1, e2⟩ := each_two I rv hd
  have lz : (xs.zip ds).length = xs.length := by rw [List.length_zip]; omega
  refine sorted_data (enc := Prod.snd) hl.isList e1 e2 (by rw [hzip]; exact ha) (by rw [hzip]; exact hk) (by rw [lz]; exact hz) (fun b hb => ?_) fun out ho eo => ?_
  · have hm : b.2 ∈ ds := by
      rw [← hzip]
      exact List.mem_map.mpr ⟨b, hb, rfl⟩
    have := hp _ hm
    omega
  · obtain ⟨n, hn⟩ := sortedAll_at s.heap its out.toArray
    refine ⟨.ref (s.heap.objs.size + 1), _, I.laid (a := s.heap.objs.size + 1) (o := .lst (((xs.zip ds).mergeSort (dataLe false Prod.snd)).map Prod.fst)) (t' := s.toks) (fun b u e => sortedAll_old e) (Nat.le_succ _) ⟨?_, out, n, vals_each eo, hn⟩, rfl, q _ _ (fun z hz' => (List.mergeSort_perm _ _).mem_iff.mp hz') ?_ (I.hok.fresh (Nat.le_succ _))⟩
    · rw [List.length_map, List.length_mergeSort, lz]
      exact hz
    · have e := List.map_mergeSort (f := Prod.snd) (l := xs.zip ds) (r := dataLe false Prod.snd) (s := dataLe false id) fun a _ b _ => rfl
      rw [hzip] at e
      exact e
end
theorem cr_sortedDK {X : Cx} (K : PySem.W.Frag) {k : Nat} (hr : Room k X.A) (h : X.K = K := by rfl) : CallR X (.builtin "sorted") (rSortedD K) := by
  subst h
  exact cr_sortedD hr.units
theorem rp_zip {G : Hp} : ∀ {xs : List V} {ds : List PyData}, RpAll G xs ds → ∀ z ∈ xs.zip ds, Rp G z.1 z.2
  | _, _, .nil, z, h => by cases h
  | _, _, .cons p r, z, h => by
    rw [List.zip_cons_cons] at h
    rcases List.mem_cons.mp h with e | h
    · subst e
      exact p
    · exact rp_zip r z h
theorem rp_all_of {G : Hp} : ∀ {m : List (V × PyData)}, (∀ z ∈ m, Rp G z.1 z.2) → RpAll G (m.map Prod.fst) (m.map Prod.snd)
  | [], _ => .nil
  | z :: r, h => .cons (h z List.mem_cons_self) (rp_all_of fun y hy => h y (List.mem_cons_of_mem _ hy))
theorem xc_sorted {A : Amb} {K : PySem.W.Frag} {ds : List PyData} (ha : AllAlike ds) (hk : Sortable ds) (hp : ∀ d ∈ ds, d.depth ≤ 60) : XC A (rSortedD K) [dat (.list ds)] (dat (.list (sortD ds))) := fun G H vs Q s j hv k => by
  obtain ⟨v, rfl, p⟩ := ps_one hv
  obtain ⟨a, xs, rfl, ga, r⟩ := Rp.list_inv p
  refine ⟨a, xs, ds, rfl, SqL.of (s _ _ ga), (r.mono s).dp, ha, hk, hp, fun m l hm hs hl => ?_⟩
  have t := Stp.new (o := .lst (m.map Prod.fst)) s hl
  have ra := rp_all_of fun z hz => rp_zip r z (hm z hz)
  rw [hs] at ra
  exact k _ _ _ t.up (t.j j) (.lst upd_same (ra.mono t.g))
end Ls
/-! Enc -/
set_option maxHeartbeats 4000000
/-! Data by types. -/
namespace Ls
open PySem PySem.Spec PyProof.Rows L2
/-- e writes the α's that P holds of as data that == tells apart -/
structure Nice {α : Type} [DecidableEq α] (P : α → Prop) (e : α → PyData) (n : Nat) : Prop where
  lay : ∀ a, P a → (e a).canLay0 = true
  dep : ∀ a, P a → (e a).depth ≤ n
  eqv : ∀ a b, P a → P b → PyData.eqv (e a) (e b) = decide (a = b)
theorem Nice.shaped {α : Type} [DecidableEq α] {P : α → Prop} {e : α → PyData} {n : Nat} (N : Nice P e n) (hn : n ≤ 64) {a : α} (h : P a) : SeqAt.shaped (e a) = true := by
  unfold SeqAt.shaped
  rw [N.lay a h, Bool.true_and]
  exact decide_eq_true (Nat.le_trans (N.dep a h) hn)
theorem Nice.weak {α : Type} [DecidableEq α] {P Q : α → Prop} {e : α → PyData} {n : Nat} (N : Nice P e n) (h : ∀ a, Q a → P a) : Nice Q e n :=
  ⟨fun a q => N.lay a (h a q), fun a q => N.dep a (h a q), fun a b q r => N.eqv a b (h a q) (h b r)⟩
theorem beq_dec {α : Type} [DecidableEq α] [BEq α] [LawfulBEq α] (a b : α) : (a == b) = decide (a = b) := by
  by_cases h : a = b
  · rw [h]
    simp
  · rw [decide_eq_false h]
    exact beq_eq_false_iff_ne.mpr h
theorem nice_int : Nice (fun _ : Int => True) .int 0 := ⟨fun _ _ => rfl, fun _ _ => Nat.le_refl _, fun a b _ _ => by
  show (a == b) = _
  exact beq_dec a b⟩
theorem nice_nat : Nice (fun _ : Nat => True) (fun n => .int (n : Int)) 0 := ⟨fun _ _ => rfl, fun _ _ => Nat.le_refl _, fun a b _ _ => by
  show ((a : Int) == (b : Int)) = _
  rw [beq_dec]
  by_cases h : a = b
  · rw [h]
    simp
  · rw [decide_eq_false h, decide_eq_false fun z => h (by omega)]⟩
theorem nice_bool : Nice (fun _ : Bool => True) .bool 0 := ⟨fun _ _ => rfl, fun _ _ => Nat.le_refl _, fun a b _ _ => by
  show (a == b) = _
  exact beq_dec a b⟩
theorem nice_str : Nice (fun x : Str => PyData.canLay0 (.str x) = true) .str 0 := ⟨fun _ h => h, fun _ _ => Nat.le_refl _, fun a b _ _ => by
  show (a == b) = _
  exact beq_dec a b⟩
section
variable {α β γ : Type} [DecidableEq α] [DecidableEq β] [DecidableEq γ] {P : α → Prop} {Q : β → Prop} {R : γ → Prop} {e : α → PyData} {e2 : β → PyData} {e3 : γ → PyData} {n m k : Nat}
theorem Nice.all_lay (N : Nice P e n) : ∀ l : List α, (∀ x ∈ l, P x) → PyData.canLayAll0 (l.map e) = true
  | [], _ => rfl
  | x :: r, h => by
    show (PyData.canLay0 (e x) && PyData.canLayAll0 (r.map e)) = true
    rw [N.lay x (h x List.mem_cons_self), N.all_lay r fun y hy => h y (List.mem_cons_of_mem _ hy)]
    rfl
theorem Nice.all_dep (N : Nice P e n) : ∀ l : List α, (∀ x ∈ l, P x) → PyData.depthAll (l.map e) ≤ n
  | [], _ => Nat.zero_le _
  | x :: r, h => by
    show max (PyData.depth (e x)) (PyData.depthAll (r.map e)) ≤ n
    exact Nat.max_le.mpr ⟨N.dep x (h x List.mem_cons_self), N.all_dep r fun y hy => h y (List.mem_cons_of_mem _ hy)⟩
theorem Nice.all_eqv (N : Nice P e n) : ∀ l l' : List α, (∀ x ∈ l, P x) → (∀ x ∈ l', P x) → PyData.eqvAll (l.map e) (l'.map e) = decide (l = l')
  | [], [], _, _ => rfl
  | [], y :: r, _, _ => by
    show false = _
    exact (decide_eq_false (by simp)).symm
  | x :: r, [], _, _ => by
    show false = _
    exact (decide_eq_false (by simp)).symm
  | x :: r, y :: r', h, h' => by
    show (PyData.eqv (e x) (e y) && PyData.eqvAll (r.map e) (r'.map e)) = _
    rw [N.eqv x y (h x List.mem_cons_self) (h' y List.mem_cons_self), N.all_eqv r r' (fun y hy => h y (List.mem_cons_of_mem _ hy)) fun y hy => h' y (List.mem_cons_of_mem _ hy)]
    by_cases h1 : x = y
    · by_cases h2 : r = r'
      · rw [h1, h2]
        simp
      · simp [h1, h2]
    · simp [h1]
theorem Nice.list (N : Nice P e n) : Nice (fun l : List α => ∀ x ∈ l, P x) (fun l => .list (l.map e)) (n + 1) :=
  ⟨fun l h => N.all_lay l h, fun l h => Nat.succ_le_succ (N.all_dep l h), fun l l' h h' => N.all_eqv l l' h h'⟩
theorem nice_tup2 (N : Nice P e n) (M : Nice Q e2 m) : Nice (fun p : α × β => P p.1 ∧ Q p.2) (fun p => .tuple [e p.1, e2 p.2]) (max n m + 1) := by
  refine ⟨fun p h => ?_, fun p h => ?_, fun p q h h' => ?_⟩
  · show (PyData.canLay0 (e p.1) && (PyData.canLay0 (e2 p.2) && true)) = true
    rw [N.lay _ h.1, M.lay _ h.2]
    rfl
  · show max (PyData.depth (e p.1)) (max (PyData.depth (e2 p.2)) 0) + 1 ≤ _
    have := N.dep _ h.1
    have := M.dep _ h.2
    omega
  · show (PyData.eqv (e p.1) (e q.1) && (PyData.eqv (e2 p.2) (e2 q.2) && true)) = _
    rw [N.eqv _ _ h.1 h'.1, M.eqv _ _ h.2 h'.2]
    obtain ⟨a, b⟩ := p
    obtain ⟨c, d⟩ := q
    by_cases h1 : a = c
    · by_cases h2 : b = d
      · simp [h1, h2]
      · simp [h1, h2]
    · simp [h1]
theorem nice_tup3 (N : Nice P e n) (M : Nice Q e2 m) (O : Nice R e3 k) : Nice (fun p : α × β × γ => P p.1 ∧ Q p.2.1 ∧ R p.2.2) (fun p => .tuple [e p.1, e2 p.2.1, e3 p.2.2]) (max n (max m k) + 1) := by
  refine ⟨fun p h => ?_, fun p h => ?_, fun p q h h' => ?_⟩
  · show (PyData.canLay0 (e p.1) && (PyData.canLay0 (e2 p.2.1) && (PyData.canLay0 (e3 p.2.2) && true))) = true
    rw [N.lay _ h.1, M.lay _ h.2.1, O.lay _ h.2.2]
    rfl
  · show max (PyData.depth (e p.1)) (max (PyData.depth (e2 p.2.1)) (max (PyData.depth (e3 p.2.2)) 0)) + 1 ≤ _
    have := N.dep _ h.1
    have := M.dep _ h.2.1
    have := O.dep _ h.2.2
    omega
  · show (PyData.eqv (e p.1) (e q.1) && (PyData.eqv (e2 p.2.1) (e2 q.2.1) && (PyData.eqv (e3 p.2.2) (e3 q.2.2) && true))) = _
    rw [N.eqv _ _ h.1 h'.1, M.eqv _ _ h.2.1 h'.2.1, O.eqv _ _ h.2.2 h'.2.2]
    obtain ⟨a, b, c⟩ := p
    obtain ⟨a', b', c'⟩ := q
    by_cases h1 : a = a'
    · by_cases h2 : b = b'
      · by_cases h3 : c = c'
        · simp [h1, h2, h3]
        · simp [h1, h2, h3]
      · simp [h1, h2]
    · simp [h1]
/-- nothing, or an e that is a tuple -/
def eOpt (e : α → PyData) : Option α → PyData
  | none => .none
  | some a => e a
theorem nice_opt (N : Nice P e n) (ht : ∀ a, ∃ ds, e a = .tuple ds) : Nice (fun o : Option α => ∀ a, o = some a → P a) (eOpt e) n := by
  refine ⟨fun o h => ?_, fun o h => ?_, fun o o' h h' => ?_⟩
  · cases o with
    | none => rfl
    | some a => exact N.lay a (h a rfl)
  · cases o with
    | none => exact Nat.zero_le _
    | some a => exact N.dep a (h a rfl)
  · cases o with
    | none =>
      cases o' with
      | none => rfl
      | some b =>
        obtain ⟨ds, e1⟩ := ht b
        show PyData.eqv .none (e b) = _
        rw [e1]
        exact (decide_eq_false (by simp)).symm
    | some a =>
      cases o' with
      | none =>
        obtain ⟨ds, e1⟩ := ht a
        show PyData.eqv (e a) .none = _
        rw [e1]
        exact (decide_eq_false (by simp)).symm
      | some b =>
        show PyData.eqv (e a) (e b) = _
        rw [N.eqv a b (h a rfl) (h' b rfl)]
        by_cases h1 : a = b
        · simp [h1]
        · simp [h1]
end
/-! ### the games' data -/
def eBs (l : List Bool) : PyData := .list (l.map .bool)
def eQ (q : Nat × Nat) : PyData := .tuple [.int (q.1 : Int), .int (q.2 : Int)]
def eCh (ch : List (Nat × Nat)) : PyData := .list (ch.map eQ)
def eRow (r : List (List (Nat × Nat))) : PyData := .list (r.map eCh)
def eG (g : Game) : PyData := .list (g.map eRow)
def eF (f : Fnd) : PyData := .list (f.map (eOpt eQ))
theorem nice_bools : Nice (fun _ : List Bool => True) eBs 1 := (nice_bool.list).weak fun _ _ _ _ => trivial
theorem nice_q : Nice (fun _ : Nat × Nat => True) eQ 1 := (nice_tup2 nice_nat nice_nat).weak fun _ _ => ⟨trivial, trivial⟩
theorem nice_fnd : Nice (fun _ : Fnd => True) eF 2 := (nice_opt nice_q fun a => ⟨_, rfl⟩).list.weak fun _ _ _ _ _ _ => trivial
/-- sizes -/
def GSm (g : Game) : Prop := g.length ≤ 1000 ∧ ∀ r ∈ g, r.length ≤ 1000 ∧ ∀ ch ∈ r, ch.length ≤ 1000
end Ls
/-! F1 -/
set_option maxHeartbeats 4000000
namespace Ls
open PySem PySem.Spec PyProof.Rows L2
section
variable {P : Program} {w : World} {K : PySem.W.Frag} {mg : Str → Option Value} {base : Heap}
theorem ps_len {G : Hp} {vs : List V} {φs : List SP} (h : Ps G vs φs) : vs.length = φs.length := Paired.length h
theorem spA_len {A : Amb} {pre : List SP} {post : SP} {vs : List V} {H : Hp} {Q : VK} {E : XK} (h : spA A pre post vs H Q E) : vs.length = pre.length := by
  obtain ⟨G, _, _, p, _⟩ := h
  exact ps_len p
def sp_is_number : Sp := fun vs H Q E => ∃ v lo hi : Int, spA A0 [dat (.int v), dat (.int lo), dat (.int hi)] (dat (.bool (decide (lo ≤ v) && decide (v ≤ hi)))) vs H Q E
theorem sc_is_number : FnScope ["value", "least", "most"] ["value", "least", "most"] (defScope s_is_number) := ⟨rfl, rfl, rfl, by decide +kernel, rfl, by decide +kernel, by decide +kernel⟩
theorem ok_is_number {f : Addr} {fd : FuncData} (F : FnP K "is_number" "is_number" s_is_number [] [] f fd) (T : Fx K mg) : FnOk P w K mg base CX0 1 f fd ["value", "least", "most"] sp_is_number := by
  refine F.ok sc_is_number (fun vs H Q E h => ?_) (fun cdv A outer s H vs Q E hr h => ?_)
  · obtain ⟨_, _, _, h⟩ := h
    exact spA_len h
  · obtain ⟨v, lo, hi, G, sG, _, ps, k⟩ := h
    obtain ⟨v1, v2, v3, rfl, p1, p2, p3⟩ := ps_three ps
    refine ⟨_, PSs.nox (pss_one (ps_ret (pe_and (pe_callB call_isi (by rfl) T.b_isinstance bt_isinstance (pa_cons (pv 0) (pa_cons (pe_bty "int" (by rfl) T.b_int bt_int) pa_nil))) (pe_and (pe_not (pe_callB call_isi (by rfl) T.b_isinstance bt_isinstance (pa_cons (pv 0) (pa_cons (pe_bty "bool" (by rfl) T.b_bool bt_bool) pa_nil)))) (pe_one (pe_chain op_le op_le (pv 1) (pv 0) (pv 2))))))), ?_⟩
    have a : At A0 G H G H _ [some (dat (.int v)), some (dat (.int lo)), some (dat (.int hi))] := At.begin (vs := [v1, v2, v3]) (N := ["value", "least", "most"]) (((EnvOk.nil.cons p3).cons p2).cons p1) sG trivial
    refine s_ret a (xe_and (a := true) (xe_cb (xa_cons (xe_var rfl) (xa_cons xe_cv xa_nil)) (xc_isi (by simp) kit_same)) fun _ =>
      xe_and (xe_not (a := false) (xe_cb (xa_cons (xe_var rfl) (xa_cons xe_cv xa_nil)) (xc_isi (by simp) kit_int_bool))) fun _ =>
      xe_chain (xe_var rfl) (xe_var rfl) xr_le (fun _ => xe_var rfl) (fun _ => xr_le)) fun v G2 H2 st _ p => ?_
    exact k v G2 H2 st trivial p
end
end Ls
/-! F2 -/
set_option maxHeartbeats 4000000
namespace Ls
open PySem PySem.Spec PyProof.Rows L2
section
variable {P : Program} {w : World} {K : PySem.W.Frag} {mg : Str → Option Value} {base : Heap}
theorem eBs_get {l : List Bool} {i : Nat} (h : i < l.length) : (l.map PyData.bool)[i]? = some (.bool (bat l i)) := by
  apply map_get
  unfold bat
  rw [List.getD_eq_getElem?_getD, List.getElem?_eq_getElem h]
  rfl
theorem eRow_get {g : Game} {i : Nat} (h : i < g.length) : (g.map eRow)[i]? = some (eRow (row g i)) := by
  apply map_get
  unfold row
  rw [List.getD_eq_getElem?_getD, List.getElem?_eq_getElem h]
  rfl
theorem pick_tab {l s r : List Bool} {c : Nat} (h : c ≤ 1) : ([eBs l, eBs s, eBs r] : List PyData)[c]? = some (eBs (if c = 0 then l else if c = 1 then s else r)) := by
  match c, h with
  | 0, _ => rfl
  | 1, _ => rfl
theorem range_get {n i x : Nat} (h : (List.range n)[i]? = some x) : i < n ∧ x = i := by
  obtain ⟨h1, h2⟩ := List.getElem?_eq_some_iff.mp h
  rw [List.length_range] at h1
  rw [List.getElem_range] at h2
  exact ⟨h1, h2.symm⟩
theorem take_map_next {α β : Type} {f : α → β} {l : List α} {i : Nat} {x : α} (h : l[i]? = some x) : (l.take (i + 1)).map f = (l.take i).map f ++ [f x] := by
  rw [List.take_add_one, h, List.map_append]
  rfl
def sp_calm : Sp := fun vs H Q E => ∃ (g : Game) (r s : List Bool), GOk g ∧ GSm g ∧ r.length = g.length ∧ s.length = g.length ∧ spA A0 [dat (eG g), dat (eBs r), dat (eBs s)] (dat (eBs (calmF g s))) vs H Q E
abbrev N_calm : List Str := ["options", "resets", "slips", "lot", "lots", "late", "at", "good", "replies", "target", "color"]
theorem sc_calm_positions : FnScope N_calm ["options", "resets", "slips"] (defScope s_calm_positions) := ⟨rfl, rfl, rfl, by decide +kernel, rfl, by decide +kernel, by decide +kernel⟩
theorem ok_calm {f : Addr} {fd : FuncData} (F : FnP K "calm_positions" "calm_positions" s_calm_positions [] [] f fd) (T : Fx K mg) : FnOk P w K mg base CX0 1 f fd ["options", "resets", "slips"] sp_calm := by
  refine F.ok sc_calm_positions (fun vs H Q E h => ?_) (fun cdv A outer s H vs Q E hr h => ?_)
  · obtain ⟨_, _, _, _, _, _, _, h⟩ := h
    exact spA_len h
  · obtain ⟨g, r, s, GO, GS, hr', hs', G, sG, _, ps, k⟩ := h
    obtain ⟨v1, v2, v3, rfl, p1, p2, p3⟩ := ps_three ps
    refine ⟨_, PSs.nox (pss_cons (ps_set (i := 3) sc_calm_positions.nd rfl (Or.inl rfl) (pe_op op_rep (pe_lst (pa_cons pe_bl pa_nil)) (pe_callB (call_lenK K) (by rfl) T.b_len PySem.boot_len (pa_cons (pv 0) pa_nil))))
  (pss_one (ps_while PassesOwn.never (pt_val pe_bl) (pss_cons (ps_set (i := 4) sc_calm_positions.nd rfl (Or.inr rfl) (pe_tup (pa_cons (pv 3) (pa_cons (pv 2) (pa_cons (pv 1) pa_nil)))))
  (pss_cons (ps_set (i := 5) sc_calm_positions.nd rfl (Or.inl rfl) (pe_lst pa_nil))
  (pss_cons (ps_for PassesOwn.never (by rfl) (pi_range1 (by rfl) T.b_range (pa_cons (pe_callB (call_lenK K) (by rfl) T.b_len PySem.boot_len (pa_cons (pv 0) pa_nil)) pa_nil)) (pg_name (i := 6) sc_calm_positions.nd rfl (Or.inl rfl)) (pss_cons (ps_setLc (i := 7) (own := [("replies", 8)]) (by rfl) sc_calm_positions.nd rfl rfl (sw_true rfl rfl rfl (by decide +kernel)) (pi_listK K (pe_ix (ix_listK K) (pv 0) (pv 6) (fun _ _ => rfl))) (blkOk_by (by kernel_rfl)) (fun _ _ _ _ _ => (pg_name (i := 8) sc_calm_positions.nd rfl (Or.inl rfl))) (fun _ _ _ _ _ => pts_nil) (fun _ _ _ _ _ => (pe_callB (cr_anyK K rfl) (by rfl) T.b_any bt_any (pa_cons (pe_lc (own := [("target", 9), ("color", 10)]) (by rfl) sc_calm_positions.nd (pi_listK K (pv 8)) (blkOk_by (by kernel_rfl)) (fun _ _ _ _ _ => (pg_tupK K (n := 2) (by rfl) (pgs_cons (pg_name (i := 9) sc_calm_positions.nd rfl (Or.inl rfl)) (pgs_cons (pg_name (i := 10) sc_calm_positions.nd rfl (Or.inl rfl)) pgs_nil)))) (fun _ _ _ _ _ => pts_nil) (fun _ _ _ _ _ => (pe_ix (ix_listK K) (pe_ix (ix_tupK K) (pv 4) (pv 10) (fun _ _ => rfl)) (pv 9) (fun _ _ => rfl)))) pa_nil))))
  (pss_one (ps_expr (pe_bm PySem.F.plainAttrs_list PySem.F.slot_list_append PySem.F.type_list_append mt_append (pv 5) (pa_cons (pe_and (pe_ix (ix_listK K) (pv 3) (pv 6) (fun _ _ => rfl)) (pe_one (pe_callB (cr_allK K rfl) (by rfl) T.b_all bt_all (pa_cons (pv 7) pa_nil)))) pa_nil))))))
  (pss_cons (ps_if (pt_cmpR (op_eqDK K hr.units) (pv 5) (pv 3) (nomark _)) (pss_one (ps_ret (pv 3))) pss_nil)
  (pss_one (ps_set (i := 3) sc_calm_positions.nd rfl (Or.inl rfl) (pv 5)))))))))), ?_⟩
    have a : At A0 G H G H _ [some (dat (eG g)), some (dat (eBs r)), some (dat (eBs s)), none, none, none, none, none, none, none, none] := At.begin (vs := [v1, v2, v3]) (N := N_calm) (((EnvOk.nil.skip.skip.skip.skip.skip.skip.skip.skip.cons p3).cons p2).cons p1) sG trivial
    have hn : g.length ≤ 100000 := Nat.le_trans GS.1 (by decide)
    -- lot = [True] * len(options)
    refine q_asg a ((xe_op (xe_lst1 xe_bl) (xe_cb (xa_cons (xe_var rfl) xa_nil) xc_lenL) (xr_rep (by rw [List.length_map]; exact hn))).to (d' := eBs (List.replicate g.length true)) (by simp [eBs])) fun v G1 H1 st p a1 => ?_
    -- while True
    refine s_while (fun m G' H' σ' => ∃ l, CInv g s l ∧ m = cnt l ∧ At A0 G H G' H' σ' [some (dat (eG g)), some (dat (eBs r)), some (dat (eBs s)), some (dat (eBs l)), none, none, none, none, none, none, none]) _ ⟨_, CInv.start g s, rfl, a1⟩ ?_
    rintro m G2 H2 σ2 ⟨l, I, rfl, a2⟩
    refine ⟨true, fun Q' q => ⟨true, rfl, q G2 H2 (Stp.refl a2.s)⟩, fun _ G3 H3 st3 => ?_, fun e => by cases e⟩
    have a3 := a2.step0 st3
    -- lots = (lot, slips, resets)
    refine q_asg a3 (xe_tup3 (xe_var rfl) (xe_var rfl) (xe_var rfl)) fun v4 G4 H4 st4 p4 a4 => ?_
    -- late = []
    refine q_new a4 fun L H5 _ fL w5 st5 a5 => ?_
    -- for at in range(len(options))
    refine q_for (l := List.range g.length) a5 (xi_rangeT (xa_cons ((xe_cb (xa_cons (xe_var rfl) xa_nil) xc_lenL).to (by rw [List.length_map])) xa_nil) hn)
      (fun i G' H' σ' => At A0 G H G' H' σ' [some (dat (eG g)), some (dat (eBs r)), some (dat (eBs s)), some (dat (eBs l)), some (dat (.tuple [eBs l, eBs s, eBs r])), some (isV (.ref L)), none, none, none, none, none] ∧ ∃ xs, Own G' H' L (.lst xs) ∧ RpAll G' xs (((calmStep g r s l).take i).map .bool))
      (fun i G1 H1 σ1 h => h.1.s) (fun G6 H6 st6 => ⟨a5.step0 st6, [], w5.step0 st6, .nil⟩) ?_ ?_
    · rintro i x G6 H6 σ6 hx ⟨a6, xs, w6, r6⟩ v7 G7 H7 st7 p7
      obtain ⟨hi, rfl⟩ := range_get hx
      have a7 := (a6.step0 st7).re ((a6.step0 st7).env.set 6 p7)
      -- good
      have hcl : (row g x).length ≤ 1000 ∧ ∀ ch ∈ row g x, ch.length ≤ 1000 := GS.2 _ (row_mem hi)
      have hsl : ∀ c : Nat, c ≤ 1 → (if c = 0 then l else if c = 1 then s else r).length = g.length := fun c hc => by
        match c, hc with
        | 0, _ => exact I.len
        | 1, _ => exact hs'
      refine q_asg (φ := dat (eBs ((row g x).map fun ch => ch.any (pickB l s r)))) a7 ?_ fun v8 G8 H8 st8 p8 a8 => ?_
      · refine (xe_lcAll (l := row g x) (ψ := fun ch => dat (eCh ch)) (E := fun ch => .bool (ch.any (pickB l s r))) (js := [8]) (xi_listT (xe_op (xe_var rfl) (xe_var rfl) (xr_ixLn (eRow_get hi)))) (by omega) (fun j hj => hj) fun ch hc => ⟨xg_name (by simp), ?_⟩).to (by simp [eBs])
        refine (xe_cb (xa_cons ((xe_lcAll (l := ch) (ψ := fun q => dat (eQ q)) (E := fun q => .bool (pickB l s r q)) (js := [9, 10]) (xi_listT (xe_var rfl)) (by have := hcl.2 ch hc; omega) (fun j hj => hj) fun q hq => ⟨xg_tup2 (by simp) (by simp), ?_⟩).to (d' := eBs (ch.map (pickB l s r))) (by simp [eBs])) xa_nil) xc_any).to (by simp)
        have hq2 := GO.at_ hi hc hq
        exact xe_op (xe_op (xe_var rfl) (xe_var rfl) (xr_ixTn (pick_tab hq2.2))) (xe_var rfl) (xr_ixLn (eBs_get (by rw [hsl _ hq2.2]; exact hq2.1)))
      · refine s_app a8 ((w6.step0 st7).step0 st8) fL nb0 rfl ?_ (xe_and (xe_op (xe_var rfl) (xe_var rfl) (xr_ixLn (eBs_get (i := x) (by rw [I.len]; exact hi)))) fun _ => xe_cb (xa_cons (xe_var rfl) xa_nil) xc_all) fun v9 G9 H9 st9 p9 a9 w9 => ?_
        · rw [r6.length, List.length_map, List.length_take]
          exact Nat.le_trans (Nat.min_le_left _ _) (by omega)
        · refine ⟨G9, (st7.g.trans st8.g).trans st9.g, a9.sub (by repeat' constructor), _, w9, ?_⟩
          have ei : (calmStep g r s l)[x]? = some (bat l x && (row g x).all fun ch => ch.any (pickB l s r)) := by
            unfold calmStep
            rw [List.getElem?_map, List.getElem?_range hi]
            rfl
          rw [take_map_next ei]
          refine (((r6.mono st7.g).mono st8.g).mono st9.g).append (.cons ?_ .nil)
          have e2 : (((row g x).map fun ch => ch.any (pickB l s r)).all id) = (row g x).all fun ch => ch.any (pickB l s r) := by
            rw [List.all_map]
            rfl
          rw [← e2]
          exact p9
    · rintro G6 H6 σ6 ⟨a6, xs, w6, r6⟩
      have hlen : (List.range g.length).length = (calmStep g r s l).length := by rw [List.length_range, calmStep_len]
      rw [hlen, List.take_length] at r6
      obtain ⟨a7, sG7⟩ := a6.seal w6 fL nb0
      have p7 : Rp (upd G6 L (.lst xs)) (.ref L) (eBs (calmStep g r s l)) := .lst upd_same (r6.mono sG7)
      have a8 := a7.re (a7.env.put (j := 5) (a7.own (i := 5) rfl) (φ := dat (eBs (calmStep g r s l))) p7)
      -- if late == lot
      refine q_if a8 (xt_test (xe_op (xe_var rfl) (xe_var rfl) (xr_eqD (nice_bools.shaped (by decide) trivial) (nice_bools.shaped (by decide) trivial)))) (fun e G9 H9 st9 a9 => ?_) (fun e G9 H9 st9 a9 => ?_)
      · rw [nice_bools.eqv _ _ trivial trivial] at e
        have e2 := I.fix GO (of_decide_eq_true e)
        refine s_ret a9 (xe_var rfl) fun v G10 H10 st10 _ p10 => ?_
        rw [e2] at p10
        exact k v G10 H10 st10 trivial p10
      · rw [nice_bools.eqv _ _ trivial trivial] at e
        have ne : calmStep g r s l ≠ l := of_decide_eq_false e
        refine s_asg a9 (xe_var rfl) fun v G10 H10 st10 p10 a10 => ?_
        exact ⟨_, G10, calm_falls I.len ne, _, I.next GO, rfl, a10.sub (by repeat' constructor)⟩
end
end Ls
/-! F3 -/
set_option maxHeartbeats 4000000
namespace Ls
open PySem PySem.Spec PyProof.Rows L2
section
variable {P : Program} {w : World} {K : PySem.W.Frag} {mg : Str → Option Value} {base : Heap}
def eO (o : Option Nat) : PyData := match o with | none => .none | some k => .int (k : Int)
def eRk (l : List (Option Nat)) : PyData := .list (l.map eO)
theorem eRk_get {l : List (Option Nat)} {i : Nat} (h : i < l.length) : (l.map eO)[i]? = some (eO (oat l i)) := map_get (oat_get h)
theorem none_eO {G : Hp} {v : V} {o : Option Nat} (h : Rp G v (eO o)) : decide (v = V.non) = o.isNone := by
  cases o with
  | none =>
    cases h
    rfl
  | some k =>
    cases h
    rfl
def sp_first_ranks : Sp := fun vs H Q E => ∃ (g : Game), GOk g ∧ GSm g ∧ spA A0 [dat (eG g)] (ex (fun k => lotsF g (k + 1) = lotsF g k) fun k => dat (eRk (ranksF g (k + 1)))) vs H Q E
abbrev N_first_ranks : List Str := ["options", "resets", "ranks", "level", "slips", "lot", "at"]
theorem sc_first_ranks : FnScope ["options", "resets", "ranks", "level", "slips", "lot", "at"] ["options"] (defScope s_first_ranks) := ⟨rfl, rfl, rfl, by decide +kernel, rfl, by decide +kernel, by decide +kernel⟩
theorem ok_first_ranks {f : Addr} {fd : FuncData} (F : FnP K "first_ranks" "first_ranks" s_first_ranks [] [] f fd) (T : Fx K mg) (F_calm_positions : Fn P w K mg base "calm_positions" 1 ["options", "resets", "slips"] [] sp_calm) : FnOk P w K mg base CX0 2 f fd ["options"] sp_first_ranks := by
  refine F.ok sc_first_ranks (fun vs H Q E h => ?_) (fun cdv A outer s H vs Q E hr h => ?_)
  · obtain ⟨_, _, _, h⟩ := h
    exact spA_len h
  · obtain ⟨g, GO, GS, G, sG, _, ps, k⟩ := h
    obtain ⟨v1, rfl, p1⟩ := ps_one ps
    refine ⟨_, PSs.nox (pss_cons (ps_set (i := 1) sc_first_ranks.nd rfl (Or.inl rfl) (pe_op op_rep (pe_lst (pa_cons pe_bl pa_nil)) (pe_callB (call_lenK K) (by rfl) T.b_len PySem.boot_len (pa_cons (pv 0) pa_nil))))
  (pss_one (ps_while PassesOwn.never (pt_val pe_bl) (pss_cons (ps_asg (pe_tup (pa_cons (pe_op op_rep (pe_lst (pa_cons pe_non pa_nil)) (pe_callB (call_lenK K) (by rfl) T.b_len PySem.boot_len (pa_cons (pv 0) pa_nil))) (pa_cons pe_int (pa_cons (pe_op op_rep (pe_lst (pa_cons pe_bl pa_nil)) (pe_callB (call_lenK K) (by rfl) T.b_len PySem.boot_len (pa_cons (pv 0) pa_nil))) pa_nil)))) (pg_tupK K (n := 3) (by rfl) (pgs_cons (pg_name (i := 2) sc_first_ranks.nd rfl (Or.inr rfl)) (pgs_cons (pg_name (i := 3) sc_first_ranks.nd rfl (Or.inr rfl)) (pgs_cons (pg_name (i := 4) sc_first_ranks.nd rfl (Or.inl rfl)) pgs_nil)))))
  (pss_cons (ps_while PassesOwn.never (pt_val pe_bl) (pss_cons (ps_set (i := 5) sc_first_ranks.nd rfl (Or.inr rfl) (pe_fn F_calm_positions (hr.mono (by decide)) rfl (pa_cons (pv 0) (pa_cons (pv 1) (pa_cons (pv 4) pa_nil)))))
  (pss_cons (ps_set (i := 2) sc_first_ranks.nd rfl (Or.inr rfl) (pe_lc (own := [("at", 6)]) (by rfl) sc_first_ranks.nd (pi_range1 (by rfl) T.b_range (pa_cons (pe_callB (call_lenK K) (by rfl) T.b_len PySem.boot_len (pa_cons (pv 0) pa_nil)) pa_nil)) (blkOk_by (by kernel_rfl)) (fun _ _ _ _ _ => (pg_name (i := 6) sc_first_ranks.nd rfl (Or.inl rfl))) (fun _ _ _ _ _ => pts_nil) (fun _ _ _ _ _ => (pe_ifExp (PW.pt (pw_and (pt_val (pe_ix (ix_listK K) (pv 5) (pv 6) (fun _ _ => rfl))) (pw_and1 (pt_cmp (pc_isN (pe_ix (ix_listK K) (pv 2) (pv 6) (fun _ _ => rfl))))))) (pv 3) (pe_ix (ix_listK K) (pv 2) (pv 6) (fun _ _ => rfl))))))
  (pss_cons (ps_if (pt_cmpR (op_eqDK K hr.units) (pv 5) (pv 4) (nomark _)) (pss_one ps_break) pss_nil)
  (pss_one (ps_asg (pe_tup (pa_cons (pv 5) (pa_cons (pe_op op_add (pv 3) pe_int) pa_nil))) (pg_tupK K (n := 2) (by rfl) (pgs_cons (pg_name (i := 4) sc_first_ranks.nd rfl (Or.inl rfl)) (pgs_cons (pg_name (i := 3) sc_first_ranks.nd rfl (Or.inr rfl)) pgs_nil)))))))))
  (pss_cons (ps_if (pt_cmpR (op_eqDK K hr.units) (pv 4) (pv 1) (nomark _)) (pss_one (ps_ret (pv 2))) pss_nil)
  (pss_one (ps_set (i := 1) sc_first_ranks.nd rfl (Or.inl rfl) (pv 4))))))))), ?_⟩
    have a : At A0 G H G H _ [some (dat (eG g)), none, none, none, none, none, none] := At.begin (vs := [v1]) (N := N_first_ranks) (EnvOk.nil.skip.skip.skip.skip.skip.skip.cons p1) sG trivial
    have hn : g.length ≤ 100000 := Nat.le_trans GS.1 (by decide)
    -- resets = [True] * len(options)
    refine q_asg a ((xe_op (xe_lst1 xe_bl) (xe_cb (xa_cons (xe_var rfl) xa_nil) xc_lenL) (xr_rep (by rw [List.length_map]; exact hn))).to (d' := eBs (List.replicate g.length true)) (by simp [eBs])) fun v G1 H1 st p a1 => ?_
    -- while True
    refine s_while (fun m G' H' σ' => ∃ r : List Bool, (r.length = g.length ∧ (m = 1 ∨ (m = 0 ∧ ∃ k, lotsF g (k + 1) = lotsF g k ∧ r = lotsF g k))) ∧ At A0 G H G' H' σ' [some (dat (eG g)), some (dat (eBs r)), none, none, none, none, none]) 1 ⟨_, ⟨by simp, .inl rfl⟩, a1⟩ ?_
    rintro m G2 H2 σ2 ⟨r, ⟨hr', hm⟩, a2⟩
    refine ⟨true, fun Q' q => ⟨true, rfl, q G2 H2 (Stp.refl a2.s)⟩, fun _ G3 H3 st3 => ?_, fun e => by cases e⟩
    have a3 := a2.step0 st3
    -- ranks, level, slips = [None] * len(options), 0, [False] * len(options)
    refine q_asgG (js := [2, 3, 4]) (φ := dat (.tuple [eRk (ranksF g 0), .int ((0 : Nat) : Int), eBs (lotsF g 0)])) a3 (xe_tup3 ((xe_op (xe_lst1 xe_non) (xe_cb (xa_cons (xe_var rfl) xa_nil) xc_lenL) (xr_rep (by rw [List.length_map]; exact hn))).to (by simp [eRk, ranksF, eO])) xe_int ((xe_op (xe_lst1 xe_bl) (xe_cb (xa_cons (xe_var rfl) xa_nil) xc_lenL) (xr_rep (by rw [List.length_map]; exact hn))).to (by simp [eBs, lotsF])))
      (xg_tup (ds := [eRk (ranksF g 0), .int ((0 : Nat) : Int), eBs (lotsF g 0)]) (xgs_cons (xg_name (by simp)) (xgs_cons (xg_name (by simp)) (xgs_cons (xg_name (by simp)) xgs_nil))) rfl) fun σ4 G4 H4 st4 _ a4 => ?_
    -- while True
    refine q_while (fun m G' H' σ' => ∃ k, m = g.length - cnt (lotsF g k) ∧ At A0 G H G' H' σ' [some (dat (eG g)), some (dat (eBs r)), some (dat (eRk (ranksF g k))), some (dat (.int (k : Int))), some (dat (eBs (lotsF g k))), none, none]) _ ⟨0, rfl, a4.sub (by repeat' constructor)⟩ ?_
    rintro m5 G5 H5 σ5 ⟨k5, rfl, a5⟩
    refine ⟨true, fun Q' q => ⟨true, rfl, q G5 H5 (Stp.refl a5.s)⟩, fun _ G6 H6 st6 => ?_, fun e => by cases e⟩
    have a6 := a5.step0 st6
    -- lot = calm_positions(options, resets, slips)
    refine q_asg (φ := dat (eBs (lotsF g (k5 + 1)))) a6 (xe_call (xa_cons (xe_var rfl) (xa_cons (xe_var rfl) (xa_cons (xe_var rfl) xa_nil))) fun vs H Q h => ⟨g, r, lotsF g k5, GO, GS, hr', lotsF_len g k5, h⟩) fun v7 G7 H7 st7 p7 a7 => ?_
    -- ranks = [..]
    refine q_asg (φ := dat (eRk (ranksF g (k5 + 1)))) a7 ((xe_lcAll (l := List.range g.length) (ψ := fun i : Nat => dat (.int (i : Int))) (E := fun i => eO (if (bat (lotsF g (k5 + 1)) i && (oat (ranksF g k5) i).isNone) = true then some k5 else oat (ranksF g k5) i)) (js := [6]) (xi_rangeT (xa_cons ((xe_cb (xa_cons (xe_var rfl) xa_nil) xc_lenL).to (by rw [List.length_map])) xa_nil) hn) (by rw [List.length_range]; exact hn) (fun j hj => hj) fun i hi => ⟨xg_name (by simp), ?_⟩).to ?_) fun v8 G8 H8 st8 p8 a8 => ?_
    · have hi := List.mem_range.mp hi
      refine xe_if (b := bat (lotsF g (k5 + 1)) i && (oat (ranksF g k5) i).isNone) (xt_and (xt_B (xe_op (xe_var rfl) (xe_var rfl) (xr_ixLn (eBs_get (by rw [lotsF_len]; exact hi))))) fun _ => xt_B (xe_isN (xe_op (xe_var rfl) (xe_var rfl) (xr_ixLn (eRk_get (by rw [ranksF_len]; exact hi)))) fun G v h => none_eO h)) (fun e => ?_) fun e => ?_
      · rw [if_pos e]
        exact xe_var rfl
      · rw [if_neg (by rw [e]; exact Bool.false_ne_true)]
        exact xe_op (xe_var rfl) (xe_var rfl) (xr_ixLn (eRk_get (by rw [ranksF_len]; exact hi)))
    · show PyData.list _ = PyData.list ((rankStep g.length (lotsF g (k5 + 1)) k5 (ranksF g k5)).map eO)
      unfold rankStep
      rw [List.map_map]
      rfl
    -- if lot == slips: break
    refine q_if a8 (xt_test (xe_op (xe_var rfl) (xe_var rfl) (xr_eqD (nice_bools.shaped (by decide) trivial) (nice_bools.shaped (by decide) trivial)))) (fun e G9 H9 st9 a9 => ?_) (fun e G9 H9 st9 a9 => ?_)
    · rw [nice_bools.eqv _ _ trivial trivial] at e
      have fix := of_decide_eq_true e
      -- if slips == resets: return ranks
      refine q_if a9 (xt_test (xe_op (xe_var rfl) (xe_var rfl) (xr_eqD (nice_bools.shaped (by decide) trivial) (nice_bools.shaped (by decide) trivial)))) (fun e2 G10 H10 st10 a10 => ?_) (fun e2 G10 H10 st10 a10 => ?_)
      · refine s_ret a10 (xe_var rfl) fun v G11 H11 st11 _ p11 => ?_
        exact k v G11 H11 st11 trivial ⟨k5, fix, p11⟩
      · rw [nice_bools.eqv _ _ trivial trivial] at e2
        have ne := of_decide_eq_false e2
        refine s_asg a10 (xe_var rfl) fun v G11 H11 st11 p11 a11 => ?_
        rcases hm with rfl | ⟨rfl, k', f', rfl⟩
        · exact ⟨0, G11, by omega, lotsF g k5, ⟨lotsF_len g k5, .inr ⟨rfl, k5, fix, rfl⟩⟩, a11.sub (by repeat' constructor)⟩
        · exact absurd (lotsF_one fix f') ne
    · rw [nice_bools.eqv _ _ trivial trivial] at e
      have ne := of_decide_eq_false e
      refine s_asgG (js := [3, 4]) (φ := dat (.tuple [eBs (lotsF g (k5 + 1)), .int ((k5 + 1 : Nat) : Int)])) a9 (xe_tup2 (xe_var rfl) ((xe_op (xe_var rfl) xe_int xr_add).to (by simp))) (xg_tup2 (by simp) (by simp)) fun σ10 G10 H10 st10 _ a10 => ?_
      refine ⟨_, G10, ?_, k5 + 1, rfl, a10.sub (by repeat' constructor)⟩
      have h1 := lotsF_grows g k5 ne
      have h2 := cnt_len (lotsF g (k5 + 1))
      rw [lotsF_len] at h2
      omega
end
end Ls
/-! F4 -/
set_option maxHeartbeats 4000000
namespace Ls
open PySem PySem.Spec PyProof.Rows L2
section
variable {P : Program} {w : World} {K : PySem.W.Frag} {mg : Str → Option Value} {base : Heap}
theorem row_list {g : Game} {i c : Nat} {ch : List (Nat × Nat)} (h : (row g i)[c]? = some ch) : ((row g i).map eCh)[c]? = some (eCh ch) := map_get h
theorem zip_get {α : Type} {l : List α} {i : Nat} {x : α × Nat} (h : l.zipIdx[i]? = some x) : x.2 = i ∧ l[i]? = some x.1 := by
  rw [List.getElem?_zipIdx] at h
  obtain ⟨y, hy, e⟩ := Option.map_eq_some_iff.mp h
  subst e
  exact ⟨by simp, hy⟩
def GoodR (rk : List (Option Nat)) (a : Nat) (q : Nat × Nat) : Prop := ∃ b, oat rk q.1 = some b ∧ b + q.2 ≤ a
def sp_reply_of : Sp := fun vs H Q E => ∃ (g : Game) (rk : List (Option Nat)) (i c a : Nat) (ch : List (Nat × Nat)), GOk g ∧ GSm g ∧ rk.length = g.length ∧ i < g.length ∧ (row g i)[c]? = some ch ∧ oat rk i = some a ∧ (∃ q ∈ ch, GoodR rk a q) ∧
  spA A0 [dat (eG g), dat (eRk rk), dat (.int (i : Int)), dat (.int (c : Int))] (ex (fun j : Nat => ∃ q, ch[j]? = some q ∧ GoodR rk a q) fun j => dat (.int (j : Int))) vs H Q E
theorem ps_four {φ ψ χ ω : SP} {G : Hp} {vs : List V} (h : Ps G vs [φ, ψ, χ, ω]) : ∃ v w u z, vs = [v, w, u, z] ∧ φ.p G v ∧ ψ.p G w ∧ χ.p G u ∧ ω.p G z := by
  cases h with
  | cons h r =>
    obtain ⟨w, u, z, e, h2, h3, h4⟩ := ps_three r
    subst e
    exact ⟨_, _, _, _, rfl, h, h2, h3, h4⟩
abbrev N_reply_of : List Str := ["options", "ranks", "at", "challenge", "index", "target", "color"]
theorem sc_reply_of : FnScope ["options", "ranks", "at", "challenge", "index", "target", "color"] ["options", "ranks", "at", "challenge"] (defScope s_reply_of) := ⟨rfl, rfl, rfl, by decide +kernel, rfl, by decide +kernel, by decide +kernel⟩
theorem ok_reply_of {f : Addr} {fd : FuncData} (F : FnP K "reply_of" "reply_of" s_reply_of [] [] f fd) (T : Fx K mg) : FnOk P w K mg base CX0 1 f fd ["options", "ranks", "at", "challenge"] sp_reply_of := by
  refine F.ok sc_reply_of (fun vs H Q E h => ?_) (fun cdv A outer s H vs Q E hr h => ?_)
  · obtain ⟨_, _, _, _, _, _, _, _, _, _, _, _, _, h⟩ := h
    exact spA_len h
  · obtain ⟨g, rk, i, c, a, ch, GO, GS, hrk, hi, hch, ha, hex, G, sG, _, ps, k⟩ := h
    obtain ⟨v1, v2, v3, v4, rfl, p1, p2, p3, p4⟩ := ps_four ps
    refine ⟨_, PSs.nox (pss_cons (ps_for PassesOwn.never (by rfl) (pi_enumK K (by rfl) T.b_enumerate (pa_cons (pe_ix (ix_listK K) (pe_ix (ix_listK K) (pv 0) (pv 2) (fun _ _ => rfl)) (pv 3) (fun _ _ => rfl)) pa_nil)) (pg_tupK K (n := 2) (by rfl) (pgs_cons (pg_name (i := 4) sc_reply_of.nd rfl (Or.inl rfl)) (pgs_cons (pg_tupK K (n := 2) (by rfl) (pgs_cons (pg_name (i := 5) sc_reply_of.nd rfl (Or.inl rfl)) (pgs_cons (pg_name (i := 6) sc_reply_of.nd rfl (Or.inl rfl)) pgs_nil))) pgs_nil))) (pss_one (ps_if (pt_cmp (pc_notN (pe_ix (ix_listK K) (pv 1) (pv 5) (fun _ _ => rfl)))) (pss_one (ps_if (PW.pt (pw_or (pt_cmpR op_eq (pv 6) pe_int (nomark _)) (pw_or1 (pt_cmpR op_le (pe_op op_add (pe_ix (ix_listK K) (pv 1) (pv 5) (fun _ _ => rfl)) (pv 6)) (pe_ix (ix_listK K) (pv 1) (pv 2) (fun _ _ => rfl)) (nomark _))))) (pss_one (ps_ret (pv 4))) pss_nil)) pss_nil)))
  (pss_one (ps_ret pe_non))), ?_⟩
    have at1 : At A0 G H G H _ [some (dat (eG g)), some (dat (eRk rk)), some (dat (.int (i : Int))), some (dat (.int (c : Int))), none, none, none] := At.begin (vs := [v1, v2, v3, v4]) (N := N_reply_of) ((((EnvOk.nil.skip.skip.skip.cons p4).cons p3).cons p2).cons p1) sG trivial
    have hcm : ch ∈ row g i := List.mem_of_getElem? hch
    have hcl : ch.length ≤ 1000 := (GS.2 _ (row_mem hi)).2 ch hcm
    refine q_for (l := ch.zipIdx) at1 (xi_enumT (e := eQ) (xa_cons (xe_op (xe_op (xe_var rfl) (xe_var rfl) (xr_ixLn (eRow_get hi))) (xe_var rfl) (xr_ixLn (row_list hch))) xa_nil))
      (fun j G' H' σ' => At A0 G H G' H' σ' [some (dat (eG g)), some (dat (eRk rk)), some (dat (.int (i : Int))), some (dat (.int (c : Int))), none, none, none] ∧ ∀ j' q, j' < j → ch[j']? = some q → ¬ GoodR rk a q)
      (fun j G1 H1 σ1 h => h.1.s) (fun G6 H6 st6 => ⟨at1.step0 st6, fun j' q h => absurd h (Nat.not_lt_zero _)⟩) ?_ ?_
    · rintro j x G6 H6 σ6 hx ⟨a6, no⟩ v7 G7 H7 st7 p7
      obtain ⟨q, j2⟩ := x
      obtain ⟨e1, hq⟩ := zip_get hx
      have e1 : j2 = j := e1
      subst e1
      have hq : ch[j2]? = some q := hq
      have hq2 := GO.at_ hi hcm (List.mem_of_getElem? hq)
      have a6' := a6.step0 st7
      refine (xg_tup (ds := [.int (j2 : Int), eQ q]) (js := [4, 5, 6]) (xgs_cons (xg_name (by simp)) (xgs_cons (xg_tup2 (by simp) (by simp)) xgs_nil)) rfl) G7 H7 σ6 v7 _ a6'.env a6'.s p7 fun σ8 E8 _ => ?_
      have a8 := a6'.re E8
      have hrq : (rk.map eO)[q.1]? = some (eO (oat rk q.1)) := eRk_get (by rw [hrk]; exact hq2.1)
      refine s_if (b := (oat rk q.1).isSome) a8 (xt_B (xe_notN (xe_op (xe_var rfl) (xe_var rfl) (xr_ixLn hrq)) fun G v h => by rw [none_eO h]; cases oat rk q.1 <;> rfl)) (fun e G9 H9 st9 a9 => ?_) fun e G9 H9 st9 a9 => ?_
      · obtain ⟨b, hb⟩ := Option.isSome_iff_exists.mp e
        rw [hb] at hrq
        have hra : (rk.map eO)[i]? = some (.int (a : Int)) := by
          have := eRk_get (l := rk) (i := i) (by rw [hrk]; exact hi)
          rw [ha] at this
          exact this
        refine s_if (b := decide ((q.2 : Int) = 2) || decide ((b : Int) + (q.2 : Int) ≤ (a : Int))) a9 (xt_or (xt_test (xe_op (xe_var rfl) xe_int xr_eqI)) fun _ => xt_test (xe_op (xe_op (xe_op (xe_var rfl) (xe_var rfl) (xr_ixLn hrq)) (xe_var rfl) xr_add) (xe_op (xe_var rfl) (xe_var rfl) (xr_ixLn hra)) xr_le)) (fun e2 G10 H10 st10 a10 => ?_) fun e2 G10 H10 st10 a10 => ?_
        · refine s_ret a10 (xe_var rfl) fun v G11 H11 st11 _ p11 => ?_
          refine k v G11 H11 st11 trivial ⟨j2, ⟨q, hq, b, hb, ?_⟩, p11⟩
          have h2 := hq2.2
          rw [decide_eq_false (by omega), Bool.false_or] at e2
          have := of_decide_eq_true e2
          omega
        · refine ⟨G10, ((st7.g.trans st9.g).trans st10.g), a10.sub (by repeat' constructor), fun j' q' hlt hq' => ?_⟩
          by_cases hj : j' = j2
          · subst hj
            rw [hq] at hq'
            obtain rfl := Option.some.inj hq'
            rintro ⟨b', hb', hle⟩
            rw [hb] at hb'
            obtain rfl := Option.some.inj hb'
            have e3 := (Bool.or_eq_false_iff.mp e2).2
            have := of_decide_eq_false e3
            omega
          · exact no j' q' (by omega) hq'
      · refine ⟨G9, st7.g.trans st9.g, a9.sub (by repeat' constructor), fun j' q' hlt hq' => ?_⟩
        by_cases hj : j' = j2
        · subst hj
          rw [hq] at hq'
          obtain rfl := Option.some.inj hq'
          rintro ⟨b', hb', hle⟩
          rw [hb'] at e
          cases e
        · exact no j' q' (by omega) hq'
    · rintro G6 H6 σ6 ⟨a6, no⟩
      obtain ⟨q, hq, hg⟩ := hex
      obtain ⟨j, hj⟩ := List.mem_iff_getElem?.mp hq
      have hl := (List.getElem?_eq_some_iff.mp hj).1
      exact absurd hg (no j q (by rw [List.length_zipIdx]; exact hl) hj)
end
end Ls
/-! F5 -/
set_option maxHeartbeats 4000000
namespace Ls
open PySem PySem.Spec PyProof.Rows L2
section
variable {P : Program} {w : World} {K : PySem.W.Frag} {mg : Str → Option Value} {base : Heap}
theorem eF_get {l : Fnd} {i : Nat} (h : i < l.length) : (l.map (eOpt eQ))[i]? = some (eOpt eQ (oat l i)) := map_get (oat_get h)
theorem zipL_get {α : Type} {l : List α} {i : Nat} {x : α × Nat} (h : l.zipIdx[i]? = some x) : x.2 = i ∧ l[i]? = some x.1 := by
  rw [List.getElem?_zipIdx] at h
  obtain ⟨y, hy, e⟩ := Option.map_eq_some_iff.mp h
  subst e
  exact ⟨by simp, hy⟩
theorem none_eF {G : Hp} {v : V} {o : Option (Nat × Nat)} (h : Rp G v (eOpt eQ o)) : decide (v = V.non) = o.isNone := by
  cases o with
  | none =>
    cases h
    rfl
  | some k =>
    cases h
    rfl
theorem not_none_eF {G : Hp} {v : V} {o : Option (Nat × Nat)} (h : Rp G v (eOpt eQ o)) : (!decide (v = V.non)) = o.isSome := by
  rw [none_eF h]
  cases o <;> rfl
def sp_forced : Sp := fun vs H Q E => ∃ (g : Game) (s r old : List Bool), GOk g ∧ GSm g ∧ s.length = g.length ∧ r.length = g.length ∧ old.length = g.length ∧ spA A0 [dat (eG g), dat (.tuple [eBs s, eBs r]), dat (eBs old)] (ex (fun f => FSpec g s old f) fun f => dat (eF f)) vs H Q E
abbrev N_forced : List Str := ["options", "lots", "old", "found", "level", "late", "at", "number", "replies", "good", "target", "color"]
theorem sc_forced : FnScope ["options", "lots", "old", "found", "level", "late", "at", "number", "replies", "good", "target", "color"] ["options", "lots", "old"] (defScope s_forced) := ⟨rfl, rfl, rfl, by decide +kernel, rfl, by decide +kernel, by decide +kernel⟩
theorem ok_forced {f : Addr} {fd : FuncData} (F : FnP K "forced" "forced" s_forced [] [] f fd) (T : Fx K mg) : FnOk P w K mg base CX0 1 f fd ["options", "lots", "old"] sp_forced := by
  refine F.ok sc_forced (fun vs H Q E h => ?_) (fun cdv A outer st H vs Q E hr h => ?_)
  · obtain ⟨_, _, _, _, _, _, _, _, _, h⟩ := h
    exact spA_len h
  · obtain ⟨g, s, r, old, GO, GS, hs', hr', ho', G, sG, _, ps, k⟩ := h
    obtain ⟨v1, v2, v3, rfl, p1, p2, p3⟩ := ps_three ps
    refine ⟨_, PSs.nox (pss_cons (ps_asg (pe_tup (pa_cons (pe_lc (own := [("late", 5)]) (by rfl) sc_forced.nd (pi_listK K (pv 2)) (blkOk_by (by kernel_rfl)) (fun _ _ _ _ _ => (pg_name (i := 5) sc_forced.nd rfl (Or.inl rfl))) (fun _ _ _ _ _ => pts_nil) (fun _ _ _ _ _ => (pe_ifExp (pt_val (pv 5)) (pe_tup (pa_cons pe_int (pa_cons pe_int pa_nil))) pe_non))) (pa_cons pe_int pa_nil))) (pg_tupK K (n := 2) (by rfl) (pgs_cons (pg_name (i := 3) sc_forced.nd rfl (Or.inr rfl)) (pgs_cons (pg_name (i := 4) sc_forced.nd rfl (Or.inl rfl)) pgs_nil))))
  (pss_one (ps_while PassesOwn.never (pt_val pe_bl) (pss_cons (ps_set (i := 5) sc_forced.nd rfl (Or.inl rfl) (pe_callTy (call_listK K) (by rfl) T.b_list bt_list (pa_cons (pv 3) pa_nil)))
  (pss_cons (ps_for PassesOwn.never (by rfl) (pi_range1 (by rfl) T.b_range (pa_cons (pe_callB (call_lenK K) (by rfl) T.b_len PySem.boot_len (pa_cons (pv 0) pa_nil)) pa_nil)) (pg_name (i := 6) sc_forced.nd rfl (Or.inl rfl)) (pss_one (ps_if (pt_cmp (pc_isN (pe_ix (ix_listK K) (pv 3) (pv 6) (fun _ _ => rfl)))) (pss_one (ps_for PassesOwn.never (by rfl) (pi_enumK K (by rfl) T.b_enumerate (pa_cons (pe_ix (ix_listK K) (pv 0) (pv 6) (fun _ _ => rfl)) pa_nil)) (pg_tupK K (n := 2) (by rfl) (pgs_cons (pg_name (i := 7) sc_forced.nd rfl (Or.inl rfl)) (pgs_cons (pg_name (i := 8) sc_forced.nd rfl (Or.inl rfl)) pgs_nil))) (pss_cons (ps_setLc (i := 9) (own := [("target", 10), ("color", 11)]) (by rfl) sc_forced.nd rfl rfl (sw_true rfl rfl rfl (by decide +kernel)) (pi_listK K (pv 8)) (blkOk_by (by kernel_rfl)) (fun _ _ _ _ _ => (pg_tupK K (n := 2) (by rfl) (pgs_cons (pg_name (i := 10) sc_forced.nd rfl (Or.inl rfl)) (pgs_cons (pg_name (i := 11) sc_forced.nd rfl (Or.inl rfl)) pgs_nil)))) (fun _ _ _ _ _ => pts_nil) (fun _ _ _ _ _ => (pe_ix (ix_listK K) (pe_lst (pa_cons (pe_cmp (pc_notN (pe_ix (ix_listK K) (pv 3) (pv 10) (fun _ _ => rfl)))) (pa_cons (pe_ix (ix_listK K) (pe_ix (ix_tupK K) (pv 1) pe_int (fun _ _ => rfl)) (pv 10) (fun _ _ => rfl)) (pa_cons (pe_ix (ix_listK K) (pe_ix (ix_tupK K) (pv 1) pe_int (fun _ _ => rfl)) (pv 10) (fun _ _ => rfl)) pa_nil)))) (pv 11) (fun _ _ => rfl))))
  (pss_one (ps_if (PW.pt (pw_and (pt_cmp (pc_isN (pe_ix (ix_listK K) (pv 5) (pv 6) (fun _ _ => rfl)))) (pw_and1 (pt_val (pe_callB (cr_allK K rfl) (by rfl) T.b_all bt_all (pa_cons (pv 9) pa_nil)))))) (pss_one (ps_asg (pe_tup (pa_cons (pv 7) (pa_cons (pv 4) pa_nil))) (pg_sub (pv 5) (pv 6) set_list))) pss_nil))))) pss_nil)))
  (pss_cons (ps_if (pt_cmpR (op_eqDK K hr.units) (pv 5) (pv 3) (nomark _)) (pss_one (ps_ret (pv 3))) pss_nil)
  (pss_one (ps_asg (pe_tup (pa_cons (pv 5) (pa_cons (pe_op op_add (pv 4) pe_int) pa_nil))) (pg_tupK K (n := 2) (by rfl) (pgs_cons (pg_name (i := 3) sc_forced.nd rfl (Or.inr rfl)) (pgs_cons (pg_name (i := 4) sc_forced.nd rfl (Or.inl rfl)) pgs_nil))))))))))), ?_⟩
    have a : At A0 G H G H _ [some (dat (eG g)), some (dat (.tuple [eBs s, eBs r])), some (dat (eBs old)), none, none, none, none, none, none, none, none, none] := At.begin (vs := [v1, v2, v3]) (N := N_forced) (((EnvOk.nil.skip.skip.skip.skip.skip.skip.skip.skip.skip.cons p3).cons p2).cons p1) sG trivial
    have hn : g.length ≤ 100000 := Nat.le_trans GS.1 (by decide)
    have hn2 : g.length ≤ 1000 := GS.1
    -- found, level = ..
    refine q_asgG (js := [3, 4]) (φ := dat (.tuple [eF (startF old), .int ((1 : Nat) : Int)])) a (xe_tup2 ((xe_lcAll (l := old) (ψ := fun b => dat (.bool b)) (E := fun b => eOpt eQ (if b then some (0, 0) else none)) (js := [5]) (xi_listT (xe_var rfl)) (by omega) (fun j hj => hj) fun b hb => ⟨xg_name (by simp), xe_if (b := b) (xt_B (xe_var rfl)) (fun e => ?_) fun e => ?_⟩).to ?_) xe_int) (xg_tup2 (by simp) (by simp)) fun σ1 G1 H1 st1 _ a1 => ?_
    · subst e
      exact xe_tup2 xe_int xe_int
    · subst e
      exact xe_non
    · simp [eF, startF]
    -- while True
    refine s_while (fun m G' H' σ' => ∃ f level, FInv g s old f level ∧ m = cntF f ∧ At A0 G H G' H' σ' [some (dat (eG g)), some (dat (.tuple [eBs s, eBs r])), some (dat (eBs old)), some (dat (eF f)), some (dat (.int (level : Int))), none, none, none, none, none, none, none]) _ ⟨_, 1, FInv.start ho', rfl, a1.sub (by repeat' constructor)⟩ ?_
    rintro m G2 H2 σ2 ⟨f, level, I, rfl, a2⟩
    refine ⟨true, fun Q' q => ⟨true, rfl, q G2 H2 (Stp.refl a2.s)⟩, fun _ G3 H3 st3 => ?_, fun e => by cases e⟩
    have a3 := a2.step0 st3
    have hfl : f.length = (forcedStep g s r f level).length := by rw [forcedStep_len, I.len]
    -- late = list(found)
    refine q_copy a3 (xe_var rfl) fun L xs4 G4 H4 _ fL w4 r4 st4 a4 => ?_
    -- for at in range(len(options))
    refine q_for (l := List.range g.length) a4 (xi_rangeT (xa_cons ((xe_cb (xa_cons (xe_var rfl) xa_nil) xc_lenL).to (by rw [List.length_map])) xa_nil) hn)
      (fun i G' H' σ' => At A0 G H G' H' σ' [some (dat (eG g)), some (dat (.tuple [eBs s, eBs r])), some (dat (eBs old)), some (dat (eF f)), some (dat (.int (level : Int))), some (isV (.ref L)), none, none, none, none, none, none] ∧ ∃ xs, Own G' H' L (.lst xs) ∧ RpAll G' xs (((forcedStep g s r f level).take i ++ f.drop i).map (eOpt eQ)))
      (fun i G1 H1 σ1 h => h.1.s) (fun G6 H6 st6 => ⟨a4.step0 st6, xs4, w4.step0 st6, r4.mono st6.g⟩) ?_ ?_
    · rintro i x G6 H6 σ6 hx ⟨a6, xs6, w6, r6⟩ v7 G7 H7 st7 p7
      obtain ⟨hi, rfl⟩ := range_get hx
      have a7 := (a6.step0 st7).re ((a6.step0 st7).env.set 6 p7)
      have hfi : x < f.length := by rw [I.len]; exact hi
      have hnx : (forcedStep g s r f level)[x]? = some (oat (forcedStep g s r f level) x) := oat_get (by rw [forcedStep_len]; exact hi)
      have hset := part_next hfl hnx
      refine s_if (b := (oat f x).isNone) a7 (xt_B (xe_isN (xe_op (xe_var rfl) (xe_var rfl) (xr_ixLn (eF_get hfi))) fun G v h => none_eF h)) (fun e G8 H8 st8 a8 => ?_) fun e G8 H8 st8 a8 => ?_
      · have hnone : oat f x = none := Option.isNone_iff_eq_none.mp e
        have hrl : (row g x).length ≤ 1000 ∧ ∀ ch ∈ row g x, ch.length ≤ 1000 := GS.2 _ (row_mem hi)
        refine s_for (l := (row g x).zipIdx) a8 (xi_enumT (e := eCh) (xa_cons (xe_op (xe_var rfl) (xe_var rfl) (xr_ixLn (eRow_get hi))) xa_nil))
          (fun j G' H' σ' => At A0 G H G' H' σ' [some (dat (eG g)), some (dat (.tuple [eBs s, eBs r])), some (dat (eBs old)), some (dat (eF f)), some (dat (.int (level : Int))), some (isV (.ref L)), some (dat (.int (x : Int))), none, none, none, none, none] ∧ Same G6 G' ∧ ∃ xs, Own G' H' L (.lst xs) ∧ RpAll G' xs ((((forcedStep g s r f level).take x ++ f.drop x).set x ((((row g x).take j).findIdx? fun ch => ch.all (pickF f s r)).map fun c => (c, level))).map (eOpt eQ)))
          (fun j G1 H1 σ1 h => h.1.s) (fun G9 H9 st9 => ⟨(a8.step0 st9).sub (by repeat' constructor), (st7.g.trans st8.g).trans st9.g, xs6, ((w6.step0 st7).step0 st8).step0 st9, ?_⟩) ?_ ?_
        · have e0 : ((forcedStep g s r f level).take x ++ f.drop x).set x none = (forcedStep g s r f level).take x ++ f.drop x := by
            apply List.ext_getElem?
            intro z
            by_cases hz : x = z
            · subst hz
              rw [List.getElem?_set_self (by rw [part_len hfl]; exact hfi), part_get hfl, oat_get hfi, hnone]
            · rw [List.getElem?_set_ne hz]
          show RpAll G9 xs6 ((((forcedStep g s r f level).take x ++ f.drop x).set x none).map (eOpt eQ))
          rw [e0]
          exact ((r6.mono st7.g).mono st8.g).mono st9.g
        · rintro j y G9 H9 σ9 hy ⟨a9, sg9, xs9, w9, r9⟩ v10 G10 H10 st10 p10
          obtain ⟨ch, j2⟩ := y
          obtain ⟨e1, hch⟩ := zipL_get hy
          have e1 : j2 = j := e1
          subst e1
          have hch : (row g x)[j2]? = some ch := hch
          have hcm : ch ∈ row g x := List.mem_of_getElem? hch
          have a9' := a9.step0 st10
          refine (xg_tup2 (by simp) (by simp) : XG _ _ [7, 8] _ _) G10 H10 σ9 v10 _ a9'.env a9'.s p10 fun σ11 E11 _ => ?_
          have a11 := a9'.re E11
          have w11 := w9.step0 st10
          -- good = [..]
          refine q_asg (φ := dat (eBs (ch.map (pickF f s r)))) a11 ((xe_lcAll (l := ch) (ψ := fun q => dat (eQ q)) (E := fun q => .bool (pickF f s r q)) (js := [10, 11]) (xi_listT (xe_var rfl)) (by have := hrl.2 ch hcm; omega) (fun j hj => hj) fun q hq => ⟨xg_tup2 (by simp) (by simp), ?_⟩).to (by simp [eBs])) fun v12 G12 H12 st12 p12 a12 => ?_
          · have hq2 := GO.at_ hi hcm hq
            refine xe_op (xe_lst (ds := [.bool (isB f q.1), .bool (bat s q.1), .bool (bat r q.1)]) (xa_cons (xe_notN (xe_op (xe_var rfl) (xe_var rfl) (xr_ixLn (eF_get (by rw [I.len]; exact hq2.1)))) fun G v h => not_none_eF h) (xa_cons (xe_op (xe_op (xe_var rfl) xe_int (xr_ixTn (n := 0) rfl)) (xe_var rfl) (xr_ixLn (eBs_get (by rw [hs']; exact hq2.1)))) (xa_cons (xe_op (xe_op (xe_var rfl) xe_int (xr_ixTn (n := 1) rfl)) (xe_var rfl) (xr_ixLn (eBs_get (by rw [hr']; exact hq2.1)))) xa_nil))) (by show 3 ≤ 1000; decide)) (xe_var rfl) (xr_ixLn ?_)
            obtain ⟨q1, q2⟩ := q
            match q2, hq2.2 with
            | 0, _ => rfl
            | 1, _ => rfl
          · have w12 := w11.step0 st12
            have r12 := (r9.mono st10.g).mono st12.g
            have hxl : x < (((forcedStep g s r f level).take x ++ f.drop x).set x ((((row g x).take j2).findIdx? fun ch => ch.all (pickF f s r)).map fun c => (c, level))).length := by
              rw [List.length_set, part_len hfl]
              exact hfi
            have hget : (((forcedStep g s r f level).take x ++ f.drop x).set x ((((row g x).take j2).findIdx? fun ch => ch.all (pickF f s r)).map fun c => (c, level)))[x]? = some ((((row g x).take j2).findIdx? fun ch => ch.all (pickF f s r)).map fun c => (c, level)) := List.getElem?_set_self (by rw [part_len hfl]; exact hfi)
            have hfn := find_next (p := fun ch => ch.all (pickF f s r)) hch
            refine s_ifV (i := 5) (b := ((((row g x).take j2).findIdx? fun ch => ch.all (pickF f s r)).map fun c => (c, level)).isNone && ch.all (pickF f s r)) a12 w12 rfl r12 (xt_and (xt_B (xe_isN (xe_op (xe_var rfl) (xe_var rfl) (xr_ixLn (map_get hget))) fun G v h => none_eF h)) fun _ => xt_B (XE.to (d := .bool ((ch.map (pickF f s r)).all id)) (xe_cb (xa_cons (xe_var rfl) xa_nil) xc_all) (by rw [List.all_map]; rfl))) (fun e2 H13 st13 a13 => ?_) fun e2 H13 st13 a13 => ?_
            · obtain ⟨e3, e4⟩ := Bool.and_eq_true_iff.mp e2
              have e5 : (((row g x).take j2).findIdx? fun ch => ch.all (pickF f s r)) = none := by
                have := Option.isNone_iff_eq_none.mp e3
                exact Option.map_eq_none_iff.mp this
              refine s_setI (e := .none) a13 (w12.step0 st13) fL nb0 rfl (xe_tup2 (xe_var rfl) (xe_var rfl)) (xe_var rfl) (by rw [r12.length, List.length_map]; exact hxl) fun v14 G14 H14 st14 p14 a14 w14 => ?_
              refine ⟨G14, ((st10.g.trans st12.g).trans st13.g).trans st14.g, a14.sub (by repeat' constructor), (((sg9.trans st10.g).trans st12.g).trans st13.g).trans st14.g, _, w14, ?_⟩
              rw [hfn, e5, if_pos e4]
              have := (r12.mono st14.g).set (v := v14) (d := eOpt eQ (some (j2, level))) p14 x
              rw [← List.map_set] at this
              rw [List.set_set] at this
              exact this
            · refine ⟨G12, st10.g.trans st12.g, a13.sub (by repeat' constructor), (sg9.trans st10.g).trans st12.g, xs9, w12.step0 st13, ?_⟩
              have e6 : ((((row g x).take (j2 + 1)).findIdx? fun ch => ch.all (pickF f s r)).map fun c => (c, level)) = ((((row g x).take j2).findIdx? fun ch => ch.all (pickF f s r)).map fun c => (c, level)) := by
                rw [hfn]
                cases h5 : ((row g x).take j2).findIdx? fun ch => ch.all (pickF f s r) with
                | some c => rfl
                | none =>
                  rw [h5] at e2
                  have e7 : (ch.all (pickF f s r)) = false := by simpa using e2
                  rw [e7]
                  rfl
              rw [e6]
              exact r12
        · rintro G9 H9 σ9 ⟨a9, sg9, xs9, w9, r9⟩
          refine ⟨G9, sg9, a9.sub (by repeat' constructor), xs9, w9, ?_⟩
          rw [List.length_zipIdx, List.take_length] at r9
          have e8 : oat (forcedStep g s r f level) x = ((row g x).findIdx? fun ch => ch.all (pickF f s r)).map fun c => (c, level) := by
            rw [forcedStep_at hi, hnone]
          rw [← hset, e8]
          exact r9
      · refine ⟨G8, st7.g.trans st8.g, a8.sub (by repeat' constructor), xs6, (w6.step0 st7).step0 st8, ?_⟩
        rw [← hset]
        obtain ⟨y, hy⟩ : ∃ y, oat f x = some y := by
          cases h : oat f x with
          | none =>
            rw [h] at e
            cases e
          | some y => exact ⟨y, rfl⟩
        have e9 : ((forcedStep g s r f level).take x ++ f.drop x).set x (oat (forcedStep g s r f level) x) = (forcedStep g s r f level).take x ++ f.drop x := by
          apply List.ext_getElem?
          intro z
          by_cases hz : x = z
          · subst hz
            rw [List.getElem?_set_self (by rw [part_len hfl]; exact hfi), part_get hfl, oat_get hfi, hy, forcedStep_keep I.len hy]
          · rw [List.getElem?_set_ne hz]
        rw [e9]
        exact (r6.mono st7.g).mono st8.g
    · rintro G6 H6 σ6 ⟨a6, xs6, w6, r6⟩
      have hlen : (List.range g.length).length = (forcedStep g s r f level).length := by rw [List.length_range, forcedStep_len]
      rw [hlen, List.take_length, ← hfl, List.drop_length, List.append_nil] at r6
      obtain ⟨a7, sG7⟩ := a6.seal w6 fL nb0
      have p7 : Rp (upd G6 L (.lst xs6)) (.ref L) (eF (forcedStep g s r f level)) := .lst upd_same (r6.mono sG7)
      have a8 := a7.re (a7.env.put (j := 5) (a7.own (i := 5) rfl) (φ := dat (eF (forcedStep g s r f level))) p7)
      -- if late == found
      refine q_if a8 (xt_test (xe_op (xe_var rfl) (xe_var rfl) (xr_eqD (nice_fnd.shaped (by decide) trivial) (nice_fnd.shaped (by decide) trivial)))) (fun e G9 H9 st9 a9 => ?_) (fun e G9 H9 st9 a9 => ?_)
      · rw [nice_fnd.eqv _ _ trivial trivial] at e
        have e2 := I.fix GO (of_decide_eq_true e)
        refine s_ret a9 (xe_var rfl) fun v G10 H10 st10 _ p10 => ?_
        exact k v G10 H10 st10 trivial ⟨f, e2, p10⟩
      · rw [nice_fnd.eqv _ _ trivial trivial] at e
        have ne : forcedStep g s r f level ≠ f := of_decide_eq_false e
        refine s_asgG (js := [3, 4]) (φ := dat (.tuple [eF (forcedStep g s r f level), .int ((level + 1 : Nat) : Int)])) a9 (xe_tup2 (xe_var rfl) ((xe_op (xe_var rfl) xe_int xr_add).to (by simp))) (xg_tup2 (by simp) (by simp)) fun σ10 G10 H10 st10 _ a10 => ?_
        exact ⟨_, G10, forced_falls I.len ne, _, level + 1, I.next GO, rfl, a10.sub (by repeat' constructor)⟩
end
end Ls
/-! F6 -/
set_option maxHeartbeats 4000000
namespace Ls
open PySem PySem.Spec PyProof.Rows L2
section
variable {P : Program} {w : World} {K : PySem.W.Frag} {mg : Str → Option Value} {base : Heap}
def eT3 (x : Nat × Nat × Nat) : PyData := .tuple [.int (x.1 : Int), .int (x.2.1 : Int), .int (x.2.2 : Int)]
def eTb (t : Tab) : PyData := .list (t.map (eOpt eT3))
theorem eTb_get {l : Tab} {i : Nat} (h : i < l.length) : (l.map (eOpt eT3))[i]? = some (eOpt eT3 (oat l i)) := map_get (oat_get h)
theorem none_eTb {G : Hp} {v : V} {o : Option (Nat × Nat × Nat)} (h : Rp G v (eOpt eT3 o)) : decide (v = V.non) = o.isNone := by
  cases o with
  | none =>
    cases h
    rfl
  | some k =>
    cases h
    rfl
def tabStep (t : Tab) (f : Fnd) (st : Nat) : Tab := (List.range t.length).map fun i => match oat t i with
  | some x => some x
  | none => (oat f i).map fun y => (y.1, st, y.2)
theorem tabStep_len (t : Tab) (f : Fnd) (st : Nat) : (tabStep t f st).length = t.length := by simp [tabStep]
theorem tabStep_at {t : Tab} {f : Fnd} {st i : Nat} (h : i < t.length) : oat (tabStep t f st) i = match oat t i with
    | some x => some x
    | none => (oat f i).map fun y => (y.1, st, y.2) := by
  unfold tabStep
  rw [oat_map h]
theorem ext_oat {α : Type} {l l' : List (Option α)} (hl : l.length = l'.length) (h : ∀ i, i < l.length → oat l i = oat l' i) : l = l' := by
  apply List.ext_getElem? 
  intro i
  by_cases hi : i < l.length
  · rw [oat_get hi, oat_get (by omega), h i hi]
  · rw [List.getElem?_eq_none (by omega), List.getElem?_eq_none (by omega)]
theorem tabOf_len (f : Fnd) : (tabOf f).length = f.length := by simp [tabOf]
theorem tab_one (f : Fnd) (n : Nat) (h : f.length = n) : tabStep (List.replicate n none) f 0 = tabOf f := by
  refine ext_oat (by rw [tabStep_len, tabOf_len, List.length_replicate, h]) fun i hi => ?_
  rw [tabStep_len, List.length_replicate] at hi
  rw [tabStep_at (by rw [List.length_replicate]; exact hi), oat_rep, oat_tabOf]
theorem tab_two {f f' : Fnd} {st : Nat} (h : lateF f' = lateF f) : tabStep (tabOf f) f' st = tabOf f := by
  refine ext_oat (by rw [tabStep_len]) fun i hi => ?_
  rw [tabStep_len] at hi
  rw [tabStep_at hi, oat_tabOf]
  cases h1 : oat f i with
  | some y => rfl
  | none =>
    have h2 : isB f' i = isB f i := by rw [← bat_lateF, ← bat_lateF, h]
    unfold isB at h2
    rw [h1] at h2
    cases h3 : oat f' i with
    | none => rfl
    | some y =>
      rw [h3] at h2
      cases h2
def sp_second_table : Sp := fun vs H Q E => ∃ (g : Game), GOk g ∧ GSm g ∧ spA A0 [dat (eG g)] (ex (fun t => TSpec g t) fun t => dat (eTb t)) vs H Q E
abbrev N_second_table : List Str := ["options", "many", "table", "resets", "stage", "slips", "found", "late", "at", "one"]
theorem sc_second_table : FnScope ["options", "many", "table", "resets", "stage", "slips", "found", "late", "at", "one"] ["options"] (defScope s_second_table) := ⟨rfl, rfl, rfl, by decide +kernel, rfl, by decide +kernel, by decide +kernel⟩
theorem ok_second_table {f : Addr} {fd : FuncData} (F : FnP K "second_table" "second_table" s_second_table [] [] f fd) (T : Fx K mg) (F_forced : Fn P w K mg base "forced" 1 ["options", "lots", "old"] [] sp_forced) : FnOk P w K mg base CX0 2 f fd ["options"] sp_second_table := by
  refine F.ok sc_second_table (fun vs H Q E h => ?_) (fun cdv A outer st H vs Q E hr h => ?_)
  · obtain ⟨_, _, _, h⟩ := h
    exact spA_len h
  · obtain ⟨g, GO, GS, G, sG, _, ps, k⟩ := h
    obtain ⟨v1, rfl, p1⟩ := ps_one ps
    refine ⟨_, PSs.nox (pss_cons (ps_set (i := 1) sc_second_table.nd rfl (Or.inl rfl) (pe_callB (call_lenK K) (by rfl) T.b_len PySem.boot_len (pa_cons (pv 0) pa_nil)))
  (pss_cons (ps_par3 (i := 2) (j := 3) (l := 4) (by rfl) sc_second_table.nd rfl rfl rfl (by decide) rfl rfl rfl (pa_cons (pe_op op_rep (pe_lst (pa_cons pe_non pa_nil)) (pv 1)) (pa_cons (pe_op op_rep (pe_lst (pa_cons pe_bl pa_nil)) (pv 1)) (pa_cons pe_int pa_nil))) (by rfl))
  (pss_one (ps_while PassesOwn.never (pt_val pe_bl) (pss_cons (ps_set (i := 5) sc_second_table.nd rfl (Or.inl rfl) (pe_op op_rep (pe_lst (pa_cons pe_bl pa_nil)) (pv 1)))
  (pss_cons (ps_while PassesOwn.never (pt_val pe_bl) (pss_cons (ps_set (i := 6) sc_second_table.nd rfl (Or.inl rfl) (pe_fn F_forced (hr.mono (by decide)) rfl (pa_cons (pv 0) (pa_cons (pe_tup (pa_cons (pv 5) (pa_cons (pv 3) pa_nil))) (pa_cons (pv 3) pa_nil)))))
  (pss_cons (ps_setLc (i := 7) (own := [("one", 9)]) (by rfl) sc_second_table.nd rfl rfl (sw_true rfl rfl rfl (by decide +kernel)) (pi_listK K (pv 6)) (blkOk_by (by kernel_rfl)) (fun _ _ _ _ _ => (pg_name (i := 9) sc_second_table.nd rfl (Or.inl rfl))) (fun _ _ _ _ _ => pts_nil) (fun _ _ _ _ _ => (pe_cmp (pc_notN (pv 9)))))
  (pss_cons (ps_if (pt_cmpR (op_eqDK K hr.units) (pv 7) (pv 5) (nomark _)) (pss_one ps_break) pss_nil)
  (pss_one (ps_set (i := 5) sc_second_table.nd rfl (Or.inl rfl) (pv 7)))))))
  (pss_cons (ps_for PassesOwn.never (by rfl) (pi_range1 (by rfl) T.b_range (pa_cons (pv 1) pa_nil)) (pg_name (i := 8) sc_second_table.nd rfl (Or.inl rfl)) (pss_one (ps_if (PW.pt (pw_and (pt_cmp (pc_isN (pe_ix (ix_listK K) (pv 2) (pv 8) (fun _ _ => rfl)))) (pw_and1 (pt_cmp (pc_notN (pe_ix (ix_listK K) (pv 6) (pv 8) (fun _ _ => rfl))))))) (pss_one (ps_asg (pe_tup (pa_cons (pe_ix (ix_tupK K) (pe_ix (ix_listK K) (pv 6) (pv 8) (fun _ _ => rfl)) pe_int (fun _ _ => rfl)) (pa_cons (pv 4) (pa_cons (pe_ix (ix_tupK K) (pe_ix (ix_listK K) (pv 6) (pv 8) (fun _ _ => rfl)) pe_int (fun _ _ => rfl)) pa_nil)))) (pg_sub (pv 2) (pv 8) set_list))) pss_nil)))
  (pss_cons (ps_if (pt_cmpR (op_eqDK K hr.units) (pv 7) (pv 3) (nomark _)) (pss_one (ps_ret (pv 2))) pss_nil)
  (pss_one (ps_par (i := 3) (j := 4) (by rfl) sc_second_table.nd rfl rfl (by decide) rfl rfl (pa_cons (pv 7) (pa_cons (pe_op op_add (pv 4) pe_int) pa_nil)) (by rfl))))))))))), ?_⟩
    have a : At A0 G H G H _ [some (dat (eG g)), none, none, none, none, none, none, none, none, none] := At.begin (vs := [v1]) (N := N_second_table) (EnvOk.nil.skip.skip.skip.skip.skip.skip.skip.skip.skip.cons p1) sG trivial
    have hn : g.length ≤ 100000 := Nat.le_trans GS.1 (by decide)
    have hn2 : g.length ≤ 1000 := GS.1
    -- many = len(options)
    refine q_asg a ((xe_cb (xa_cons (xe_var rfl) xa_nil) xc_lenL).to (d' := .int (g.length : Int)) (by rw [List.length_map])) fun v2 G1 H1 st1 _ a1 => ?_
    -- table, resets, stage = ..
    refine q_par3Rep (ψ := dat (eBs (List.replicate g.length false))) (χ := dat (.int ((0 : Nat) : Int))) a1 (xe_lst1 xe_non) (xe_var rfl) hn (xa_cons ((xe_op (xe_lst1 xe_bl) (xe_var rfl) (xr_rep hn)).to (by simp [eBs])) (xa_cons xe_int xa_nil)) (fun L xs2 σ2 G2 H2 fL w2 r2 st2 a2 => ?_) (fun _ _ => nb0)
    -- while True
    refine s_while (fun m G' H' σ' => ∃ (old : List Bool) (t : Tab) (stage : Nat), t.length = g.length ∧ old.length = g.length ∧ ((m = 1 ∧ old = List.replicate g.length false ∧ t = List.replicate g.length none ∧ stage = 0) ∨ (m = 0 ∧ ∃ f, SEnd g (List.replicate g.length false) f ∧ old = lateF f ∧ t = tabOf f)) ∧ At A0 G H G' H' σ' [some (dat (eG g)), some (dat (.int (g.length : Int))), some (isV (.ref L)), some (dat (eBs old)), some (dat (.int (stage : Int))), none, none, none, none, none] ∧ ∃ xs, Own G' H' L (.lst xs) ∧ RpAll G' xs (t.map (eOpt eT3)))
      1 ⟨_, List.replicate g.length none, 0, by simp, by simp, .inl ⟨rfl, rfl, rfl, rfl⟩, a2.sub (by repeat' constructor), xs2, w2, by rw [List.map_replicate]; exact r2⟩ ?_
    rintro m G3 H3 σ3 ⟨old, t, stage, ht, ho, hm, a3, xs3, w3, r3⟩
    refine ⟨true, fun Q' q => ⟨true, rfl, q G3 H3 (Stp.refl a3.s)⟩, fun _ G4 H4 st4 => ?_, fun e => by cases e⟩
    have a4 := a3.step0 st4
    -- slips = [True] * many
    refine q_asg a4 ((xe_op (xe_lst1 xe_bl) (xe_var rfl) (xr_rep hn)).to (d' := eBs (List.replicate g.length true)) (by simp [eBs])) fun v5 G5 H5 st5 p5 a5 => ?_
    -- while True
    refine q_while (fun m G' H' σ' => ∃ s, SInv g old s ∧ m = cnt s ∧ At A0 G H G' H' σ' [some (dat (eG g)), some (dat (.int (g.length : Int))), some (isV (.ref L)), some (dat (eBs old)), some (dat (.int (stage : Int))), some (dat (eBs s)), none, none, none, none] ∧ ∃ xs, Own G' H' L (.lst xs) ∧ RpAll G' xs (t.map (eOpt eT3))) _ ⟨_, SInv.start g old, rfl, a5, xs3, (w3.step0 st4).step0 st5, (r3.mono st4.g).mono st5.g⟩ ?_
    rintro m6 G6 H6 σ6 ⟨s, I, rfl, a6, xs6, w6, r6⟩
    refine ⟨true, fun Q' q => ⟨true, rfl, q G6 H6 (Stp.refl a6.s)⟩, fun _ G7 H7 st7 => ?_, fun e => by cases e⟩
    have a7 := a6.step0 st7
    -- found = forced(..)
    refine q_asg (φ := ex (fun f => FSpec g s old f) fun f => dat (eF f)) a7 (xe_call (xa_cons (xe_var rfl) (xa_cons (xe_tup2 (xe_var rfl) (xe_var rfl)) (xa_cons (xe_var rfl) xa_nil))) fun vs H Q h => ⟨g, s, old, old, GO, GS, I.len, ho, ho, h⟩) fun v8 G8 H8 st8 _ a8 => ?_
    obtain ⟨f, FS, a8⟩ := a8.pick (i := 6) rfl
    -- late = [..]
    refine q_asg (φ := dat (eBs (lateF f))) a8 ((xe_lcAll (l := f) (ψ := fun o => dat (eOpt eQ o)) (E := fun o => .bool o.isSome) (js := [9]) (xi_listT (xe_var rfl)) (by rw [FS.len]; omega) (fun j hj => hj) fun o ho => ⟨xg_name (by simp), xe_notN (xe_var rfl) fun G v h => not_none_eF h⟩).to (by simp [eBs, lateF])) fun v9 G9 H9 st9 _ a9 => ?_
    -- if late == slips: break
    refine q_if a9 (xt_test (xe_op (xe_var rfl) (xe_var rfl) (xr_eqD (nice_bools.shaped (by decide) trivial) (nice_bools.shaped (by decide) trivial)))) (fun e G10 H10 st10 a10 => ?_) (fun e G10 H10 st10 a10 => ?_)
    · rw [nice_bools.eqv _ _ trivial trivial] at e
      have e2 : lateF f = s := of_decide_eq_true e
      have SE : SEnd g old f := ⟨by rw [e2]; exact FS, I.next FS⟩
      have htl : t.length = (tabStep t f stage).length := by rw [tabStep_len]
      have w10 := (((w6.step0 st7).step0 st8).step0 st9).step0 st10
      have r10 := (((r6.mono st7.g).mono st8.g).mono st9.g).mono st10.g
      -- for at in range(many)
      refine q_for (l := List.range g.length) a10 (xi_rangeT (xa_cons (xe_var rfl) xa_nil) hn)
        (fun i G' H' σ' => At A0 G H G' H' σ' [some (dat (eG g)), some (dat (.int (g.length : Int))), some (isV (.ref L)), some (dat (eBs old)), some (dat (.int (stage : Int))), none, some (dat (eF f)), some (dat (eBs (lateF f))), none, none] ∧ ∃ xs, Own G' H' L (.lst xs) ∧ RpAll G' xs (((tabStep t f stage).take i ++ t.drop i).map (eOpt eT3)))
        (fun i G1 H1 σ1 h => h.1.s) (fun G11 H11 st11 => ⟨(a10.step0 st11).sub (by repeat' constructor), xs6, w10.step0 st11, r10.mono st11.g⟩) ?_ ?_
      · rintro i x G11 H11 σ11 hx ⟨a11, xs11, w11, r11⟩ v12 G12 H12 st12 p12
        obtain ⟨hi, rfl⟩ := range_get hx
        have a12 := (a11.step0 st12).re ((a11.step0 st12).env.set 8 p12)
        have hti : x < t.length := by rw [ht]; exact hi
        have hfi : x < f.length := by rw [FS.len]; exact hi
        have hset := part_next htl (show (tabStep t f stage)[x]? = some (oat (tabStep t f stage) x) from oat_get (by rw [tabStep_len]; exact hti))
        have hget : ((tabStep t f stage).take x ++ t.drop x)[x]? = some (oat t x) := by rw [part_get htl, oat_get hti]
        have w12 := w11.step0 st12
        have r12 := r11.mono st12.g
        refine s_ifV (i := 2) (b := (oat t x).isNone && (oat f x).isSome) a12 w12 rfl r12 (xt_and (xt_B (xe_isN (xe_op (xe_var rfl) (xe_var rfl) (xr_ixLn (map_get hget))) fun G v h => none_eTb h)) fun _ => xt_B (xe_notN (xe_op (xe_var rfl) (xe_var rfl) (xr_ixLn (eF_get hfi))) fun G v h => not_none_eF h)) (fun e2 H13 st13 a13 => ?_) fun e2 H13 st13 a13 => ?_
        · obtain ⟨e3, e4⟩ := Bool.and_eq_true_iff.mp e2
          obtain ⟨y, hy⟩ := Option.isSome_iff_exists.mp e4
          have hfy : (f.map (eOpt eQ))[x]? = some (eQ y) := by rw [eF_get hfi, hy]; rfl
          have e5 : oat t x = none := Option.isNone_iff_eq_none.mp e3
          refine s_setI (e := .none) a13 (w12.step0 st13) fL nb0 rfl (xe_tup3 (d := .int (y.1 : Int)) (f := .int (y.2 : Int)) (xe_op (xe_op (xe_var rfl) (xe_var rfl) (xr_ixLn hfy)) xe_int (xr_ixTn (n := 0) rfl)) (xe_var rfl) (xe_op (xe_op (xe_var rfl) (xe_var rfl) (xr_ixLn hfy)) xe_int (xr_ixTn (n := 1) rfl))) (xe_var rfl) (by rw [r12.length, List.length_map, part_len htl]; exact hti) fun v14 G14 H14 st14 p14 a14 w14 => ?_
          refine ⟨G14, (st12.g.trans st13.g).trans st14.g, a14.sub (by repeat' constructor), _, w14, ?_⟩
          have e6 : oat (tabStep t f stage) x = some (y.1, stage, y.2) := by rw [tabStep_at hti, e5, hy]; rfl
          have := (r12.mono st14.g).set (v := v14) (d := eOpt eT3 (some (y.1, stage, y.2))) p14 x
          rw [← List.map_set, ← e6, hset] at this
          exact this
        · refine ⟨G12, st12.g, a13.sub (by repeat' constructor), xs11, w12.step0 st13, ?_⟩
          have e6 : oat (tabStep t f stage) x = oat t x := by
            rw [tabStep_at hti]
            cases h1 : oat t x with
            | some z => rfl
            | none =>
              rw [h1] at e2
              cases h2 : oat f x with
              | none => rfl
              | some y =>
                rw [h2] at e2
                cases e2
          have e7 : ((tabStep t f stage).take x ++ t.drop x).set x (oat (tabStep t f stage) x) = (tabStep t f stage).take x ++ t.drop x := by
            rw [e6]
            apply List.ext_getElem?
            intro z
            by_cases hz : x = z
            · subst hz
              rw [List.getElem?_set_self (by rw [part_len htl]; exact hti), hget]
            · rw [List.getElem?_set_ne hz]
          rw [← hset, e7]
          exact r12
      · rintro G11 H11 σ11 ⟨a11, xs11, w11, r11⟩
        have hlen : (List.range g.length).length = (tabStep t f stage).length := by rw [List.length_range, tabStep_len, ht]
        rw [hlen, List.take_length, ← htl, List.drop_length, List.append_nil] at r11
        -- if late == resets: return table
        refine q_if a11 (xt_test (xe_op (xe_var rfl) (xe_var rfl) (xr_eqD (nice_bools.shaped (by decide) trivial) (nice_bools.shaped (by decide) trivial)))) (fun e G12 H12 st12 a12 => ?_) (fun e G12 H12 st12 a12 => ?_)
        · obtain ⟨a13, sG13⟩ := a12.seal (w11.step0 st12) fL nb0
          have p13 : Rp (upd G12 L (.lst xs11)) (.ref L) (eTb (tabStep t f stage)) := .lst upd_same ((r11.mono st12.g).mono sG13)
          have a14 := a13.re (a13.env.put (j := 2) (a13.own (i := 2) rfl) (φ := dat (eTb (tabStep t f stage))) p13)
          refine s_ret a14 (xe_var rfl) fun v G15 H15 st15 _ p15 => ?_
          refine k v G15 H15 st15 trivial ⟨tabStep t f stage, ?_, p15⟩
          rcases hm with ⟨_, rfl, rfl, rfl⟩ | ⟨_, f0, SE0, rfl, rfl⟩
          · rw [tab_one f _ FS.len]
            exact tab_spec SE
          · rw [tab_two (second_stops SE0 SE)]
            exact tab_spec SE0
        · rw [nice_bools.eqv _ _ trivial trivial] at e
          have ne : lateF f ≠ old := of_decide_eq_false e
          refine s_par (φs := []) a12 (φ := dat (eBs (lateF f))) (ψ := dat (.int ((stage + 1 : Nat) : Int))) (xa_cons (xe_var rfl) (xa_cons ((xe_op (xe_var rfl) xe_int xr_add).to (by simp)) xa_nil)) fun v13 v14 G13 H13 st13 _ _ a13 => ?_
          rcases hm with ⟨rfl, rfl, rfl, rfl⟩ | ⟨_, f0, SE0, rfl, rfl⟩
          · exact ⟨0, G13, by omega, lateF f, _, 0 + 1, by rw [tabStep_len]; exact ht, by rw [lateF_len, FS.len], .inr ⟨rfl, f, SE, rfl, tab_one f _ FS.len⟩, a13.sub (by repeat' constructor), xs11, (w11.step0 st12).step0 st13, (r11.mono st12.g).mono st13.g⟩
          · exact absurd (second_stops SE0 SE) ne
    · rw [nice_bools.eqv _ _ trivial trivial] at e
      have ne : lateF f ≠ s := of_decide_eq_false e
      refine s_asg a10 (xe_var rfl) fun v11 G11 H11 st11 p11 a11 => ?_
      exact ⟨_, G11, second_falls I FS ne, lateF f, I.next FS, rfl, a11.sub (by repeat' constructor), xs6, ((((w6.step0 st7).step0 st8).step0 st9).step0 st10).step0 st11, ((((r6.mono st7.g).mono st8.g).mono st9.g).mono st10.g).mono st11.g⟩
end
end Ls
/-! Enc2 -/
set_option maxHeartbeats 4000000
/-! Data of words, automata and boards. -/
namespace Ls
open PySem PySem.Spec PyProof.Rows L2 PySem.W
def sg (c : Nat) : Str := ⟨#[c]⟩
def aS (cs : List Nat) : Str := ⟨cs.toArray⟩
theorem aS_len (cs : List Nat) : (aS cs).length = cs.length := by
  show cs.toArray.size = _
  simp
theorem aS_list (cs : List Nat) : (aS cs).cps.toList = cs := by
  show cs.toArray.toList = _
  simp
theorem sg_len (c : Nat) : (sg c).length = 1 := rfl
theorem sg_inj {c d : Nat} : sg c = sg d ↔ c = d := by
  constructor
  · intro h
    have := congrArg (fun z => z.cps.toList) h
    simpa [sg] using this
  · intro h
    rw [h]
def wS (b : Bool) : Str := if b then "slip" else "safe"
theorem wS_inj {a b : Bool} : wS a = wS b ↔ a = b := by
  cases a <;> cases b <;> decide +kernel
theorem wS_lay (b : Bool) : PyData.canLay0 (.str (wS b)) = true := by cases b <;> decide +kernel
structure AlOk (cs : List Nat) : Prop where
  one : 1 ≤ cs.length
  three : cs.length ≤ 3
  low : ∀ c ∈ cs, 97 ≤ c ∧ c ≤ 122
  up : cs.Pairwise (· < ·)
abbrev LET : Str := "abcdefghijklmnopqrstuvwxyz"
theorem let_mem {c : Nat} (h : 97 ≤ c ∧ c ≤ 122) : c ∈ LET.cps.toList := by
  have q : ∀ i : _root_.Fin 26, (97 + i.val) ∈ LET.cps.toList := by decide +kernel
  have := q ⟨c - 97, by omega⟩
  rw [show 97 + (c - 97) = c by omega] at this
  exact this
theorem let_sign {c : Nat} (h : 97 ≤ c ∧ c ≤ 122) : PyData.canLay0 (.str (sg c)) = true := by
  have q : ∀ i : _root_.Fin 26, PyData.canLay0 (.str (sg (97 + i.val))) = true := by decide +kernel
  have := q ⟨c - 97, by omega⟩
  rw [show 97 + (c - 97) = c by omega] at this
  exact this
/-! ### rows of an automaton -/
abbrev Tr := Nat × Nat × Nat × Bool
def eTr (t : Tr) : PyData := .tuple [.int (t.1 : Int), .str (sg t.2.1), .int (t.2.2.1 : Int), .str (wS t.2.2.2)]
def eMv (m : Nat × Bool) : PyData := .tuple [.int (m.1 : Int), .str (wS m.2)]
structure TrOk (n : Nat) (cs : List Nat) (t : Tr) : Prop where
  s : t.1 < n
  c : t.2.1 ∈ cs
  t : t.2.2.1 < n
def kSC (s c : Nat) : TKey := [.inl (s : Int), .inr (sg c)]
def kNN (a b : Nat) : TKey := [.inl (a : Int), .inl (b : Int)]
def kT3 (a c b : Nat) : TKey := [.inl (a : Int), .inr (sg c), .inl (b : Int)]
theorem kSC_inj {s c s' c' : Nat} : kSC s c = kSC s' c' ↔ s = s' ∧ c = c' := by
  constructor
  · intro h
    unfold kSC at h
    obtain ⟨h1, h2⟩ := List.cons.inj h
    obtain ⟨h3, _⟩ := List.cons.inj h2
    have e1 := Sum.inl.inj h1
    exact ⟨by omega, sg_inj.mp (Sum.inr.inj h3)⟩
  · rintro ⟨rfl, rfl⟩
    rfl
theorem kNN_inj {s c s' c' : Nat} : kNN s c = kNN s' c' ↔ s = s' ∧ c = c' := by
  constructor
  · intro h
    unfold kNN at h
    obtain ⟨h1, h2⟩ := List.cons.inj h
    obtain ⟨h3, _⟩ := List.cons.inj h2
    have e1 := Sum.inl.inj h1
    have e2 := Sum.inl.inj h3
    omega
  · rintro ⟨rfl, rfl⟩
    rfl
theorem kT3_inj {a c b a' c' b' : Nat} : kT3 a c b = kT3 a' c' b' ↔ a = a' ∧ c = c' ∧ b = b' := by
  constructor
  · intro h
    unfold kT3 at h
    obtain ⟨h1, h2⟩ := List.cons.inj h
    obtain ⟨h3, h4⟩ := List.cons.inj h2
    obtain ⟨h5, _⟩ := List.cons.inj h4
    have e1 := Sum.inl.inj h1
    have e2 := Sum.inl.inj h5
    exact ⟨by omega, sg_inj.mp (Sum.inr.inj h3), by omega⟩
  · rintro ⟨rfl, rfl, rfl⟩
    rfl
/-! ### dicts by (number, letter) -/
def mapG (dom : Nat → Nat → Bool) (g : Nat → Nat → PyData) : DFn := fun k => match k with
  | [.inl i, .inr x] => match x.cps.toList with
    | [c] => if 0 ≤ i ∧ dom i.toNat c = true then some (g i.toNat c) else none
    | _ => none
  | _ => none
theorem mapG_at {dom : Nat → Nat → Bool} {g : Nat → Nat → PyData} {s c : Nat} : mapG dom g (kSC s c) = if dom s c = true then some (g s c) else none := by
  show (if 0 ≤ (s : Int) ∧ dom (s : Int).toNat c = true then some (g (s : Int).toNat c) else none) = _
  rw [Int.toNat_natCast]
  by_cases h : dom s c = true
  · rw [if_pos h, if_pos ⟨by omega, h⟩]
  · rw [if_neg h, if_neg fun z => h z.2]
theorem mapG_key {dom : Nat → Nat → Bool} {g : Nat → Nat → PyData} {k : TKey} {d : PyData} (h : mapG dom g k = some d) : ∃ s c, k = kSC s c ∧ dom s c = true ∧ d = g s c := by
  unfold mapG at h
  split at h
  · rename_i i x
    split at h
    · rename_i c hx
      by_cases q : 0 ≤ i ∧ dom i.toNat c = true
      · rw [if_pos q] at h
        refine ⟨i.toNat, c, ?_, q.2, (Option.some.inj h).symm⟩
        have ex : x = sg c := by
          obtain ⟨a⟩ := x
          have : a.toList = [c] := hx
          have e2 : a = #[c] := by
            apply Array.toList_inj.mp
            rw [this]
          rw [e2]
          rfl
        rw [ex]
        unfold kSC
        rw [Int.toNat_of_nonneg q.1]
      · rw [if_neg q] at h
        cases h
    · cases h
  · cases h
theorem mapG_put {dom : Nat → Nat → Bool} {g : Nat → Nat → PyData} {s c : Nat} {d : PyData} : putF (mapG dom g) (kSC s c) d = mapG (fun a b => dom a b || (decide (a = s) && decide (b = c))) (fun a b => if a = s ∧ b = c then d else g a b) := by
  funext k
  unfold putF
  by_cases h : k = kSC s c
  · rw [if_pos h, h, mapG_at, if_pos (by simp), if_pos ⟨rfl, rfl⟩]
  · rw [if_neg h]
    cases e : mapG dom g k with
    | some x =>
      obtain ⟨a, b, rfl, hd, rfl⟩ := mapG_key e
      have ne : ¬ (a = s ∧ b = c) := fun z => h (kSC_inj.mpr z)
      rw [mapG_at, if_pos (by rw [hd]; rfl), if_neg ne]
    | none =>
      cases e2 : mapG (fun a b => dom a b || (decide (a = s) && decide (b = c))) (fun a b => if a = s ∧ b = c then d else g a b) k with
      | none => rfl
      | some y =>
        obtain ⟨a, b, rfl, hd, rfl⟩ := mapG_key e2
        have ne : ¬ (a = s ∧ b = c) := fun z => h (kSC_inj.mpr z)
        rw [mapG_at] at e
        by_cases q : dom a b = true
        · rw [if_pos q] at e
          cases e
        · have q2 : dom a b = false := by simpa using q
          rw [q2] at hd
          simp at hd
          exact absurd hd ne
theorem mapG_ext {dom dom' : Nat → Nat → Bool} {g g' : Nat → Nat → PyData} (h : ∀ a b, dom a b = dom' a b) (h2 : ∀ a b, dom a b = true → g a b = g' a b) : mapG dom g = mapG dom' g' := by
  funext k
  cases e : mapG dom g k with
  | some d =>
    obtain ⟨s, c, rfl, hd, rfl⟩ := mapG_key e
    rw [mapG_at, if_pos (by rw [← h]; exact hd), h2 s c hd]
  | none =>
    cases e2 : mapG dom' g' k with
    | none => rfl
    | some d =>
      obtain ⟨s, c, rfl, hd, rfl⟩ := mapG_key e2
      rw [mapG_at, if_pos (by rw [h]; exact hd)] at e
      cases e
/-! ### what was seen -/
def setF (ks : List TKey) : DFn := fun k => if (ks.any fun z => decide (z = k)) = true then some (.bool true) else none
theorem setF_nil : (fun _ => none : DFn) = setF [] := by
  funext k
  unfold setF
  rw [if_neg (by simp)]
theorem setF_put {ks : List TKey} {k : TKey} : putF (setF ks) k (.bool true) = setF (ks ++ [k]) := by
  funext j
  unfold putF setF
  by_cases h : j = k
  · subst h
    rw [if_pos rfl, if_pos (by simp)]
  · have h2 : ¬ k = j := fun e => h e.symm
    rw [if_neg h]
    cases q : ks.any fun z => decide (z = j) with
    | true => simp [q]
    | false => simp [q, h2]
theorem setF_no {ks : List TKey} {k : TKey} (h : k ∉ ks) : (setF ks k).isSome = false := by
  unfold setF
  have : (ks.any fun z => decide (z = k)) = false := by
    rw [List.any_eq_false]
    intro z hz e
    rw [of_decide_eq_true e] at hz
    exact h hz
  rw [this]
  rfl
/-! ### automata -/
structure Aut where
  cs : List Nat
  n : Nat
  trs : List Tr
  ini : Nat
def mvs (trs : List Tr) (s c : Nat) : List (Nat × Bool) := (trs.filter fun t => decide (t.1 = s) && decide (t.2.1 = c)).map fun t => t.2.2
structure AutOk (a : Aut) : Prop where
  al : AlOk a.cs
  one : 1 ≤ a.n
  most : a.n ≤ 65
  ini : a.ini < a.n
  ok : ∀ t ∈ a.trs, TrOk a.n a.cs t
  nd : (a.trs.map fun t => kT3 t.1 t.2.1 t.2.2.1).Nodup
  all : ∀ s c, s < a.n → c ∈ a.cs → mvs a.trs s c ≠ []
  sm : a.trs.length ≤ 1000
def inDom (n : Nat) (cs : List Nat) (s c : Nat) : Bool := decide (s < n) && decide (c ∈ cs)
/-- the moves in their order -/
def mvD (trs : List Tr) (s c : Nat) : PyData := .list (sortD ((mvs trs s c).map eMv))
def autF (a : Aut) : DFn := mapG (inDom a.n a.cs) (mvD a.trs)
theorem mvD_map (trs : List Tr) (s c : Nat) : ∃ m : List (Nat × Bool), m.Perm (mvs trs s c) ∧ mvD trs s c = .list (m.map eMv) := by
  obtain ⟨m, p, e⟩ := sortD_map eMv (mvs trs s c)
  exact ⟨m, p, by unfold mvD; rw [e]⟩
end Ls
/-! F7 -/
set_option maxHeartbeats 4000000
namespace Ls
open PySem PySem.Spec PyProof.Rows L2
section
variable {P : Program} {w : World} {K : PySem.W.Frag} {mg : Str → Option Value} {base : Heap}
/-- an automaton that stands -/
abbrev autS (K : PySem.W.Frag) (a : Aut) : SP := insS (He.ga K "Automaton") ["alphabet", "size", "initial", "own_moves"] [dat (.str (aS a.cs)), dat (.int (a.n : Int)), dat (.int (a.ini : Int)), dicS (autF a)]
theorem wS_mem (b : Bool) : wS b ∈ (["safe", "slip"] : List Str) := by
  cases b
  · exact List.mem_cons_self
  · exact List.mem_cons_of_mem _ List.mem_cons_self
theorem all_true {α : Type} (l : List α) : (l.map fun _ => true).all id = true := by
  rw [List.all_eq_true]
  intro x hx
  obtain ⟨_, _, rfl⟩ := List.mem_map.mp hx
  rfl
/-! ### is_word -/
def sp_is_word : Sp := fun vs H Q E => ∃ cs : List Nat, (∀ c ∈ cs, 97 ≤ c ∧ c ≤ 122) ∧ cs.length ≤ 200 ∧ spA A0 [dat (.str (aS cs)), dat (.int 200)] (dat (.bool true)) vs H Q E
abbrev N_is_word : List Str := ["value", "most", "letter"]
theorem sc_is_word : FnScope ["value", "most", "letter"] ["value", "most"] (defScope s_is_word) := ⟨rfl, rfl, rfl, by decide +kernel, rfl, by decide +kernel, by decide +kernel⟩
theorem ok_is_word {f : Addr} {fd : FuncData} (F : FnP K "is_word" "is_word" s_is_word [.int 200] [] f fd) (T : Fx K mg) : FnOk P w K mg base CX0 1 f fd ["value", "most"] sp_is_word := by
  refine F.ok sc_is_word (fun vs H Q E h => ?_) (fun cdv A outer st H vs Q E hr h => ?_)
  · obtain ⟨_, _, _, h⟩ := h
    exact spA_len h
  · obtain ⟨cs, low, hl, G, sG, _, ps, k⟩ := h
    obtain ⟨v1, v2, rfl, p1, p2⟩ := ps_two ps
    refine ⟨_, PSs.nox (pss_one (ps_ret (pe_and (pe_callB (call_isiK' K) (by rfl) T.b_isinstance bt_isinstance (pa_cons (pv 0) (pa_cons (pe_bty "str" (by rfl) T.b_str bt_str) pa_nil))) (pe_and (pe_cmpR op_le (pe_callB call_lenS (by rfl) T.b_len PySem.boot_len (pa_cons (pv 0) pa_nil)) (pv 1) (nomark _)) (pe_one (pe_callB (cr_allK K rfl) (by rfl) T.b_all bt_all (pa_cons (pe_lc (own := [("letter", 2)]) (by rfl) sc_is_word.nd (pi_str (pv 0)) (blkOk_by (by kernel_rfl)) (fun _ _ _ _ _ => (pg_name (i := 2) sc_is_word.nd rfl (Or.inl rfl))) (fun _ _ _ _ _ => pts_nil) (fun _ _ _ _ _ => (pe_cmpR op_in_sign (pv 2) (pe_gstr rfl T.mLET) (by rfl)))) pa_nil))))))), ?_⟩
    have a : At A0 G H G H _ [some (dat (.str (aS cs))), some (dat (.int 200)), none] := At.begin (vs := [v1, v2]) (N := N_is_word) ((EnvOk.nil.skip.cons p2).cons p1) sG trivial
    refine s_ret a (xe_and (a := true) (b := true) (xe_cb (xa_cons (xe_var rfl) (xa_cons xe_cv xa_nil)) (xc_isi (by simp) kit_same)) fun _ => xe_and (a := true) (b := true) ((xe_op (xe_cb (xa_cons (xe_var rfl) xa_nil) (xc_lenS (by rw [aS_len]; omega))) (xe_var rfl) xr_le).to (by rw [aS_len, decide_eq_true (by omega)])) fun _ => XE.to (d := .bool ((cs.map fun _ => true).all id)) (xe_cb (xa_cons (XE.to (xe_lcAll (l := (aS cs).cps.toList) (ψ := fun c => dat (.str (sg c))) (E := fun c => .bool true) (js := [2]) (xi_strT (xe_var rfl)) (by rw [aS_list]; omega) (fun j hj => hj) fun c hc => ⟨xg_name (by simp), (xe_op (xe_var rfl) xe_str xr_inSg).to (by rw [decide_eq_true (let_mem (low c (by rw [aS_list] at hc; exact hc)))])⟩) (by rw [aS_list, List.map_map]; rfl)) xa_nil) xc_all) (by rw [all_true])) fun v G2 H2 st _ p => ?_
    exact k v G2 H2 st trivial p
/-! ### is_alphabet -/
def sp_is_alphabet : Sp := fun vs H Q E => ∃ cs : List Nat, AlOk cs ∧ spA A0 [dat (.str (aS cs))] (dat (.bool true)) vs H Q E
abbrev N_is_alphabet : List Str := ["value", "at"]
theorem sc_is_alphabet : FnScope ["value", "at"] ["value"] (defScope s_is_alphabet) := ⟨rfl, rfl, rfl, by decide +kernel, rfl, by decide +kernel, by decide +kernel⟩
theorem ok_is_alphabet {f : Addr} {fd : FuncData} (F : FnP K "is_alphabet" "is_alphabet" s_is_alphabet [] [] f fd) (T : Fx K mg) (F_is_word : Fn P w K mg base "is_word" 1 ["value", "most"] [.int 200] sp_is_word) : FnOk P w K mg base CX0 2 f fd ["value"] sp_is_alphabet := by
  refine F.ok sc_is_alphabet (fun vs H Q E h => ?_) (fun cdv A outer st H vs Q E hr h => ?_)
  · obtain ⟨_, _, h⟩ := h
    exact spA_len h
  · obtain ⟨cs, al, G, sG, _, ps, k⟩ := h
    obtain ⟨v1, rfl, p1⟩ := ps_one ps
    refine ⟨_, PSs.nox (pss_cons (ps_if (PW.pt (pw_or (pt_not (pt_val (pe_callB (call_isiK' K) (by rfl) T.b_isinstance bt_isinstance (pa_cons (pv 0) (pa_cons (pe_bty "str" (by rfl) T.b_str bt_str) pa_nil))))) (pw_or1 (pt_not (pt_chain op_le op_le pe_int (pe_callB call_lenS (by rfl) T.b_len PySem.boot_len (pa_cons (pv 0) pa_nil)) pe_int))))) (pss_one (ps_ret pe_bl)) pss_nil)
  (pss_one (ps_ret (pe_and (pe_fnD F_is_word (hr.mono (by decide)) rfl (pa_cons (pv 0) pa_nil)) (pe_one (pe_callB (cr_allK K rfl) (by rfl) T.b_all bt_all (pa_cons (pe_lc (own := [("at", 1)]) (by rfl) sc_is_alphabet.nd (pi_range2 (by rfl) T.b_range (pa_cons pe_int (pa_cons (pe_callB call_lenS (by rfl) T.b_len PySem.boot_len (pa_cons (pv 0) pa_nil)) pa_nil))) (blkOk_by (by kernel_rfl)) (fun _ _ _ _ _ => (pg_name (i := 1) sc_is_alphabet.nd rfl (Or.inl rfl))) (fun _ _ _ _ _ => pts_nil) (fun _ _ _ _ _ => (pe_cmpR op_lt_str (pe_ix ix_str (pv 0) (pe_op op_sub (pv 1) pe_int) (fun _ _ => rfl)) (pe_ix ix_str (pv 0) (pv 1) (fun _ _ => rfl)) (nomark _)))) pa_nil))))))), ?_⟩
    have a : At A0 G H G H _ [some (dat (.str (aS cs))), none] := At.begin (vs := [v1]) (N := N_is_alphabet) (EnvOk.nil.skip.cons p1) sG trivial
    have h1 := al.one
    have h3 := al.three
    refine q_no a (XT.to (xt_or (a := false) ((xt_not (b := true) (xt_B (xe_cb (xa_cons (xe_var rfl) (xa_cons xe_cv xa_nil)) (xc_isi (by simp) kit_same))))) fun _ => xt_not (b := true) (xt_test ((xe_chain xe_int (xe_cb (xa_cons (xe_var rfl) xa_nil) (xc_lenS (by rw [aS_len]; omega))) xr_le (fun _ => xe_int) (fun _ => xr_le)).to (by rw [aS_len, decide_eq_true (by omega), decide_eq_true (by omega)]; rfl)))) rfl) fun G1 H1 st1 a1 => ?_
    refine s_ret a1 (xe_and (a := true) (b := true) (xe_callD (δs := [dat (.int 200)]) (xa_cons (xe_var rfl) xa_nil) (fun G => .cons (.int _) .nil) fun vs H Q h => ⟨cs, al.low, by omega, h⟩) fun _ => XE.to (d := .bool (((List.range (cs.length - 1)).map fun _ => true).all id)) (xe_cb (xa_cons (XE.to (xe_lcAll (l := List.range (cs.length - 1)) (ψ := fun i : Nat => dat (.int ((1 + i : Nat) : Int))) (E := fun c => .bool true) (js := [1]) (xi_rng2 (lo := 1) (n := cs.length) (xa_cons xe_int (xa_cons ((xe_cb (xa_cons (xe_var rfl) xa_nil) (xc_lenS (by rw [aS_len]; omega))).to (by rw [aS_len])) xa_nil)) (by omega) (by omega)) (by rw [List.length_range]; omega) (fun j hj => hj) fun i hi => ⟨xg_name (by simp), ?_⟩) (by rw [List.map_map]; rfl)) xa_nil) xc_all) (by rw [all_true])) fun v G2 H2 st _ p => ?_
    · have hi := List.mem_range.mp hi
      have lt1 : i < cs.length := by omega
      have lt2 : i + 1 < cs.length := by omega
      refine XE.to (xe_op (xe_op (xe_var rfl) (xe_op (xe_var rfl) xe_int xr_sub) (xr_ixS (c := cs[i]) (by rw [aS_len]; omega) (by omega) (by rw [aS_list, show (((1 + i : Nat) : Int) - 1).toNat = i by omega]; exact List.getElem?_eq_getElem lt1))) (xe_op (xe_var rfl) (xe_var rfl) (xr_ixS (c := cs[i + 1]) (by rw [aS_len]; omega) (by omega) (by rw [aS_list, show (((1 + i : Nat) : Int)).toNat = i + 1 by omega]; exact List.getElem?_eq_getElem lt2))) xr_ltSg) ?_
      have lt := List.pairwise_iff_getElem.mp al.up i (i + 1) lt1 lt2 (Nat.lt_succ_self i)
      have : ([cs[i]] : List Nat) < [cs[i + 1]] := List.Lex.rel lt
      rw [show (#[cs[i]] : Array Nat).toList = [cs[i]] from rfl, show (#[cs[i + 1]] : Array Nat).toList = [cs[i + 1]] from rfl, decide_eq_true this]
    · exact k v G2 H2 st trivial p
/-! ### is_transition -/
def sp_is_transition : Sp := fun vs H Q E => ∃ (t : Tr) (cs : List Nat) (n : Nat), AlOk cs ∧ n ≤ 65 ∧ TrOk n cs t ∧ spA A0 [dat (eTr t), dat (.str (aS cs)), dat (.int (n : Int))] (dat (.bool true)) vs H Q E
abbrev N_is_transition : List Str := ["value", "alphabet", "size", "source", "letter", "target", "word"]
theorem sc_is_transition : FnScope ["value", "alphabet", "size", "source", "letter", "target", "word"] ["value", "alphabet", "size"] (defScope s_is_transition) := ⟨rfl, rfl, rfl, by decide +kernel, rfl, by decide +kernel, by decide +kernel⟩
theorem ok_is_transition {f : Addr} {fd : FuncData} (F : FnP K "is_transition" "is_transition" s_is_transition [] [] f fd) (T : Fx K mg) (F_is_number : Fn P w K mg base "is_number" 1 ["value", "least", "most"] [] sp_is_number) : FnOk P w K mg base CX0 2 f fd ["value", "alphabet", "size"] sp_is_transition := by
  refine F.ok sc_is_transition (fun vs H Q E h => ?_) (fun cdv A outer st H vs Q E hr h => ?_)
  · obtain ⟨_, _, _, _, _, _, h⟩ := h
    exact spA_len h
  · obtain ⟨t, cs, n, al, hn, ok, G, sG, _, ps, k⟩ := h
    obtain ⟨v1, v2, v3, rfl, p1, p2, p3⟩ := ps_three ps
    refine ⟨_, PSs.nox (pss_cons (ps_if (PW.pt (pw_or (pt_not (pt_val (pe_callB (call_isiK' K) (by rfl) T.b_isinstance bt_isinstance (pa_cons (pv 0) (pa_cons (pe_bty "tuple" (by rfl) T.b_tuple bt_tuple) pa_nil))))) (pw_or1 (pt_cmpR op_ne (pe_callB (call_lenK K) (by rfl) T.b_len PySem.boot_len (pa_cons (pv 0) pa_nil)) pe_int (nomark _))))) (pss_one (ps_ret pe_bl)) pss_nil)
  (pss_cons (ps_asg (pv 0) (pg_tupK K (n := 4) (by rfl) (pgs_cons (pg_name (i := 3) sc_is_transition.nd rfl (Or.inl rfl)) (pgs_cons (pg_name (i := 4) sc_is_transition.nd rfl (Or.inl rfl)) (pgs_cons (pg_name (i := 5) sc_is_transition.nd rfl (Or.inl rfl)) (pgs_cons (pg_name (i := 6) sc_is_transition.nd rfl (Or.inl rfl)) pgs_nil))))))
  (pss_cons (ps_if (PW.pt (pw_or (pt_not (pt_val (pe_callB (call_isiK' K) (by rfl) T.b_isinstance bt_isinstance (pa_cons (pv 4) (pa_cons (pe_bty "str" (by rfl) T.b_str bt_str) pa_nil))))) (pw_or (pt_cmpR op_ne (pe_callB call_lenS (by rfl) T.b_len PySem.boot_len (pa_cons (pv 4) pa_nil)) pe_int (nomark _)) (pw_or1 (pt_cmpR op_notIn_sign (pv 4) (pv 1) (by rfl)))))) (pss_one (ps_ret pe_bl)) pss_nil)
  (pss_cons (ps_if (PW.pt (pw_or (pt_not (pt_val (pe_callB (call_isiK' K) (by rfl) T.b_isinstance bt_isinstance (pa_cons (pv 6) (pa_cons (pe_bty "str" (by rfl) T.b_str bt_str) pa_nil))))) (pw_or1 (pt_cmpR (op_notIn_seqK K) (pv 6) (pe_tup (pa_cons (pe_gstr rfl T.mSAFE) (pa_cons (pe_gstr rfl T.mSLIP) pa_nil))) (by rfl))))) (pss_one (ps_ret pe_bl)) pss_nil)
  (pss_one (ps_ret (pe_and (pe_fn F_is_number (hr.mono (by decide)) rfl (pa_cons (pv 3) (pa_cons pe_int (pa_cons (pe_op op_sub (pv 2) pe_int) pa_nil)))) (pe_one (pe_fn F_is_number (hr.mono (by decide)) rfl (pa_cons (pv 5) (pa_cons pe_int (pa_cons (pe_op op_sub (pv 2) pe_int) pa_nil)))))))))))), ?_⟩
    have a : At A0 G H G H _ [some (dat (eTr t)), some (dat (.str (aS cs))), some (dat (.int (n : Int))), none, none, none, none] := At.begin (vs := [v1, v2, v3]) (N := N_is_transition) (((EnvOk.nil.skip.skip.skip.skip.cons p3).cons p2).cons p1) sG trivial
    have h3 := al.three
    refine q_no a (XT.to (xt_or (a := false) ((xt_not (b := true) (xt_B (xe_cb (xa_cons (xe_var rfl) (xa_cons xe_cv xa_nil)) (xc_isi (d := eTr t) (by simp [eTr]) kit_same))))) fun _ => xt_test ((xe_op (xe_cb (xa_cons (xe_var (φ := dat (.tuple [.int (t.1 : Int), .str (sg t.2.1), .int (t.2.2.1 : Int), .str (wS t.2.2.2)])) rfl) xa_nil) xc_lenT) xe_int xr_neI).to (d' := .bool false) rfl)) rfl) fun G1 H1 st1 a1 => ?_
    refine q_asgG (js := [3, 4, 5, 6]) a1 (xe_var (φ := dat (.tuple [.int (t.1 : Int), .str (sg t.2.1), .int (t.2.2.1 : Int), .str (wS t.2.2.2)])) rfl) (xg_tup (ds := [.int (t.1 : Int), .str (sg t.2.1), .int (t.2.2.1 : Int), .str (wS t.2.2.2)]) (xgs_cons (xg_name (by simp)) (xgs_cons (xg_name (by simp)) (xgs_cons (xg_name (by simp)) (xgs_cons (xg_name (by simp)) xgs_nil)))) rfl) fun σ2 G2 H2 st2 _ a2 => ?_
    refine q_no a2 (XT.to (xt_or (a := false) ((xt_not (b := true) (xt_B (xe_cb (xa_cons (xe_var rfl) (xa_cons xe_cv xa_nil)) (xc_isi (by simp) kit_same))))) fun _ => xt_or (a := false) (xt_test ((xe_op (xe_cb (xa_cons (xe_var rfl) xa_nil) (xc_lenS (by rw [sg_len]; omega))) xe_int xr_neI).to (d' := .bool false) (by rw [sg_len]; rfl))) fun _ => xt_test ((xe_op (xe_var rfl) (xe_var rfl) xr_notInSg).to (d' := .bool false) (by rw [aS_list, decide_eq_true ok.c]; rfl))) rfl) fun G3 H3 st3 a3 => ?_
    refine q_no a3 (XT.to (xt_or (a := false) ((xt_not (b := true) (xt_B (xe_cb (xa_cons (xe_var rfl) (xa_cons xe_cv xa_nil)) (xc_isi (by simp) kit_same))))) fun _ => xt_test ((xe_op (xe_var rfl) (xe_tup2 xe_str xe_str) (xr_notInT (zs := ["safe", "slip"]))).to (d' := .bool false) (by rw [decide_eq_true (wS_mem _)]; rfl))) rfl) fun G4 H4 st4 a4 => ?_
    have num : ∀ m : Nat, m < n → (decide ((0 : Int) ≤ (m : Int)) && decide ((m : Int) ≤ (n : Int) - 1)) = true := fun m hm => by rw [decide_eq_true (by omega), decide_eq_true (by omega)]; rfl
    refine s_ret a4 (xe_and (a := true) (b := true) (XE.to (xe_call (φ := dat (.bool (decide ((0 : Int) ≤ (t.1 : Int)) && decide ((t.1 : Int) ≤ (n : Int) - 1)))) (xa_cons (xe_var rfl) (xa_cons xe_int (xa_cons (xe_op (xe_var rfl) xe_int xr_sub) xa_nil))) fun vs H Q h => ⟨_, _, _, h⟩) (by rw [num _ ok.s])) fun _ => XE.to (xe_call (φ := dat (.bool (decide ((0 : Int) ≤ (t.2.2.1 : Int)) && decide ((t.2.2.1 : Int) ≤ (n : Int) - 1)))) (xa_cons (xe_var rfl) (xa_cons xe_int (xa_cons (xe_op (xe_var rfl) xe_int xr_sub) xa_nil))) fun vs H Q h => ⟨_, _, _, h⟩) (by rw [num _ ok.t])) fun v G5 H5 st5 _ p => ?_
    exact k v G5 H5 st5 trivial p
/-! ### methods that look -/
def sp_a_check_state (K : PySem.W.Frag) : Sp := fun vs H Q E => ∃ (a : Aut) (s : Nat), AutOk a ∧ s < a.n ∧ spA A0 [autS K a, dat (.int (s : Int))] (dat .none) vs H Q E
theorem sc_a_check_state : FnScope ["self", "state"] ["self", "state"] (defScope s_a_check_state) := ⟨rfl, rfl, rfl, by decide +kernel, rfl, by decide +kernel, by decide +kernel⟩
theorem ok_a_check_state {f : Addr} {fd : FuncData} (F : FnP K "check_state" "Automaton.check_state" s_a_check_state [] [] f fd) (T : Fx K mg) (F_is_number : Fn P w K mg base "is_number" 1 ["value", "least", "most"] [] sp_is_number) : FnOk P w K mg base CX0 2 f fd ["self", "state"] (sp_a_check_state K) := by
  refine F.ok sc_a_check_state (fun vs H Q E h => ?_) (fun cdv A outer st H vs Q E hr h => ?_)
  · obtain ⟨_, _, _, _, h⟩ := h
    exact spA_len h
  · obtain ⟨au, s, ok, hs, G, sG, _, ps, k⟩ := h
    obtain ⟨v1, v2, rfl, p1, p2⟩ := ps_two ps
    refine ⟨_, PSs.nox (pss_one (ps_if (pt_not (pt_val (pe_fn F_is_number (hr.mono (by decide)) rfl (pa_cons (pv 1) (pa_cons pe_int (pa_cons (pe_op op_sub (pe_fldK K (pv 0) rfl) pe_int) pa_nil)))))) (pss_one ps_never) pss_nil)), ?_⟩
    have a : At A0 G H G H _ [some (autS K au), some (dat (.int (s : Int)))] := At.begin (vs := [v1, v2]) (N := ["self", "state"]) ((EnvOk.nil.cons p2).cons p1) sG trivial
    refine s_no a (XT.to (xt_not (b := true) (xt_B (XE.to (xe_call (φ := dat (.bool (decide ((0 : Int) ≤ (s : Int)) && decide ((s : Int) ≤ (au.n : Int) - 1)))) (xa_cons (xe_var rfl) (xa_cons xe_int (xa_cons (xe_op (xe_fld (i := 1) (xe_var rfl) T.c_Automaton T.n_a2 (by decide +kernel) rfl) xe_int xr_sub) xa_nil))) fun vs H Q h => ⟨_, _, _, h⟩) (by rw [decide_eq_true (by omega), decide_eq_true (by omega)]; rfl)))) rfl) fun G1 H1 st1 a1 => ?_
    exact k .non G1 H1 st1 trivial .non
def sp_a_check_letter (K : PySem.W.Frag) : Sp := fun vs H Q E => ∃ (a : Aut) (c : Nat), AutOk a ∧ c ∈ a.cs ∧ spA A0 [autS K a, dat (.str (sg c))] (dat .none) vs H Q E
theorem sc_a_check_letter : FnScope ["self", "letter"] ["self", "letter"] (defScope s_a_check_letter) := ⟨rfl, rfl, rfl, by decide +kernel, rfl, by decide +kernel, by decide +kernel⟩
theorem ok_a_check_letter {f : Addr} {fd : FuncData} (F : FnP K "check_letter" "Automaton.check_letter" s_a_check_letter [] [] f fd) (T : Fx K mg) : FnOk P w K mg base CX0 1 f fd ["self", "letter"] (sp_a_check_letter K) := by
  refine F.ok sc_a_check_letter (fun vs H Q E h => ?_) (fun cdv A outer st H vs Q E hr h => ?_)
  · obtain ⟨_, _, _, _, h⟩ := h
    exact spA_len h
  · obtain ⟨au, c, ok, hc, G, sG, _, ps, k⟩ := h
    obtain ⟨v1, v2, rfl, p1, p2⟩ := ps_two ps
    refine ⟨_, PSs.nox (pss_one (ps_if (PW.pt (pw_or (pt_not (pt_val (pe_callB (call_isiK' K) (by rfl) T.b_isinstance bt_isinstance (pa_cons (pv 1) (pa_cons (pe_bty "str" (by rfl) T.b_str bt_str) pa_nil))))) (pw_or (pt_cmpR op_ne (pe_callB call_lenS (by rfl) T.b_len PySem.boot_len (pa_cons (pv 1) pa_nil)) pe_int (nomark _)) (pw_or1 (pt_cmpR op_notIn_sign (pv 1) (pe_fldK K (pv 0) rfl) (by rfl)))))) (pss_one ps_never) pss_nil)), ?_⟩
    have a : At A0 G H G H _ [some (autS K au), some (dat (.str (sg c)))] := At.begin (vs := [v1, v2]) (N := ["self", "letter"]) ((EnvOk.nil.cons p2).cons p1) sG trivial
    refine s_no a (XT.to (xt_or (a := false) ((xt_not (b := true) (xt_B (xe_cb (xa_cons (xe_var rfl) (xa_cons xe_cv xa_nil)) (xc_isi (by simp) kit_same))))) fun _ => xt_or (a := false) (xt_test ((xe_op (xe_cb (xa_cons (xe_var rfl) xa_nil) (xc_lenS (by rw [sg_len]; omega))) xe_int xr_neI).to (d' := .bool false) (by rw [sg_len]; rfl))) fun _ => xt_test ((xe_op (xe_var rfl) (xe_fld (i := 0) (xe_var rfl) T.c_Automaton T.n_a1 (by decide +kernel) rfl) xr_notInSg).to (d' := .bool false) (by rw [aS_list, decide_eq_true hc]; rfl))) rfl) fun G1 H1 st1 a1 => ?_
    exact k .non G1 H1 st1 trivial .non
def sp_a_moves (K : PySem.W.Frag) : Sp := fun vs H Q E => ∃ (a : Aut) (s c : Nat), AutOk a ∧ s < a.n ∧ c ∈ a.cs ∧ spA A0 [autS K a, dat (.int (s : Int)), dat (.str (sg c))] (dat (mvD a.trs s c)) vs H Q E
theorem sc_a_moves : FnScope ["self", "state", "letter"] ["self", "state", "letter"] (defScope s_a_moves) := ⟨rfl, rfl, rfl, by decide +kernel, rfl, by decide +kernel, by decide +kernel⟩
theorem ok_a_moves {f : Addr} {fd : FuncData} (F : FnP K "moves" "Automaton.moves" s_a_moves [] [] f fd) (T : Fx K mg) (M_a_check_state : Md P w K mg base (He.ga K "Automaton") "check_state" 2 ["self", "state"] (sp_a_check_state K)) (M_a_check_letter : Md P w K mg base (He.ga K "Automaton") "check_letter" 1 ["self", "letter"] (sp_a_check_letter K)) : FnOk P w K mg base CX0 3 f fd ["self", "state", "letter"] (sp_a_moves K) := by
  refine F.ok sc_a_moves (fun vs H Q E h => ?_) (fun cdv A outer st H vs Q E hr h => ?_)
  · obtain ⟨_, _, _, _, _, _, h⟩ := h
    exact spA_len h
  · obtain ⟨au, s, c, ok, hs, hc, G, sG, _, ps, k⟩ := h
    obtain ⟨v1, v2, v3, rfl, p1, p2, p3⟩ := ps_three ps
    refine ⟨_, PSs.nox (pss_cons (ps_expr (pe_md (pv 0) T.c_Automaton M_a_check_state (hr.mono (by decide)) (pa_cons (pv 1) pa_nil)))
  (pss_cons (ps_expr (pe_md (pv 0) T.c_Automaton M_a_check_letter (hr.mono (by decide)) (pa_cons (pv 2) pa_nil)))
  (pss_one (ps_ret (pe_callTy (call_listK K) (by rfl) T.b_list bt_list (pa_cons (pe_dget (hu_of hr) (pe_fldK K (pv 0) rfl) (pe_tup (pa_cons (pv 1) (pa_cons (pv 2) pa_nil))) (fun _ _ => rfl)) pa_nil)))))), ?_⟩
    have a : At A0 G H G H _ [some (autS K au), some (dat (.int (s : Int))), some (dat (.str (sg c)))] := At.begin (vs := [v1, v2, v3]) (N := ["self", "state", "letter"]) (((EnvOk.nil.cons p3).cons p2).cons p1) sG trivial
    refine q_drop (φ := dat .none) a (xe_meth (xe_var rfl) (by decide +kernel) (xa_cons (xe_var rfl) xa_nil) fun vs H Q h => ⟨au, s, ok, hs, h⟩) fun v1 G1 H1 st1 a1 _ => ?_
    refine q_drop (φ := dat .none) a1 (xe_meth (xe_var rfl) (by decide +kernel) (xa_cons (xe_var rfl) xa_nil) fun vs H Q h => ⟨au, c, ok, hc, h⟩) fun v2 G2 H2 st2 a2 _ => ?_
    refine s_ret a2 (xe_cb (xa_cons (xe_dget (k := kSC s c) (d := mvD au.trs s c) (f := autF au) (xe_fld (i := 3) (xe_var rfl) T.c_Automaton T.n_a4 (by decide +kernel) rfl) (xe_tup2 (xe_var rfl) (xe_var rfl)) (by unfold autF; rw [mapG_at, if_pos (by unfold inDom; rw [decide_eq_true hs, decide_eq_true hc]; rfl)])) xa_nil) xc_list) fun v3 G3 H3 st3 _ p => ?_
    exact k v3 G3 H3 st3 trivial p
end
end Ls
/-! Lay7 -/
set_option maxHeartbeats 4000000
/-! The layer, seventh part: dicts made by comprehensions, objects that are made, dicts that are walked. -/
namespace Ls
open PySem PySem.Spec PyProof.Rows L2
section
variable {A : Amb} {ρ : Env} {te ta tb tc : TE} {tt tu : TT} {φ ψ χ : SP} {K : PySem.W.Frag} {G0 H0 G H : Hp} {σ : L2.St} {D : Ends} {t u tz tw : TS}
/-- the loop of one `for` of a comprehension -/
theorem loop1_ok {α : Type} {J : It} {Gw : Hp} {l : List α} {ψ : α → SP} {g : TG} {tq : TT} {tB : L2.St → Hp → (Hp → Prop) → Prop} {vs : List Nat} {τ : L2.St} {Z : Hp → Prop} {G1 H1 : Hp} (wk : Walk J (l.map ψ).length (fun H => Same Gw H) (YSp Gw (l.map ψ))) (P : Nat → Hp → Hp → Prop)
    (hP : ∀ i G' H', P i G' H' → Same Gw G' ∧ Same G' H') (h0 : P 0 G1 H1)
    (hs : ∀ i x G' H', l[i]? = some x → P i G' H' → ∀ v G2 H2, Stp A0 G' H' G2 H2 → (ψ x).p G2 v → g v (wipe τ vs) H2 fun σ2 H3 => wipe σ2 vs = wipe τ vs ∧ tq σ2 H3 fun b H4 => if b = true then tB σ2 H4 (fun H5 => ∃ G5, P (i + 1) G5 H5) else ∃ G5, P (i + 1) G5 H4)
    (hd : ∀ G' H', P l.length G' H' → Z H') : ∃ W, (∃ m, W 0 m H1) ∧ Loop1 J g tq tB vs τ W Z := by
  have hl : (l.map ψ).length = l.length := List.length_map ..
  rw [hl] at wk
  refine ⟨fun i m H' => m = l.length - i ∧ i ≤ l.length ∧ ∃ G', P i G' H', ⟨l.length, by simp, Nat.zero_le _, G1, h0⟩, ?_⟩
  rintro i m H' ⟨rfl, hle, G', p⟩
  obtain ⟨s1, s2⟩ := hP i G' H' p
  by_cases lt : i < l.length
  · refine .inr ⟨wk.goes i H' lt (s1.trans s2), fun H2 => ∃ G2, P (i + 1) G2 H2, fun H2 ⟨G2, p2⟩ => ⟨l.length - (i + 1), by omega, rfl, lt, G2, p2⟩, fun x H2 y => ?_⟩
    obtain ⟨z, hz⟩ : ∃ z, l[i]? = some z := ⟨l[i], List.getElem?_eq_getElem lt⟩
    obtain ⟨G2, t2, p2⟩ := wk.yields i H' x H2 lt (s1.trans s2) y G' (ψ z) s1 s2 (by rw [List.getElem?_map, hz] <;> rfl)
    exact hs i z G' H' hz p x G2 H2 t2 p2
  · have e : i = l.length := by omega
    subst e
    exact .inl ⟨wk.stops H' (s1.trans s2), hd G' H' p⟩
/-! ### objects that are made -/
/-- the promise of an __init__ -/
def spI (C : Addr) (pre : List SP) (post : SP) : Sp := fun vs H Q _ => ∃ (G H1 : Hp) (x dx : Addr) (us : List V), H1 x = none ∧ H1 dx = none ∧ dx ≠ x ∧ H = upd (upd H1 dx (.own x)) x (.ins C dx []) ∧ vs = .ref x :: us ∧ Same G H1 ∧ Ps G us pre ∧
  ∀ G2 H2, Stp A0 G H1 G2 H2 → post.p G2 (.ref x) → Q .non H2
theorem spI_len {C : Addr} {pre : List SP} {post : SP} {vs : List V} {H : Hp} {Q : VK} {E : XK} (h : spI C pre post vs H Q E) : vs.length = pre.length + 1 := by
  obtain ⟨_, _, _, _, _, _, _, _, _, rfl, _, p, _⟩ := h
  rw [List.length_cons, Paired.length p]
theorem xe_make {C : Addr} {sp : Sp} {E : XK} {tA : TA} {φs : List SP} (h : XA A tA ρ φs) (hs : ∀ vs H Q, spI C φs φ vs H Q E → sp vs H Q E) : XE A (tMake C sp [] E tA) ρ φ := fun G H σ Q Ev s j k =>
  h G H σ _ Ev s j fun vs G1 H1 t1 j1 p1 => by
    intro x dx hx hdx ne
    show sp (.ref x :: (vs ++ [])) _ _ E
    rw [List.append_nil]
    exact hs _ _ _ ⟨G1, H1, x, dx, vs, hx, hdx, ne, rfl, rfl, t1.s, p1, fun G2 H2 t2 p2 => ⟨rfl, k _ G2 H2 (t1.trans t2.up) (t2.j j1) p2⟩⟩
theorem xe_makeK {C : Addr} {n m : Nat} {sp : Sp} {gV : List V → List V → List V} {E : XK} {tA tK : TA} {φs ψs : List SP} (h : XA A tA ρ φs) (h2 : XA A tK ρ ψs) (hn : φs.length = n) (hm : ψs.length = m) (hg : ∀ (x : V) vs zs, vs.length = n → zs.length = m → gV (x :: vs) zs = x :: (vs ++ zs)) (hs : ∀ vs H Q, spI C (φs ++ ψs) φ vs H Q E → sp vs H Q E) : XE A (tMakeK C n m sp gV E tA tK) ρ φ := fun G H σ Q Ev s j k =>
  h G H σ _ Ev s j fun vs G1 H1 t1 j1 p1 => h2 G1 H1 σ _ (Ev.mono t1.g) t1.s j1 fun zs G2 H2 t2 j2 p2 => by
    have l1 : vs.length = n := (Paired.length p1).trans hn
    have l2 : zs.length = m := (Paired.length p2).trans hm
    refine ⟨l1, l2, fun x dx hx hdx ne => ?_⟩
    rw [hg _ vs zs l1 l2]
    have p12 : Ps G2 (vs ++ zs) (φs ++ ψs) := by
      have app : ∀ {vs : List V} {φs : List SP}, Ps G2 vs φs → Ps G2 (vs ++ zs) (φs ++ ψs) := fun {vs φs} p => by
        induction p with
        | nil => exact p2
        | cons h _ ih => exact .cons h ih
      exact app (p1.mono t2.g)
    exact hs _ _ _ ⟨G2, H2, x, dx, vs ++ zs, hx, hdx, ne, rfl, rfl, t2.s, p12, fun G3 H3 t3 p3 => ⟨rfl, k _ G3 H3 ((t1.trans t2).trans t3.up) (t3.j j2) p3⟩⟩
/-- an object under way: its attributes so far -/
structure Mkg (G H : Hp) (C x dx : Addr) (ns : List Str) (us : List V) : Prop where
  o : Own G H x (.ins C dx (ns.zip us))
  d : Own G H dx (.own x)
  l : ns.length = us.length
theorem Mkg.step {C x dx : Addr} {ns : List Str} {us : List V} {G2 H2 : Hp} (m : Mkg G H C x dx ns us) (t : Stp A0 G H G2 H2) : Mkg G2 H2 C x dx ns us := ⟨m.o.step0 t, m.d.step0 t, m.l⟩
theorem Mkg.ne {C x dx : Addr} {ns : List Str} {us : List V} (m : Mkg G H C x dx ns us) : dx ≠ x := fun e => by
  have h := m.d.h
  rw [e, m.o.h] at h
  cases h
/-- something else of ours changes -/
theorem Mkg.mut {C x dx l : Addr} {ns : List Str} {us : List V} {o o' : HO} (m : Mkg G H C x dx ns us) (w : Own G H l o) (h1 : ∀ fs, o ≠ .ins C dx fs) (h2 : o ≠ .own x) : Mkg G (upd H l o') C x dx ns us :=
  ⟨m.o.mut fun e => by
    have h := m.o.h
    rw [e, w.h] at h
    exact h1 _ (Option.some.inj h), m.d.mut fun e => by
    have h := m.d.h
    rw [e, w.h] at h
    exact h2 (Option.some.inj h), m.l⟩
theorem Mkg.seal {C x dx l : Addr} {ns : List Str} {us : List V} {o : HO} (m : Mkg G H C x dx ns us) (w : Own G H l o) (h1 : ∀ fs, o ≠ .ins C dx fs) (h2 : o ≠ .own x) : Mkg (upd G l o) H C x dx ns us :=
  ⟨m.o.seal fun e => by
    have h := m.o.h
    rw [e, w.h] at h
    exact h1 _ (Option.some.inj h), m.d.seal fun e => by
    have h := m.d.h
    rw [e, w.h] at h
    exact h2 (Option.some.inj h), m.l⟩
theorem init_begin {C x dx : Addr} {vs : List V} {N : List Str} (s : Same G H) (hx : H x = none) (hdx : H dx = none) (ne : dx ≠ x) (E : EnvOk G (start N vs) ρ) :
    At A0 G H G (upd (upd H dx (.own x)) x (.ins C dx [])) (start N vs) ρ ∧ Mkg G (upd (upd H dx (.own x)) x (.ins C dx [])) C x dx [] [] := by
  have a0 : At A0 G H G H (start N vs) ρ := ⟨E, Stp.refl s, trivial⟩
  obtain ⟨a1, w1, _⟩ := a0.fresh (o := .own x) hdx
  have hx1 : (upd H dx (.own x)) x = none := (upd_ne (Ne.symm ne)).trans hx
  obtain ⟨a2, w2, _⟩ := a1.fresh (o := .ins C dx []) hx1
  exact ⟨a2, w2, ⟨(upd_ne ne).trans w1.h, w1.g⟩, rfl⟩
theorem putF_zip {f : Str} {v : V} : ∀ {ns : List Str} {us : List V}, ns.length = us.length → ns.contains f = false → L2.putF f v (ns.zip us) = (ns ++ [f]).zip (us ++ [v])
  | [], [], _, _ => rfl
  | [], _ :: _, h, _ => by simp at h
  | _ :: _, [], h, _ => by simp at h
  | n :: ns, u :: us, h, hf => by
    rw [List.contains_cons] at hf
    obtain ⟨h1, h2⟩ := Bool.or_eq_false_iff.mp hf
    have ne : ¬ n = f := fun e => by
      rw [e] at h1
      simp at h1
    show L2.putF f v ((n, u) :: ns.zip us) = _
    unfold L2.putF
    rw [if_neg ne, putF_zip (by simpa using h) h2]
    rfl
theorem zip_le {ns : List Str} {us : List V} : (ns.zip us).length ≤ ns.length := by
  rw [List.length_zip]
  exact Nat.min_le_left _ _
/-- self.f = e, f new -/
theorem s_fld {C x dx : Addr} {ns : List Str} {us : List V} {i : Nat} {f : Str} (a : At A0 G0 H0 G H σ ρ) (m : Mkg G H C x dx ns us) (fr : H0 x = none) (hi : ρ[i]? = some (some (isV (.ref x)))) (c : Cls K C) (n : NoAttr K C f) (hf : ns.contains f = false) (hl : ns.length < 100) (h : XE A0 te ρ φ)
    (k : ∀ v G2 H2 H3, Stp A0 G H G2 H2 → φ.p G2 v → H3 = upd H2 x (.ins C dx ((ns ++ [f]).zip (us ++ [v]))) → At A0 G0 H0 G2 H3 σ ρ → Mkg G2 H3 C x dx (ns ++ [f]) (us ++ [v]) → D.nx σ H3) : sFld K (tVar i) te f D σ H :=
  a.e h fun v G2 H2 t a2 p => by
    have m2 := m.step t
    refine ⟨_, a2.own hi, x, C, dx, _, rfl, m2.o.h, c, n, Nat.lt_of_le_of_lt zip_le (by omega), ?_⟩
    rw [putF_zip m2.l hf]
    obtain ⟨a3, w3⟩ := a2.mut (o' := .ins C dx ((ns ++ [f]).zip (us ++ [v]))) m2.o fr nb0
    exact k v G2 H2 _ t p rfl a3 ⟨w3, m2.d.mut m2.ne, by simp [m2.l]⟩
theorem q_fld {C x dx : Addr} {ns : List Str} {us : List V} {i : Nat} {f : Str} (a : At A0 G0 H0 G H σ ρ) (m : Mkg G H C x dx ns us) (fr : H0 x = none) (hi : ρ[i]? = some (some (isV (.ref x)))) (c : Cls K C) (n : NoAttr K C f) (hf : ns.contains f = false) (hl : ns.length < 100) (h : XE A0 te ρ φ)
    (k : ∀ v G2 H2 H3, Stp A0 G H G2 H2 → φ.p G2 v → H3 = upd H2 x (.ins C dx ((ns ++ [f]).zip (us ++ [v]))) → At A0 G0 H0 G2 H3 σ ρ → Mkg G2 H3 C x dx (ns ++ [f]) (us ++ [v]) → tz D σ H3) : tSeq (sFld K (tVar i) te f) tz D σ H := s_fld (D := { D with nx := tz D }) a m fr hi c n hf hl h k
/-- the object is whole -/
theorem Mkg.done {C x dx : Addr} {ns : List Str} {us : List V} {φs : List SP} (a : At A0 G0 H0 G H σ ρ) (m : Mkg G H C x dx ns us) (f1 : H0 x = none) (f2 : H0 dx = none) (ps : Ps G us φs) : ∃ G2, Stp A0 G0 H0 G2 H ∧ (insS C ns φs).p G2 (.ref x) := by
  obtain ⟨a2, s2⟩ := a.seal m.d f2 nb0
  have w : Own (upd G dx (.own x)) H x (.ins C dx (ns.zip us)) := m.o.seal (Ne.symm m.ne)
  obtain ⟨a3, s3⟩ := a2.seal w f1 nb0
  exact ⟨_, a3.stp, x, dx, us, rfl, upd_same, m.l, ps.mono (s2.trans s3)⟩
/-! ### for x, y in an owned dict -/
theorem q_forKeys {l : Addr} {kvs : List (TKey × V)} {i a b : Nat} {tb : TS} (at_ : At A0 G0 H0 G H σ ρ) (w : Own G H l (.dT kvs)) (hi : ρ[i]? = some (some (isV (.ref l)))) (two : ∀ (j : Nat) k v, kvs[j]? = some (k, v) → ∃ x y, k = [x, y])
    (P : Obj → Nat → Hp → Hp → L2.St → Prop) (hP : ∀ od j G1 H1 σ1, P od j G1 H1 σ1 → Stp A0 G (upd H l (.frz od (.dT kvs))) G1 H1) (h0 : ∀ od, At A0 G (upd H l (.frz od (.dT kvs))) G (upd H l (.frz od (.dT kvs))) σ ρ → P od 0 G (upd H l (.frz od (.dT kvs))) σ)
    (hs : ∀ (od : Obj) (j : Nat) x y v G1 H1 σ1, kvs[j]? = some ([x, y], v) → P od j G1 H1 σ1 → H1 l = some (.frz od (.dT kvs)) →
      tb ⟨fun σ' H' => ∃ G', P od (j + 1) G' H' σ', fun v H' => H' l = some (.frz od (.dT kvs)) ∧ D.rt v (upd H' l (.dT kvs)), fun σ' H' => H' l = some (.frz od (.dT kvs)) ∧ tz D σ' (upd H' l (.dT kvs)), fun σ' H' => ∃ G', P od (j + 1) G' H' σ'⟩ ((σ1.set a (some (kV x))).set b (some (kV y))) H1)
    (hd : ∀ od G1 H1 σ1, P od kvs.length G1 H1 σ1 → Stp A0 G H G1 (upd H1 l (.dT kvs)) → Own G1 (upd H1 l (.dT kvs)) l (.dT kvs) → tz D σ1 (upd H1 l (.dT kvs))) :
    tSeq (tLock (tFor (iKeys (tVar i)) (gTup K 2 (gCons (gName a) (gCons (gName b) gNil))) tb)) tz D σ H := by
  refine ⟨l, .dT kvs, w.h, True.intro, fun od => ?_⟩
  obtain ⟨a1, w1⟩ := at_.lock (od := od) w
  refine ⟨_, a1.own hi, l, od, rfl, .inr ⟨kvs, upd_same, ?_⟩⟩
  have fz : ∀ {j G1 H1 σ1}, P od j G1 H1 σ1 → H1 l = some (.frz od (.dT kvs)) := fun p => (w1.step0 (hP _ _ _ _ _ p)).h
  refine ⟨fun j m σ' H' => m = kvs.length - j ∧ j ≤ kvs.length ∧ ∃ G', P od j G' H' σ', ⟨kvs.length, by simp, Nat.zero_le _, G, h0 od a1⟩, ?_⟩
  rintro j m σ' H' ⟨rfl, hle, G', p⟩
  by_cases lt : j < kvs.length
  · refine .inr ⟨⟨fz p, lt⟩, fun σ2 H2 => ∃ G2, P od (j + 1) G2 H2 σ2, fun σ2 H2 ⟨G2, p2⟩ => ⟨kvs.length - (j + 1), by omega, rfl, lt, G2, p2⟩, fun z H2 y => ?_⟩
    obtain ⟨rfl, k, v, q, hk, rfl, hq⟩ := y
    obtain ⟨x, y, rfl⟩ := two j k v hk
    refine ⟨q, _, rfl, SqT.of hq, rfl, _, _, rfl, ⟨_, _, rfl, rfl, ?_⟩⟩
    exact hs od j x y v G' H2 σ' hk p (fz p)
  · have e : j = kvs.length := by omega
    subst e
    obtain ⟨t2, w2⟩ := Stp.unlock at_.s w (hP _ _ _ _ _ p)
    exact .inl ⟨⟨fz p, Nat.le_refl _⟩, fz p, hd od G' H' σ' p t2 w2⟩
theorem tYes_if {A B : Hp → Prop} (h : A H) : tYes σ H (fun b H4 => if b = true then A H4 else B H4) := by
  show (if true = true then A H else B H)
  rw [if_pos rfl]
  exact h
theorem tNil_of {Q : List V → Hp → Prop} (h : Q [] H) : tNil σ H Q := h
/-- an expression over a locked dict -/
theorem same_frz {l : Addr} {o : HO} {od : Obj} (s : Same G H) (g : G l = none) : Same G (upd H l o) := same_mut s g
end
end Ls
/-! F8 -/
set_option maxHeartbeats 4000000
namespace Ls
open PySem PySem.Spec PyProof.Rows L2
section
variable {P : Program} {w : World} {K : PySem.W.Frag} {mg : Str → Option Value} {base : Heap}
theorem q_dcg {emp : HO} {wi : TI} {g : TG} {tt : TT} {tB : Addr → L2.St → Hp → (Hp → Prop) → Prop} {vs : List Nat} {i : Nat} {tz : TS} {D : Ends} {σ : L2.St} {H : Hp} (h : wi σ H fun J H1 => ∀ Dn, H1 Dn = none → ∃ W, (∃ m, W 0 m (upd H1 Dn emp)) ∧ Loop1 J g tt (tB Dn) vs σ W fun H' => tz D (σ.set i (some (.ref Dn))) H') : tSeq (tAsg (tDcg emp wi g tt tB vs) (gName i)) tz D σ H := h
theorem nice_w : Nice (fun _ : Bool => True) (fun b => .str (wS b)) 0 := ⟨fun b _ => wS_lay b, fun _ _ => Nat.le_refl _, fun a b _ _ => by
  have h := nice_str.eqv (wS a) (wS b) (wS_lay a) (wS_lay b)
  rw [h]
  by_cases e : a = b
  · rw [e]
    simp
  · rw [decide_eq_false e, decide_eq_false fun z => e (wS_inj.mp z)]⟩
theorem nice_mv : Nice (fun _ : Nat × Bool => True) eMv 1 := (nice_tup2 nice_nat nice_w).weak fun _ _ => ⟨trivial, trivial⟩
theorem nice_mvs : Nice (fun _ : List (Nat × Bool) => True) (fun l => .list (l.map eMv)) 2 := nice_mv.list.weak fun _ _ _ _ => trivial
theorem alike_mv (a b : Nat × Bool) : PySem.W.alike (eMv a) (eMv b) = true := by
  unfold eMv
  simp [PySem.W.alike, PySem.W.alikeAll]
theorem sortable_mv (l : List (Nat × Bool)) : PySem.W.AllAlike (l.map eMv) ∧ PySem.W.Sortable (l.map eMv) ∧ ∀ d ∈ l.map eMv, d.depth ≤ 60 := by
  refine ⟨PySem.W.AllAlike.of fun b b' => alike_mv b b', PySem.W.Sortable.tuples fun b => ⟨_, _, rfl⟩, fun d hd => ?_⟩
  obtain ⟨b, _, rfl⟩ := List.mem_map.mp hd
  exact Nat.le_trans (nice_mv.dep b trivial) (by decide)
theorem mvs_next {trs : List Tr} {i : Nat} {t : Tr} (h : trs[i]? = some t) (a b : Nat) : mvs (trs.take (i + 1)) a b = mvs (trs.take i) a b ++ if a = t.1 ∧ b = t.2.1 then [t.2.2] else [] := by
  unfold mvs
  rw [List.take_add_one, h, List.filter_append, List.map_append]
  congr 1
  by_cases q : a = t.1 ∧ b = t.2.1
  · obtain ⟨rfl, rfl⟩ := q
    simp
  · rw [if_neg q]
    have : (decide (t.1 = a) && decide (t.2.1 = b)) = false := by
      by_cases h1 : t.1 = a
      · by_cases h2 : t.2.1 = b
        · exact absurd ⟨h1.symm, h2.symm⟩ q
        · simp [h2]
      · simp [h1]
    simp [this]
def sp_a_init (K : PySem.W.Frag) : Sp := fun vs H Q E => ∃ a : Aut, AutOk a ∧ spI (He.ga K "Automaton") [dat (.str (aS a.cs)), dat (.int (a.n : Int)), dat (.list (a.trs.map eTr)), dat (.int (a.ini : Int))] (autS K a) vs H Q E
abbrev N_a_init : List Str := ["self", "alphabet", "size", "transitions", "initial", "targets", "seen", "at", "row", "state", "letter", "key"]
theorem sc_a_init : FnScope ["self", "alphabet", "size", "transitions", "initial", "targets", "seen", "at", "row", "state", "letter", "key"] ["self", "alphabet", "size", "transitions", "initial"] (defScope s_a_init) := ⟨rfl, rfl, rfl, by decide +kernel, rfl, by decide +kernel, by decide +kernel⟩
theorem ok_a_init {f : Addr} {fd : FuncData} (F : FnP K "__init__" "Automaton.__init__" s_a_init [] [("initial", .int 0)] f fd) (T : Fx K mg) (F_is_alphabet : Fn P w K mg base "is_alphabet" 2 ["value"] [] sp_is_alphabet) (F_is_number : Fn P w K mg base "is_number" 1 ["value", "least", "most"] [] sp_is_number)
    (F_is_transition : Fn P w K mg base "is_transition" 2 ["value", "alphabet", "size"] [] sp_is_transition) : FnOk P w K mg base CX0 3 f fd ["self", "alphabet", "size", "transitions", "initial"] (sp_a_init K) := by
  refine F.ok sc_a_init (fun vs H Q E h => ?_) (fun cdv A outer st H vs Q E hr h => ?_)
  · obtain ⟨_, _, h⟩ := h
    exact spI_len h
  · obtain ⟨au, ok, G, Hb, x, dx, us, hx, hdx, hne, rfl, rfl, sG, ps, k⟩ := h
    obtain ⟨v1, v2, v3, v4, rfl, p1, p2, p3, p4⟩ := ps_four ps
    refine ⟨_, PSs.nox (pss_cons (ps_if (pt_not (pt_val (pe_fn F_is_alphabet (hr.mono (by decide)) rfl (pa_cons (pv 1) pa_nil)))) (pss_one ps_never) pss_nil)
  (pss_cons (ps_if (pt_not (pt_val (pe_fn F_is_number (hr.mono (by decide)) rfl (pa_cons (pv 2) (pa_cons pe_int (pa_cons (pe_gint rfl T.mMS) pa_nil)))))) (pss_one ps_never) pss_nil)
  (pss_cons (ps_if (pt_not (pt_val (pe_callB (call_isiTK K) (by rfl) T.b_isinstance bt_isinstance (pa_cons (pv 3) (pa_cons (pe_tup (pa_cons (pe_bty "list" (by rfl) T.b_list bt_list) (pa_cons (pe_bty "tuple" (by rfl) T.b_tuple bt_tuple) pa_nil))) pa_nil))))) (pss_one ps_never) pss_nil)
  (pss_cons (ps_set (i := 5) sc_a_init.nd rfl (Or.inr rfl) (pe_dc2 (emp := .dT []) (own := [("state", 9), ("letter", 10)]) (vs1 := [10]) (Or.inr rfl) (by rfl) (hu_of hr) sc_a_init.nd (pi_range1 (by rfl) T.b_range (pa_cons (pv 2) pa_nil)) (blkOk_by (by kernel_rfl)) (by decide) (fun _ _ _ _ _ => (pg_name (i := 9) sc_a_init.nd rfl (Or.inl rfl))) (fun _ _ _ _ _ => pts_nil) (fun _ _ _ _ _ => (pi_str (pv 1))) (fun _ _ _ _ _ => (pg_name (i := 10) sc_a_init.nd rfl (Or.inl rfl))) (fun _ _ _ _ _ => pts_nil) (fun _ _ _ _ _ => (pe_tup (pa_cons (pv 9) (pa_cons (pv 10) pa_nil)))) (fun _ _ _ _ _ => (pe_lst pa_nil))))
  (pss_cons (ps_set (i := 6) sc_a_init.nd rfl (Or.inl rfl) pe_dnewT)
  (pss_cons (ps_for PassesOwn.never (by rfl) (pi_enumK K (by rfl) T.b_enumerate (pa_cons (pv 3) pa_nil)) (pg_tupK K (n := 2) (by rfl) (pgs_cons (pg_name (i := 7) sc_a_init.nd rfl (Or.inl rfl)) (pgs_cons (pg_name (i := 8) sc_a_init.nd rfl (Or.inl rfl)) pgs_nil))) (pss_cons (ps_if (PW.pt (pw_or (pt_not (pt_val (pe_fn F_is_transition (hr.mono (by decide)) rfl (pa_cons (pv 8) (pa_cons (pv 1) (pa_cons (pv 2) pa_nil)))))) (pw_or1 (pt_cmp (pc_din (hu_of hr) (pe_slice (sl_tupK K) (pv 8) po_none (po_some pe_int)) (pv 6)) rfl)))) (pss_one ps_never) pss_nil)
  (pss_cons (ps_dput (hu_of hr) (pv 6) (pe_slice (sl_tupK K) (pv 8) po_none (po_some pe_int)) pe_bl rfl)
  (pss_one (ps_dput (hu_of hr) (pv 5) (pe_slice (sl_tupK K) (pv 8) po_none (po_some pe_int)) (pe_op op_cat (pe_dget (hu_of hr) (pv 5) (pe_slice (sl_tupK K) (pv 8) po_none (po_some pe_int)) (fun _ _ => rfl)) (pe_lst (pa_cons (pe_slice (sl_tupK K) (pv 8) (po_some pe_int) po_none) pa_nil))) rfl)))))
  (pss_cons (ps_if (pt_not (pt_val (pe_fn F_is_number (hr.mono (by decide)) rfl (pa_cons (pv 4) (pa_cons pe_int (pa_cons (pe_op op_sub (pv 2) pe_int) pa_nil)))))) (pss_one ps_never) pss_nil)
  (pss_cons (ps_lock (ps_for PassesOwn.never (by rfl) (pi_keys (pv 5)) (pg_tupK K (n := 2) (by rfl) (pgs_cons (pg_name (i := 9) sc_a_init.nd rfl (Or.inl rfl)) (pgs_cons (pg_name (i := 10) sc_a_init.nd rfl (Or.inl rfl)) pgs_nil))) (pss_one (ps_if (pt_cmpR (op_eqDK K hr.units) (pe_dget (hu_of hr) (pv 5) (pe_tup (pa_cons (pv 9) (pa_cons (pv 10) pa_nil))) (fun _ _ => rfl)) (pe_lst pa_nil) (nomark _)) (pss_one ps_never) pss_nil))))
  (pss_cons (ps_fld (pv 0) (pv 1) rfl)
  (pss_cons (ps_fld (pv 0) (pv 2) rfl)
  (pss_cons (ps_fld (pv 0) (pv 4) rfl)
  (pss_one (ps_lock (ps_fld (pv 0) (pe_dc1 (emp := .dT []) (own := [("key", 11)]) (Or.inr rfl) (by rfl) (hu_of hr) sc_a_init.nd (pi_keys (pv 5)) (blkOk_by (by kernel_rfl)) (fun _ _ _ _ _ => (pg_name (i := 11) sc_a_init.nd rfl (Or.inl rfl))) (fun _ _ _ _ _ => pts_nil) (fun _ _ _ _ _ => (pv 11)) (fun _ _ _ _ _ => (pe_callB (cr_sortedDK K hr) (by rfl) T.b_sorted bt_sorted (pa_cons (pe_dget (hu_of hr) (pv 5) (pv 11) (fun _ _ => rfl)) pa_nil)))) rfl)))))))))))))), ?_⟩
    obtain ⟨cs, n, trs, ini⟩ := au
    have al : AlOk cs := ok.al
    have hn1 : 1 ≤ n := ok.one
    have hn : n ≤ 65 := ok.most
    have h3 := al.three
    obtain ⟨a, m⟩ := init_begin (C := He.ga K "Automaton") (vs := [.ref x, v1, v2, v3, v4]) (N := N_a_init) (ρ := [some (isV (.ref x)), some (dat (.str (aS cs))), some (dat (.int (n : Int))), some (dat (.list (trs.map eTr))), some (dat (.int (ini : Int))), none, none, none, none, none, none, none]) sG hx hdx hne (((((EnvOk.nil.skip.skip.skip.skip.skip.skip.skip.cons p4).cons p3).cons p2).cons p1).cons rfl)
    -- the tests
    refine q_no a (XT.to (xt_not (b := true) (xt_B (xe_call (φ := dat (.bool true)) (xa_cons (xe_var rfl) xa_nil) fun vs H Q h => ⟨cs, al, h⟩))) rfl) fun G1 H1 st1 a1 => ?_
    refine q_no a1 (XT.to (xt_not (b := true) (xt_B (XE.to (xe_call (φ := dat (.bool (decide ((1 : Int) ≤ (n : Int)) && decide ((n : Int) ≤ 65)))) (xa_cons (xe_var rfl) (xa_cons xe_int (xa_cons xe_int xa_nil))) fun vs H Q h => ⟨_, _, _, h⟩) (by rw [decide_eq_true (by omega), decide_eq_true (by omega)]; rfl)))) rfl) fun G2 H2 st2 a2 => ?_
    refine q_no a2 (XT.to (xt_not (b := true) (xt_B (XE.to (xe_cb (xa_cons (xe_var rfl) (xa_cons (xe_tupV (cs := [.ty "list", .ty "tuple"]) (xa_cons xe_cv (xa_cons xe_cv xa_nil)) (by show 2 ≤ 1000; decide)) xa_nil)) (xc_isiT (by simp) kit_same kit_list_tuple)) rfl))) rfl) fun G3 H3 st3 a3 => ?_
    have m3 := ((m.step st1).step st2).step st3
    -- targets = {..}
    refine q_dcg ?_
    refine (xi_rangeT (xa_cons (xe_var rfl) xa_nil) (by omega)) G3 H3 _ _ a3.env a3.s fun J G4 H4 st4 wk => ?_
    intro Dt hDt
    have a4 := a3.step0 st4
    obtain ⟨a5, w5, fDt⟩ := a4.fresh (o := .dT []) hDt
    have m5 : Mkg G4 (upd H4 Dt (.dT [])) (He.ga K "Automaton") x dx [] [] := (m3.step st4).step (Stp.only a4.s (same_new hDt))
    refine loop1_ok (l := List.range n) (ψ := fun i : Nat => dat (.int (i : Int))) wk (fun i G' H' => At A0 G Hb G' H' _ _ ∧ Same G4 G' ∧ Mkg G' H' (He.ga K "Automaton") x dx [] [] ∧ ∃ kvs, Own G' H' Dt (.dT kvs) ∧ DF G' kvs (mapG (fun s c => decide (s < i) && decide (c ∈ cs)) fun _ _ => .list []) ∧ kvs.length ≤ 3 * i)
      (fun i G' H' h => ⟨h.2.1, h.1.s⟩) ⟨a5, Same.refl _, m5, [], w5, ?_, by simp⟩ ?_ ?_
    · have e : (fun _ => none : DFn) = mapG (fun s c => decide (s < 0) && decide (c ∈ cs)) fun _ _ => .list [] := by
        funext k
        cases e : mapG (fun s c => decide (s < 0) && decide (c ∈ cs)) (fun _ _ => .list []) k with
        | none => rfl
        | some d =>
          obtain ⟨s, c, _, hd, _⟩ := mapG_key e
          simp at hd
      rw [← e]
      exact DF.nil
    · rintro i xi G6 H6 hxi ⟨a6, s6, m6, kvs6, w6, df6, hl6⟩ v7 G7 H7 st7 p7
      obtain ⟨hi, rfl⟩ := range_get hxi
      refine ⟨(Off.set (js := [9]) (by simp)).wipe (by simp), ?_⟩
      refine tYes_if ?_
      have a7 := a6.step0 st7
      have E7 : EnvOk G7 _ _ := (a7.env.wiped [9, 10]).set 9 p7
      refine (xi_strT (xe_var (i := 1) rfl)) G7 H7 _ _ E7 a7.s fun J1 G8 H8 st8 wk8 => ?_
      have a8 := a7.step0 st8
      rw [aS_list] at wk8
      refine loop1_ok (l := cs) (ψ := fun c => dat (.str ⟨#[c]⟩)) wk8 (fun j G' H' => At A0 G Hb G' H' _ _ ∧ Same G8 G' ∧ Mkg G' H' (He.ga K "Automaton") x dx [] [] ∧ ∃ kvs, Own G' H' Dt (.dT kvs) ∧ DF G' kvs (mapG (fun s c => (decide (s < xi) && decide (c ∈ cs)) || (decide (s = xi) && decide (c ∈ cs.take j))) fun _ _ => .list []) ∧ kvs.length ≤ 3 * xi + j)
        (fun j G' H' h => ⟨h.2.1, h.1.s⟩) ⟨a8, Same.refl _, (m6.step st7).step st8, kvs6, (w6.step0 st7).step0 st8, ?_, by omega⟩ ?_ ?_
      · have := (df6.mono st7.g).mono st8.g
        rw [mapG_ext (dom' := fun s c => (decide (s < xi) && decide (c ∈ cs)) || (decide (s = xi) && decide (c ∈ cs.take 0))) (g' := fun _ _ => .list []) (fun a b => by simp) fun _ _ _ => rfl] at this
        exact this
      · rintro j c G9 H9 hc ⟨a9, s9, m9, kvs9, w9, df9, hl9⟩ v10 G10 H10 st10 p10
        refine ⟨(Off.set (js := [10]) (by simp)).wipe (by simp), ?_⟩
        refine tYes_if ?_
        have a10 := a9.step0 st10
        have E10 : EnvOk G10 _ _ := ((((E7.mono (st8.g.trans (s9.trans st10.g)))).wiped [10])).set 10 p10
        refine (xe_tup2 (A := A0) (xe_var (φ := dat (.int (xi : Int))) rfl) (xe_var (φ := dat (.str (sg c))) rfl)) G10 H10 _ _ E10 a10.s trivial fun y G11 H11 st11 _ p11 => ?_
        have a11 := a10.step0 st11
        refine (xe_lst0 (A := A0)) G11 H11 _ _ (E10.mono st11.g) a11.s trivial fun z G12 H12 st12 _ p12 => ?_
        have a12 := a11.step0 st12
        obtain ⟨b, rfl, hb⟩ := rp_tkey (k := kSC xi c) (p11.mono st12.g)
        have w12 := ((w9.step0 st10).step0 st11).step0 st12
        have m12 := ((m9.step st10).step st11).step st12
        refine ⟨_, .t w12.h (a12.s _ _ hb) (Nat.lt_of_le_of_lt (show kvs9.length ≤ 1000 by have := (List.getElem?_eq_some_iff.mp hc).1; omega) (by decide)), ?_⟩
        obtain ⟨a13, w13⟩ := a12.mut (o' := .dT (L2.putK kvs9 (kSC xi c) z)) w12 fDt nb0
        refine ⟨G12, a13, s9.trans ((st10.g.trans st11.g).trans st12.g), m12.mut w12 (fun fs e => by cases e) (fun e => by cases e), _, w13, ?_, by have := length_putK kvs9 (kSC xi c) z; omega⟩
        have := (((df9.mono st10.g).mono st11.g).mono st12.g).put (k := kSC xi c) p12
        rw [mapG_put] at this
        rw [mapG_ext (dom' := fun s c => (decide (s < xi) && decide (c ∈ cs)) || (decide (s = xi) && decide (c ∈ cs.take (j + 1)))) (g' := fun _ _ => .list []) (fun a b => ?_) fun a b _ => ?_] at this
        · exact this
        · rw [List.take_add_one, hc]
          rw [Bool.eq_iff_iff]
          simp only [Bool.or_eq_true, Bool.and_eq_true, decide_eq_true_eq, Option.toList_some, List.mem_append, List.mem_singleton]
          constructor
          · rintro ((h | ⟨h1, h2⟩) | ⟨h1, h2⟩)
            · exact .inl h
            · exact .inr ⟨h1, .inl h2⟩
            · exact .inr ⟨h1, .inr h2⟩
          · rintro (h | ⟨h1, h2 | h2⟩)
            · exact .inl (.inl h)
            · exact .inl (.inr ⟨h1, h2⟩)
            · exact .inr ⟨h1, h2⟩
        · show (if a = xi ∧ b = c then PyData.list [] else PyData.list []) = _
          split <;> rfl
      · rintro G9 H9 ⟨a9, s9, m9, kvs9, w9, df9, hl9⟩
        refine ⟨G9, a9, s6.trans ((st7.g.trans st8.g).trans s9), m9, kvs9, w9, ?_, by omega⟩
        rw [mapG_ext (dom' := fun s c => decide (s < xi + 1) && decide (c ∈ cs)) (g' := fun _ _ => .list []) (fun a b => ?_) fun a b _ => rfl] at df9
        · exact df9
        · rw [List.take_length, Bool.eq_iff_iff]
          simp only [Bool.or_eq_true, Bool.and_eq_true, decide_eq_true_eq]
          constructor
          · rintro (h | h)
            · exact ⟨by omega, h.2⟩
            · exact ⟨by omega, h.2⟩
          · rintro ⟨h1, h2⟩
            by_cases q : a = xi
            · exact .inr ⟨q, h2⟩
            · exact .inl ⟨by omega, h2⟩
    · rintro G6 H6 ⟨a6, s6, m6, kvs6, w6, df6, hl6⟩
      rw [List.length_range] at df6 hl6
      have a7 := a6.re (a6.env.set 5 (φ := isV (.ref Dt)) rfl)
      have df6 : DF G6 kvs6 (mapG (inDom n cs) fun s c => .list ((mvs (trs.take 0) s c).map eMv)) := df6
      -- seen = {}
      refine q_dnew a7 fun Sn H8 nSn fSn w8 st8 a8 => ?_
      have neS : Dt ≠ Sn := fun e => by
        rw [← e, w6.h] at nSn
        cases nSn
      -- for at, row in enumerate(transitions)
      refine q_for (l := trs.zipIdx) a8 (xi_enumT (e := eTr) (xa_cons (xe_var rfl) xa_nil))
        (fun i G' H' σ' => At A0 G Hb G' H' σ' [some (isV (.ref x)), some (dat (.str (aS cs))), some (dat (.int (n : Int))), some (dat (.list (trs.map eTr))), some (dat (.int (ini : Int))), some (isV (.ref Dt)), some (isV (.ref Sn)), none, none, none, none, none] ∧ Mkg G' H' (He.ga K "Automaton") x dx [] [] ∧
          (∃ kvs, Own G' H' Dt (.dT kvs) ∧ DF G' kvs (mapG (inDom n cs) fun s c => .list ((mvs (trs.take i) s c).map eMv)) ∧ kvs.length ≤ 3 * n + i) ∧ ∃ kvs, Own G' H' Sn (.dT kvs) ∧ DF G' kvs (setF ((trs.take i).map fun t => kT3 t.1 t.2.1 t.2.2.1)) ∧ kvs.length ≤ i)
        (fun i G1 H1 σ1 h => h.1.s) (fun G9 H9 st9 => ⟨(a8.step0 st9).sub (by repeat' constructor), (m6.step st8).step st9, ⟨kvs6, (w6.step0 st8).step0 st9, df6.mono (st8.g.trans st9.g), by omega⟩, [], w8.step0 st9, by rw [List.take_zero, List.map_nil, ← setF_nil]; exact DF.nil, Nat.zero_le _⟩) ?_ ?_
      · rintro i q G9 H9 σ9 hq ⟨a9, m9, ⟨kvs9, w9, df9, hl9⟩, kvs9', w9', df9', hl9'⟩ v10 G10 H10 st10 p10
        obtain ⟨t, i2⟩ := q
        obtain ⟨e1, ht⟩ := zipL_get hq
        have e1 : i2 = i := e1
        subst e1
        have ht : trs[i2]? = some t := ht
        have htm : t ∈ trs := List.mem_of_getElem? ht
        have hto : TrOk n cs t := ok.ok t htm
        have hil : i2 < trs.length := (List.getElem?_eq_some_iff.mp ht).1
        have hsm : trs.length ≤ 1000 := ok.sm
        have a10 := a9.step0 st10
        refine (xg_tup2 (by simp) (by simp) : XG _ _ [7, 8] _ _) G10 H10 σ9 v10 _ a10.env a10.s p10 fun σ11 E11 _ => ?_
        have a11 := a10.re E11
        have rowv : ∀ {ρ' : Env}, ρ'[8]? = some (some (dat (eTr t))) → XE A0 (tVar 8) ρ' (dat (.tuple [.int (t.1 : Int), .str (sg t.2.1), .int (t.2.2.1 : Int), .str (wS t.2.2.2)])) := fun h => xe_var h
        have row3 : ∀ {ρ' : Env}, ρ'[8]? = some (some (dat (eTr t))) → XE A0 (tSl (rSlT K) (tVar 8) tNoPart (tPart (tC (.int 3)))) ρ' (dat (tD (kT3 t.1 t.2.1 t.2.2.1))) := fun h => xe_slT (rowv h) xo_none (xo_some xe_int) (by show ¬ (HT.sIx 4 0 none = 0 ∧ HT.sIx 4 4 (some 3) = 4); decide)
        have row2 : ∀ {ρ' : Env}, ρ'[8]? = some (some (dat (eTr t))) → XE A0 (tSl (rSlT K) (tVar 8) tNoPart (tPart (tC (.int 2)))) ρ' (dat (tD (kSC t.1 t.2.1))) := fun h => xe_slT (rowv h) xo_none (xo_some xe_int) (by show ¬ (HT.sIx 4 0 none = 0 ∧ HT.sIx 4 4 (some 2) = 4); decide)
        have row4 : ∀ {ρ' : Env}, ρ'[8]? = some (some (dat (eTr t))) → XE A0 (tSl (rSlT K) (tVar 8) (tPart (tC (.int 2))) tNoPart) ρ' (dat (eMv t.2.2)) := fun h => xe_slT (rowv h) (xo_some xe_int) xo_none (by show ¬ (HT.sIx 4 0 (some 2) = 0 ∧ HT.sIx 4 4 none = 4); decide)
        have no : kT3 t.1 t.2.1 t.2.2.1 ∉ (trs.take i2).map fun t => kT3 t.1 t.2.1 t.2.2.1 := by
          intro hmem
          obtain ⟨j, hj⟩ := List.mem_iff_getElem?.mp hmem
          rw [List.map_take] at hj
          have hj2 := (List.getElem?_eq_some_iff.mp hj).1
          rw [List.length_take] at hj2
          have hjl : j < i2 := by omega
          rw [List.getElem?_take_of_lt hjl] at hj
          have h2 : (trs.map fun t => kT3 t.1 t.2.1 t.2.2.1)[i2]? = some (kT3 t.1 t.2.1 t.2.2.1) := map_get ht
          have nd := ok.nd
          have hh1 := (List.getElem?_eq_some_iff.mp hj)
          have hh2 := (List.getElem?_eq_some_iff.mp h2)
          obtain ⟨b1, c1⟩ := hh1
          obtain ⟨b2, c2⟩ := hh2
          have := (List.getElem_inj nd).mp (c1.trans c2.symm)
          omega
        -- the test
        refine q_noD (i := 6) (.inl rfl) a11 (w9'.step0 st10) rfl (df9'.mono st10.g) (XT.to (xt_or (a := false) (xt_not (b := true) (xt_B (xe_call (φ := dat (.bool true)) (xa_cons (xe_var (φ := dat (eTr t)) rfl) (xa_cons (xe_var rfl) (xa_cons (xe_var rfl) xa_nil))) fun vs H Q h => ⟨t, cs, n, al, hn, hto, h⟩))) fun _ => xt_B ((xe_din (row3 rfl) (xe_var (i := 6) rfl)).to (by rw [setF_no no]))) rfl) fun H12 st12 a12 => ?_
        -- seen[row[:3]] = True
        refine q_dput (i := 6) a12 ((w9'.step0 st10).step0 st12) fSn rfl (df9'.mono (st10.g.trans st12.g)) (by omega) xe_bl (row3 rfl) fun G13 H13 kvs13 st13 hl13 df13 a13 w13 => ?_
        -- targets[row[:2]] = targets[row[:2]] + [row[2:]]
        have w13t : Own G13 (upd H13 Sn (.dT kvs13)) Dt (.dT kvs9) := (((w9.step0 st10).step0 st12).step0 st13).mut neS
        have df13t := df9.mono ((st10.g.trans st12.g).trans st13.g)
        have m13 := (((m9.step st10).step st12).step st13).mut (o' := .dT kvs13) (((w9'.step0 st10).step0 st12).step0 st13) (fun fs e => by cases e) (fun e => by cases e)
        have hdom : inDom n cs t.1 t.2.1 = true := by
          unfold inDom
          rw [decide_eq_true hto.s, decide_eq_true hto.c]
          rfl
        refine s_dput (i := 5) a13 w13t fDt rfl df13t (by omega) (xe_op (xe_dget (k := kSC t.1 t.2.1) (d := .list ((mvs (trs.take i2) t.1 t.2.1).map eMv)) (xe_var (i := 5) rfl) (row2 rfl) (by rw [mapG_at, if_pos hdom])) (xe_lst1 (row4 rfl)) (xr_cat (by
          have : (mvs (trs.take i2) t.1 t.2.1).length ≤ i2 := by
            unfold mvs
            rw [List.length_map]
            exact Nat.le_trans (List.length_filter_le _ _) (by rw [List.length_take]; exact Nat.min_le_left _ _)
          rw [List.length_map]
          show _ + 1 ≤ _
          omega))) (row2 rfl) fun G14 H14 kvs14 st14 hl14 df14 a14 w14 => ?_
        refine ⟨G14, ((st10.g.trans st12.g).trans st13.g).trans st14.g, a14.sub (by repeat' constructor), (m13.step st14).mut (w13t.step0 st14) (fun fs e => by cases e) (fun e => by cases e), ⟨kvs14, w14, ?_, by omega⟩, kvs13, (w13.step0 st14).mut (Ne.symm neS), ?_, by omega⟩
        · rw [mapG_put] at df14
          rw [mapG_ext (dom' := inDom n cs) (g' := fun s c => .list ((mvs (trs.take (i2 + 1)) s c).map eMv)) (fun a b => ?_) fun a b _ => ?_] at df14
          · exact df14
          · by_cases q : a = t.1 ∧ b = t.2.1
            · obtain ⟨rfl, rfl⟩ := q
              rw [hdom]
              rfl
            · have : (decide (a = t.1) && decide (b = t.2.1)) = false := by
                by_cases h1 : a = t.1
                · by_cases h2 : b = t.2.1
                  · exact absurd ⟨h1, h2⟩ q
                  · simp [h2]
                · simp [h1]
              rw [this, Bool.or_false]
          · rw [mvs_next ht]
            by_cases q : a = t.1 ∧ b = t.2.1
            · rw [if_pos q, if_pos q, q.1, q.2, List.map_append]
              rfl
            · rw [if_neg q, if_neg q, List.append_nil]
        · rw [setF_put] at df13
          rw [take_map_next ht]
          exact df13.mono st14.g
      · rintro G9 H9 σ9 ⟨a9, m9, ⟨kvs9, w9, df9, hl9⟩, _⟩
        rw [List.length_zipIdx, List.take_length] at df9
        rw [List.length_zipIdx] at hl9
        have hsm : trs.length ≤ 1000 := ok.sm
        have hini : ini < n := ok.ini
        -- is_number(initial, 0, size - 1)
        refine q_no a9 (XT.to (xt_not (b := true) (xt_B (XE.to (xe_call (φ := dat (.bool (decide ((0 : Int) ≤ (ini : Int)) && decide ((ini : Int) ≤ (n : Int) - 1)))) (xa_cons (xe_var rfl) (xa_cons xe_int (xa_cons (xe_op (xe_var rfl) xe_int xr_sub) xa_nil))) fun vs H Q h => ⟨_, _, _, h⟩) (by rw [decide_eq_true (by omega), decide_eq_true (by omega)]; rfl)))) rfl) fun G10 H10 st10 a10 => ?_
        have w10 := w9.step0 st10
        have df10 := df9.mono st10.g
        have key2 : ∀ (j : Nat) k v, kvs9[j]? = some (k, v) → ∃ s c, k = kSC s c ∧ inDom n cs s c = true := fun j k v e => by
          obtain ⟨d, hd⟩ := Option.isSome_iff_exists.mp (df9.mem e)
          obtain ⟨s, c, e1, e2, _⟩ := mapG_key hd
          exact ⟨s, c, e1, e2⟩
        -- for state, letter in targets
        refine q_forKeys (i := 5) a10 w10 rfl (fun j k v e => by
          obtain ⟨s, c, rfl, _⟩ := key2 j k v e
          exact ⟨_, _, rfl⟩) (fun od j G' H' σ' => At A0 G10 (upd H10 Dt (.frz od (.dT kvs9))) G' H' σ' [some (isV (.ref x)), some (dat (.str (aS cs))), some (dat (.int (n : Int))), some (dat (.list (trs.map eTr))), some (dat (.int (ini : Int))), some (isV (.ref Dt)), none, none, none, none, none, none])
          (fun od j G1 H1 σ1 h => h.stp) (fun od h => h.sub (by repeat' constructor)) ?_ ?_
        · intro od j xx yy v G11 H11 σ11 hk a11 hz
          obtain ⟨s, c, e1, hdom⟩ := key2 j _ v hk
          obtain ⟨e2, e3⟩ := List.cons.inj e1
          obtain ⟨e3, _⟩ := List.cons.inj e3
          subst e2 e3
          have w11 : Own G11 H11 Dt (.frz od (.dT kvs9)) := (show Own G10 (upd H10 Dt (.frz od (.dT kvs9))) Dt (.frz od (.dT kvs9)) from ⟨upd_same, w10.g⟩).step0 a11.stp
          have a12 := a11.re ((a11.env.set 9 (φ := dat (.int (s : Int))) (.int _)).set 10 (φ := dat (.str (sg c))) (.str _))
          have hne2 : mvs trs s c ≠ [] := by
            unfold inDom at hdom
            obtain ⟨h1, h2⟩ := Bool.and_eq_true_iff.mp hdom
            exact ok.all s c (of_decide_eq_true h1) (of_decide_eq_true h2)
          refine s_noD (i := 5) (.inr ⟨od, rfl⟩) a12 w11 rfl (df10.mono a11.stp.g) (xt_test (XE.to (xe_op (xe_dget (k := kSC s c) (d := .list ((mvs trs s c).map eMv)) (xe_var (i := 5) rfl) (xe_tup2 (xe_var rfl) (xe_var rfl)) (by rw [mapG_at, if_pos hdom])) xe_lst0 (xr_eqD (nice_mvs.shaped (by decide) trivial) (nice_mvs.shaped (a := []) (by decide) trivial))) (by
            have := nice_mvs.eqv (mvs trs s c) [] trivial trivial
            rw [show PyData.eqv (.list ((mvs trs s c).map eMv)) (.list []) = decide (mvs trs s c = []) from this, decide_eq_false hne2]))) fun H12 st12 a13 => ?_
          exact ⟨G11, a13.sub (by repeat' constructor)⟩
        · intro od G11 H11 σ11 a11 st11 w11
          have a12 : At A0 G Hb G11 (upd H11 Dt (.dT kvs9)) σ11 _ := ⟨a11.env, a10.stp.trans st11, trivial⟩
          have m12 := (m9.step st10).step st11
          have df12 := df10.mono st11.g
          generalize upd H11 Dt (.dT kvs9) = H12 at a12 w11 m12
          -- self.alphabet = ..
          refine q_fld a12 m12 hx rfl T.c_Automaton T.n_a1 (by decide +kernel) (by decide) (xe_var (φ := dat (.str (aS cs))) rfl) fun u1 G13 H13 H13' st13 q13 e13 a13 m13 => ?_
          have w13 : Own G13 H13' Dt (.dT kvs9) := by
            rw [e13]
            exact (w11.step0 st13).mut fun e => by
              have h := ((m12.step st13).o).h
              rw [← e, (w11.step0 st13).h] at h
              cases h
          refine q_fld a13 m13 hx rfl T.c_Automaton T.n_a2 (by decide +kernel) (by decide) (xe_var (φ := dat (.int (n : Int))) rfl) fun u2 G14 H14 H14' st14 q14 e14 a14 m14 => ?_
          have w14 : Own G14 H14' Dt (.dT kvs9) := by
            rw [e14]
            exact (w13.step0 st14).mut fun e => by
              have h := ((m13.step st14).o).h
              rw [← e, (w13.step0 st14).h] at h
              cases h
          refine q_fld a14 m14 hx rfl T.c_Automaton T.n_a3 (by decide +kernel) (by decide) (xe_var (φ := dat (.int (ini : Int))) rfl) fun u3 G15 H15 H15' st15 q15 e15 a15 m15 => ?_
          have w15 : Own G15 H15' Dt (.dT kvs9) := by
            rw [e15]
            exact (w14.step0 st15).mut fun e => by
              have h := ((m14.step st15).o).h
              rw [← e, (w14.step0 st15).h] at h
              cases h
          have df15 := ((df12.mono st13.g).mono st14.g).mono st15.g
          -- self.own_moves = {key: sorted(targets[key]) for key in targets}
          refine ⟨Dt, .dT kvs9, w15.h, True.intro, fun od => ?_⟩
          obtain ⟨a16, w16⟩ := a15.mut (o' := .frz od (.dT kvs9)) w15 fDt nb0
          have m16 := m15.mut (o' := .frz od (.dT kvs9)) w15 (fun fs e => by cases e) fun e => by cases e
          refine ⟨_, a16.own (i := 5) rfl, Dt, od, rfl, .inr ⟨kvs9, upd_same, ?_⟩⟩
          intro D2 hD2
          obtain ⟨a17, w17, fD2⟩ := a16.fresh (o := .dT []) hD2
          have st17 : Stp A0 G15 (upd H15' Dt (.frz od (.dT kvs9))) G15 (upd (upd H15' Dt (.frz od (.dT kvs9))) D2 (.dT [])) := Stp.only a16.s (same_new hD2)
          have m17 := m16.step st17
          have wD17 := w16.step0 st17
          have neD : Dt ≠ D2 := fun e => by
            rw [← e, w16.h] at hD2
            cases hD2
          refine ⟨fun i mm H' => mm = kvs9.length - i ∧ i ≤ kvs9.length ∧ ∃ G' kvs2, At A0 G Hb G' H' _ _ ∧ Same G15 G' ∧ Mkg G' H' (He.ga K "Automaton") x dx _ _ ∧ Own G' H' Dt (.frz od (.dT kvs9)) ∧ Own G' H' D2 (.dT kvs2) ∧ DF G' kvs2 (mapG (fun s c => inDom n cs s c && (kvs9.take i).any fun p => decide (p.1 = kSC s c)) (mvD trs)) ∧ kvs2.length ≤ i,
            ⟨kvs9.length, by simp, Nat.zero_le _, G15, [], a17, Same.refl _, m17, wD17, w17, ?_, Nat.zero_le _⟩, ?_⟩
          · have e : (fun _ => none : DFn) = mapG (fun s c => inDom n cs s c && (kvs9.take 0).any fun p => decide (p.1 = kSC s c)) (mvD trs) := by
              funext k
              cases e : mapG (fun s c => inDom n cs s c && (kvs9.take 0).any fun p => decide (p.1 = kSC s c)) (mvD trs) k with
              | none => rfl
              | some d =>
                obtain ⟨s, c, _, hd, _⟩ := mapG_key e
                simp at hd
            rw [← e]
            exact DF.nil
          · rintro i mm H18 ⟨rfl, hle, G18, kvs18, a18, s18, m18, wD18, w18, df18, hl18⟩
            by_cases lt : i < kvs9.length
            · refine .inr ⟨⟨wD18.h, lt⟩, fun H' => ∃ G' kvs2, At A0 G Hb G' H' _ _ ∧ Same G15 G' ∧ Mkg G' H' (He.ga K "Automaton") x dx _ _ ∧ Own G' H' Dt (.frz od (.dT kvs9)) ∧ Own G' H' D2 (.dT kvs2) ∧ DF G' kvs2 (mapG (fun s c => inDom n cs s c && (kvs9.take (i + 1)).any fun p => decide (p.1 = kSC s c)) (mvD trs)) ∧ kvs2.length ≤ i + 1, fun H' ⟨G', kvs2, h⟩ => ⟨_, by omega, rfl, lt, G', kvs2, h⟩, fun z H19 y => ?_⟩
              obtain ⟨rfl, kk, v, q, hk, rfl, hq⟩ := y
              obtain ⟨s, c, rfl, hdom⟩ := key2 i kk v hk
              refine ⟨(Off.set (js := [11]) (by simp)).wipe (by simp), tYes_if ?_⟩
              have ns : ∀ o : Option V, ((wipe σ11 [11]).set 11 o)[5]? = σ11[5]? := fun o => by
                rw [List.getElem?_set_ne (by decide), wipe_get, if_neg (fun z => by simp at z)]
              have n11 : ((wipe σ11 [11]).set 11 (some (V.ref q)))[11]? = some (some (.ref q)) := List.getElem?_set_self (by rw [wipe_length, a18.env.len]; simp)
              refine ⟨.ref q, n11, ?_⟩
              -- sorted(targets[key])
              obtain ⟨v2, hv2, pv2⟩ := df15.yes (kSC s c) (.list ((mvs trs s c).map eMv)) (by rw [mapG_at, if_pos hdom])
              refine ⟨.ref Dt, (ns _).trans (a18.own (i := 5) rfl), .ref q, n11, Dt, v2, rfl, by rw [← hv2]; exact dget_rd (.inr ⟨od, wD18.h⟩) hq, ?_⟩
              obtain ⟨sa, sb, sc⟩ := sortable_mv (mvs trs s c)
              refine tNil_of ?_
              refine xc_sorted (A := A0) sa sb sc G18 _ [v2] _ a18.s trivial (.cons (pv2.mono s18) .nil) fun z G20 H20 st20 _ p20 => ?_
              have w20 := w18.step0 st20
              have hq2 : H20 q = some (.tup ((kSC s c).map kV)) := st20.same _ _ hq
              refine ⟨_, .t w20.h hq2 (Nat.lt_of_le_of_lt (show kvs18.length ≤ 100000 by omega) (by decide)), ?_⟩
              have a20 := a18.step0 st20
              obtain ⟨a21, w21⟩ := a20.mut (o' := .dT (L2.putK kvs18 (kSC s c) z)) w20 fD2 nb0
              refine ⟨G20, _, a21, s18.trans st20.g, (m18.step st20).mut w20 (fun fs e => by cases e) (fun e => by cases e), (wD18.step0 st20).mut neD, w21, ?_, by have := length_putK kvs18 (kSC s c) z; omega⟩
              have := (df18.mono st20.g).put (k := kSC s c) (d := mvD trs s c) p20
              rw [mapG_put, mapG_ext (dom' := fun s c => inDom n cs s c && (kvs9.take (i + 1)).any fun p => decide (p.1 = kSC s c)) (g' := mvD trs) (fun a b => ?_) fun a b _ => ?_] at this
              · exact this
              · rw [List.take_add_one, hk, List.any_append]
                show _ = (inDom n cs a b && (_ || (decide (kSC s c = kSC a b) || false)))
                by_cases q : a = s ∧ b = c
                · obtain ⟨rfl, rfl⟩ := q
                  rw [hdom]
                  simp
                · have n1 : (decide (a = s) && decide (b = c)) = false := by
                    by_cases h1 : a = s
                    · by_cases h2 : b = c
                      · exact absurd ⟨h1, h2⟩ q
                      · simp [h2]
                    · simp [h1]
                  have n2 : decide (kSC s c = kSC a b) = false := decide_eq_false fun e => q ⟨(kSC_inj.mp e).1.symm, (kSC_inj.mp e).2.symm⟩
                  rw [n1, n2, Bool.or_false, Bool.or_false, Bool.or_false]
              · by_cases q : a = s ∧ b = c
                · rw [if_pos q, q.1, q.2]
                · rw [if_neg q]
            · have e : i = kvs9.length := by omega
              subst e
              refine .inl ⟨⟨wD18.h, Nat.le_refl _⟩, ?_⟩
              rw [List.take_length] at df18
              have dfe : DF G18 kvs18 (autF ⟨cs, n, trs, ini⟩) := by
                unfold autF
                rw [mapG_ext (dom' := inDom n cs) (g' := mvD trs) (fun a b => ?_) fun a b _ => rfl] at df18
                · exact df18
                · cases hd : inDom n cs a b with
                  | false => rfl
                  | true =>
                    rw [valV_any, df15.isSome, mapG_at, if_pos hd]
                    rfl
              refine ⟨_, a18.own (i := 0) rfl, x, _, dx, _, rfl, m18.o.h, T.c_Automaton, T.n_a4, Nat.lt_of_le_of_lt zip_le (by decide), ?_⟩
              rw [putF_zip m18.l (by decide +kernel)]
              obtain ⟨a19, w19⟩ := a18.mut (o' := .ins (He.ga K "Automaton") dx ((["alphabet", "size", "initial", "own_moves"] : List Str).zip [u1, u2, u3, .ref D2])) m18.o hx nb0
              have m19 : Mkg G18 (upd H18 x (.ins (He.ga K "Automaton") dx ((["alphabet", "size", "initial", "own_moves"] : List Str).zip [u1, u2, u3, .ref D2]))) (He.ga K "Automaton") x dx ["alphabet", "size", "initial", "own_moves"] [u1, u2, u3, .ref D2] := ⟨w19, m18.d.mut m18.ne, rfl⟩
              have nx1 : Dt ≠ x := fun e => by
                have h := wD18.h
                rw [e, m18.o.h] at h
                cases h
              have nx2 : D2 ≠ x := fun e => by
                have h := w18.h
                rw [e, m18.o.h] at h
                cases h
              have wD19 := wD18.mut (l := x) (o' := .ins (He.ga K "Automaton") dx ((["alphabet", "size", "initial", "own_moves"] : List Str).zip [u1, u2, u3, .ref D2])) nx1
              have wE19 := w18.mut (l := x) (o' := .ins (He.ga K "Automaton") dx ((["alphabet", "size", "initial", "own_moves"] : List Str).zip [u1, u2, u3, .ref D2])) nx2
              refine ⟨wD19.h, ?_⟩
              obtain ⟨a20, w20⟩ := a19.mut (o' := .dT kvs9) wD19 fDt nb0
              have m20 := m19.mut (o' := .dT kvs9) wD19 (fun fs e => by cases e) fun e => by cases e
              have wE20 := wE19.mut (l := Dt) (o' := .dT kvs9) (Ne.symm neD)
              obtain ⟨a21, s21⟩ := a20.seal wE20 fD2 nb0
              have m21 := m20.seal wE20 (fun fs e => by cases e) fun e => by cases e
              obtain ⟨G22, st22, p22⟩ := m21.done (φs := [dat (.str (aS cs)), dat (.int (n : Int)), dat (.int (ini : Int)), dicS (autF ⟨cs, n, trs, ini⟩)]) a21 hx hdx (.cons (q13.mono (st14.g.trans (st15.g.trans (s18.trans s21)))) (.cons (q14.mono (st15.g.trans (s18.trans s21))) (.cons (q15.mono (s18.trans s21)) (.cons ⟨D2, kvs18, rfl, .inl upd_same, dfe.mono s21⟩ .nil))))
              exact k G22 _ st22 p22
end
end Ls
/-! Enc3 -/
set_option maxHeartbeats 4000000
/-! Data of boards. -/
namespace Ls
open PySem PySem.Spec PyProof.Rows L2
/-! ### rows of a board -/
abbrev Bm := Nat × Nat × Nat
def eBm (m : Bm) : PyData := .tuple [.int (m.1 : Int), .str (sg m.2.1), .int (m.2.2 : Int)]
def eLt (m : Nat × Nat) : PyData := .tuple [.str (sg m.1), .int (m.2 : Int)]
def eNs (l : List Nat) : PyData := .list (l.map fun i : Nat => PyData.int (i : Int))
structure Brd where
  ow : List Nat
  ms : List Bm
def bmvs (ms : List Bm) (n : Nat) : List (Nat × Nat) := (ms.filter fun m => decide (m.1 = n)).map (·.2)
def bmvD (ms : List Bm) (n : Nat) : PyData := .list (sortD ((bmvs ms n).map eLt))
structure BmOk (n : Nat) (m : Bm) : Prop where
  a : m.1 < n
  c : 97 ≤ m.2.1 ∧ m.2.1 ≤ 122
  b : m.2.2 < n
structure BrdOk (b : Brd) : Prop where
  one : 1 ≤ b.ow.length
  most : b.ow.length ≤ 1000
  ow : ∀ o ∈ b.ow, o ≤ 1
  ok : ∀ m ∈ b.ms, BmOk b.ow.length m
  nd : b.ms.Nodup
  all : ∀ n, n < b.ow.length → bmvs b.ms n ≠ []
  sm : b.ms.length ≤ 1000
theorem bmvD_map (ms : List Bm) (n : Nat) : ∃ m : List (Nat × Nat), m.Perm (bmvs ms n) ∧ bmvD ms n = .list (m.map eLt) := by
  obtain ⟨m, p, e⟩ := sortD_map eLt (bmvs ms n)
  exact ⟨m, p, by unfold bmvD; rw [e]⟩
theorem bmvs_next {ms : List Bm} {i : Nat} {t : Bm} (h : ms[i]? = some t) (a : Nat) : bmvs (ms.take (i + 1)) a = bmvs (ms.take i) a ++ if a = t.1 then [t.2] else [] := by
  unfold bmvs
  rw [List.take_add_one, h, List.filter_append, List.map_append]
  congr 1
  by_cases q : a = t.1
  · rw [if_pos q, q]
    simp
  · rw [if_neg q]
    have : ¬ t.1 = a := fun e => q e.symm
    simp [this]
/-- anything -/
def anyS : SP := ⟨fun _ _ => True, fun _ h => h⟩
abbrev boardX (K : PySem.W.Frag) (b : Brd) (φ : SP) : SP := insS (He.ga K "Board") ["own_owners", "own_moves"] [dat (eNs b.ow), φ]
abbrev boardS (K : PySem.W.Frag) (b : Brd) : SP := boardX K b (dat (.list ((List.range b.ow.length).map (bmvD b.ms))))
/-! ### texts -/
theorem join_sg : ∀ l : List Nat, Str.join "" (l.map sg) = aS l
  | [] => rfl
  | [c] => rfl
  | c :: d :: r => by
    have ih := join_sg (d :: r)
    show sg c ++ "" ++ Str.join "" (sg d :: r.map sg) = _
    rw [show Str.join "" (sg d :: r.map sg) = aS (d :: r) from ih]
    show (⟨#[c] ++ #[] ++ (d :: r).toArray⟩ : Str) = ⟨(c :: d :: r).toArray⟩
    congr 1
    simp
section
variable {X : Cx} {o e : Expr} {to te : TE} (K : PySem.W.Frag)
def rJoinQ (K : PySem.W.Frag) : V → List V → Hp → VK → Prop := fun x xs H Q => ∃ a p, ∃ ys : List Str, x = .str a ∧ xs = [.ref p] ∧ (SqL K H p (ys.map V.str) ∨ SqT K H p (ys.map V.str)) ∧ (ys.map (·.length)).sum + ys.length * a.length ≤ 16777216 ∧ Q (.str (Txt.join a ys)) H
theorem pe_joinK {apos pos : Pos} (ho : PE X o to) (he : PE X e te) (h : X.K = K := by rfl) (hs : starEach [e] X.env = [(false, eval e X.env)] := by rfl) (hbase : attributeBase o "join" X.env (eval o X.env) = eval o X.env := by rfl) (hline : (apos.endLine == pos.line) = true := by rfl) :
    PE X (.Call (.Attribute o "join" apos) [e] [] pos) (tM1 (rJoinQ K) to te) := by
  subst h
  exact pe_join ho he hs hbase hline
end
def rListDQ : List V → Hp → VK → Prop := fun xs H Q => ∃ (a : Addr) (kvs : List (Key × V)), xs = [.ref a] ∧ Rd H a (.dK kvs) ∧ ∀ p, H p = none → Q (.ref p) (upd H p (.lst (kvs.map fun kv => kV kv.1)))
theorem call_listDQ {X : Cx} (hc : X.calm = true) : CallR X (.type "list") rListDQ := call_listD hc
section
variable {A : Amb} {ρ : Env} {te ta tb tc : TE} {K : PySem.W.Frag} {G0 H0 G H : Hp} {σ : L2.St}
theorem xe_joinSg {l : List Nat} (h : XE A te ρ (dat (.list (l.map fun c => .str (sg c))))) (hl : l.length ≤ 10000000) : XE A (tM1 (rJoinQ K) (tC (.str "")) te) ρ (dat (.str (aS l))) := fun G H σ Q E s j k => by
  refine ⟨⟨_, rfl⟩, h G H σ _ E s j fun v G1 H1 t1 j1 p1 => ?_⟩
  obtain ⟨a, xs, rfl, ha, r⟩ := Rp.list_inv p1
  have e : xs = (l.map sg).map V.str := by
    have h2 : RpAll G1 xs ((l.map sg).map PyData.str) := by
      rw [List.map_map]
      exact r
    exact rp_strs h2
  refine ⟨"", a, l.map sg, rfl, rfl, .inl (SqL.of (by rw [← e]; exact t1.s _ _ ha)), ?_, ?_⟩
  · rw [List.map_map, List.length_map]
    have e2 : l.map ((fun z : Str => z.length) ∘ sg) = List.replicate l.length 1 := by
      rw [List.eq_replicate_iff]
      refine ⟨by simp, fun b hb => ?_⟩
      obtain ⟨c, _, rfl⟩ := List.mem_map.mp hb
      rfl
    rw [e2, List.sum_replicate_nat]
    show l.length * 1 + l.length * 0 ≤ _
    omega
  · rw [show Txt.join "" (l.map sg) = aS l from (StrLaws.glued_eq_join _ _).trans (join_sg l)]
    exact k _ G1 H1 t1 j1 (.str _)
/-- a dict by texts that stands -/
def dkS (kvs : List (Key × V)) : SP := ⟨fun G v => ∃ a, v = .ref a ∧ G a = some (.dK kvs), fun s ⟨a, e, h⟩ => ⟨a, e, s _ _ h⟩⟩
theorem xc_listDK {kvs : List (Key × V)} : XC A rListDQ [dkS kvs] (dat (.list (kvs.map fun kv => kD kv.1))) := fun G H vs Q s j hv k => by
  obtain ⟨v, rfl, a, rfl, ga⟩ := ps_one hv
  refine ⟨a, kvs, rfl, .inl (s _ _ ga), fun l hl => ?_⟩
  have t := Stp.new (o := .lst (kvs.map fun kv => kV kv.1)) s hl
  refine k _ _ _ t.up (t.j j) (.lst upd_same ?_)
  have : ∀ ks : List (Key × V), RpAll (upd G l (.lst (kvs.map fun kv => kV kv.1))) (ks.map fun kv => kV kv.1) (ks.map fun kv => kD kv.1) := fun ks => by
    induction ks with
    | nil => exact .nil
    | cons q r ih =>
      obtain ⟨k, v⟩ := q
      refine .cons ?_ ih
      cases k with
      | inl i => exact .int i
      | inr x => exact .str x
  exact this kvs
end
end Ls
/-! F9 -/
set_option maxHeartbeats 4000000
namespace Ls
open PySem PySem.Spec PyProof.Rows L2
section
variable {P : Program} {w : World} {K : PySem.W.Frag} {mg : Str → Option Value} {base : Heap}
theorem eNs_get {l : List Nat} {i o : Nat} (h : l[i]? = some o) : (l.map fun i : Nat => PyData.int (i : Int))[i]? = some (.int (o : Int)) := map_get h
/-! ### boards: methods that look -/
def sp_b_is_move (K : PySem.W.Frag) : Sp := fun vs H Q E => ∃ (b : Brd) (m : Bm), BmOk b.ow.length m ∧ b.ow.length ≤ 1000 ∧ spA A0 [boardX K b anyS, dat (eBm m)] (dat (.bool true)) vs H Q E
abbrev N_b_is_move : List Str := ["self", "row", "last"]
theorem sc_b_is_move : FnScope ["self", "row", "last"] ["self", "row"] (defScope s_b_is_move) := ⟨rfl, rfl, rfl, by decide +kernel, rfl, by decide +kernel, by decide +kernel⟩
theorem ok_b_is_move {f : Addr} {fd : FuncData} (F : FnP K "is_move" "Board.is_move" s_b_is_move [] [] f fd) (T : Fx K mg) (F_is_number : Fn P w K mg base "is_number" 1 ["value", "least", "most"] [] sp_is_number) : FnOk P w K mg base CX0 2 f fd ["self", "row"] (sp_b_is_move K) := by
  refine F.ok sc_b_is_move (fun vs H Q E h => ?_) (fun cdv A outer st H vs Q E hr h => ?_)
  · obtain ⟨_, _, _, _, h⟩ := h
    exact spA_len h
  · obtain ⟨b, m, ok, hw, G, sG, _, ps, k⟩ := h
    obtain ⟨v1, v2, rfl, p1, p2⟩ := ps_two ps
    refine ⟨_, PSs.nox (pss_cons (ps_if (PW.pt (pw_or (pt_not (pt_val (pe_callB (call_isiK' K) (by rfl) T.b_isinstance bt_isinstance (pa_cons (pv 1) (pa_cons (pe_bty "tuple" (by rfl) T.b_tuple bt_tuple) pa_nil))))) (pw_or (pt_cmpR op_ne (pe_callB (call_lenK K) (by rfl) T.b_len PySem.boot_len (pa_cons (pv 1) pa_nil)) pe_int (nomark _)) (pw_or (pt_not (pt_val (pe_callB (call_isiK' K) (by rfl) T.b_isinstance bt_isinstance (pa_cons (pe_ix (ix_tupK K) (pv 1) pe_int (fun _ _ => rfl)) (pa_cons (pe_bty "str" (by rfl) T.b_str bt_str) pa_nil))))) (pw_or1 (pt_cmpR op_ne (pe_callB call_lenS (by rfl) T.b_len PySem.boot_len (pa_cons (pe_ix (ix_tupK K) (pv 1) pe_int (fun _ _ => rfl)) pa_nil)) pe_int (nomark _))))))) (pss_one (ps_ret pe_bl)) pss_nil)
  (pss_cons (ps_set (i := 2) sc_b_is_move.nd rfl (Or.inl rfl) (pe_op op_sub (pe_callB (call_lenK K) (by rfl) T.b_len PySem.boot_len (pa_cons (pe_fldK K (pv 0) rfl) pa_nil)) pe_int))
  (pss_one (ps_ret (pe_and (pe_cmpR op_in_sign (pe_ix (ix_tupK K) (pv 1) pe_int (fun _ _ => rfl)) (pe_gstr rfl T.mLET) (by rfl)) (pe_and (pe_fn F_is_number (hr.mono (by decide)) rfl (pa_cons (pe_ix (ix_tupK K) (pv 1) pe_int (fun _ _ => rfl)) (pa_cons pe_int (pa_cons (pv 2) pa_nil)))) (pe_one (pe_fn F_is_number (hr.mono (by decide)) rfl (pa_cons (pe_ix (ix_tupK K) (pv 1) pe_int (fun _ _ => rfl)) (pa_cons pe_int (pa_cons (pv 2) pa_nil))))))))))), ?_⟩
    have a : At A0 G H G H _ [some (boardX K b anyS), some (dat (.tuple [.int (m.1 : Int), .str (sg m.2.1), .int (m.2.2 : Int)])), none] := At.begin (vs := [v1, v2]) (N := N_b_is_move) ((EnvOk.nil.skip.cons p2).cons p1) sG trivial
    refine q_no a (XT.to (xt_or (a := false) (xt_not (b := true) (xt_B (xe_cb (xa_cons (xe_var rfl) (xa_cons xe_cv xa_nil)) (xc_isi (by simp) kit_same)))) fun _ => xt_or (a := false) (xt_test ((xe_op (xe_cb (xa_cons (xe_var rfl) xa_nil) xc_lenT) xe_int xr_neI).to (d' := .bool false) rfl)) fun _ => xt_or (a := false) (xt_not (b := true) (xt_B (xe_cb (xa_cons (xe_op (xe_var rfl) xe_int (xr_ixTn (n := 1) rfl)) (xa_cons xe_cv xa_nil)) (xc_isi (by simp) kit_same)))) fun _ => xt_test ((xe_op (xe_cb (xa_cons (xe_op (xe_var rfl) xe_int (xr_ixTn (n := 1) rfl)) xa_nil) (xc_lenS (by rw [sg_len]; omega))) xe_int xr_neI).to (d' := .bool false) (by rw [sg_len]; rfl))) rfl) fun G1 H1 st1 a1 => ?_
    refine q_asg (φ := dat (.int ((b.ow.length : Int) - 1))) a1 ((xe_op (xe_cb (xa_cons (xe_fld (i := 0) (xe_var rfl) T.c_Board T.n_b1 (by decide +kernel) rfl) xa_nil) xc_lenL) xe_int xr_sub).to (by rw [List.length_map])) fun v2 G2 H2 st2 _ a2 => ?_
    have h1 := ok.a
    have h2 := ok.b
    refine s_ret a2 (xe_and (a := true) (b := true) ((xe_op (xe_op (xe_var rfl) xe_int (xr_ixTn (n := 1) rfl)) xe_str xr_inSg).to (by rw [decide_eq_true (let_mem ok.c)])) fun _ => xe_and (a := true) (b := true) (XE.to (xe_call (φ := dat (.bool (decide ((0 : Int) ≤ (m.1 : Int)) && decide ((m.1 : Int) ≤ (b.ow.length : Int) - 1)))) (xa_cons (xe_op (xe_var rfl) xe_int (xr_ixTn (n := 0) rfl)) (xa_cons xe_int (xa_cons (xe_var rfl) xa_nil))) fun vs H Q h => ⟨_, _, _, h⟩) (by rw [decide_eq_true (by omega), decide_eq_true (by omega)]; rfl)) fun _ => XE.to (xe_call (φ := dat (.bool (decide ((0 : Int) ≤ (m.2.2 : Int)) && decide ((m.2.2 : Int) ≤ (b.ow.length : Int) - 1)))) (xa_cons (xe_op (xe_var rfl) xe_int (xr_ixTn (n := 2) rfl)) (xa_cons xe_int (xa_cons (xe_var rfl) xa_nil))) fun vs H Q h => ⟨_, _, _, h⟩) (by rw [decide_eq_true (by omega), decide_eq_true (by omega)]; rfl)) fun v3 G3 H3 st3 _ p => ?_
    exact k v3 G3 H3 st3 trivial p
def sp_b_check_node (K : PySem.W.Frag) : Sp := fun vs H Q E => ∃ (b : Brd) (n : Nat), BrdOk b ∧ n < b.ow.length ∧ spA A0 [boardS K b, dat (.int (n : Int))] (dat .none) vs H Q E
theorem sc_b_check_node : FnScope ["self", "node"] ["self", "node"] (defScope s_b_check_node) := ⟨rfl, rfl, rfl, by decide +kernel, rfl, by decide +kernel, by decide +kernel⟩
theorem ok_b_check_node {f : Addr} {fd : FuncData} (F : FnP K "check_node" "Board.check_node" s_b_check_node [] [] f fd) (T : Fx K mg) (F_is_number : Fn P w K mg base "is_number" 1 ["value", "least", "most"] [] sp_is_number) : FnOk P w K mg base CX0 2 f fd ["self", "node"] (sp_b_check_node K) := by
  refine F.ok sc_b_check_node (fun vs H Q E h => ?_) (fun cdv A outer st H vs Q E hr h => ?_)
  · obtain ⟨_, _, _, _, h⟩ := h
    exact spA_len h
  · obtain ⟨b, n, ok, hn, G, sG, _, ps, k⟩ := h
    obtain ⟨v1, v2, rfl, p1, p2⟩ := ps_two ps
    refine ⟨_, PSs.nox (pss_one (ps_if (pt_not (pt_val (pe_fn F_is_number (hr.mono (by decide)) rfl (pa_cons (pv 1) (pa_cons pe_int (pa_cons (pe_op op_sub (pe_callB (call_lenK K) (by rfl) T.b_len PySem.boot_len (pa_cons (pe_fldK K (pv 0) rfl) pa_nil)) pe_int) pa_nil)))))) (pss_one ps_never) pss_nil)), ?_⟩
    have a : At A0 G H G H _ [some (boardS K b), some (dat (.int (n : Int)))] := At.begin (vs := [v1, v2]) (N := ["self", "node"]) ((EnvOk.nil.cons p2).cons p1) sG trivial
    refine s_no a (XT.to (xt_not (b := true) (xt_B (XE.to (xe_call (φ := dat (.bool (decide ((0 : Int) ≤ (n : Int)) && decide ((n : Int) ≤ (b.ow.length : Int) - 1)))) (xa_cons (xe_var rfl) (xa_cons xe_int (xa_cons (XE.to (xe_op (xe_cb (xa_cons (xe_fld (i := 0) (xe_var rfl) T.c_Board T.n_b1 (by decide +kernel) rfl) xa_nil) xc_lenL) xe_int xr_sub) (by rw [List.length_map])) xa_nil))) fun vs H Q h => ⟨_, _, _, h⟩) (by rw [decide_eq_true (by omega), decide_eq_true (by omega)]; rfl)))) rfl) fun G1 H1 st1 a1 => ?_
    exact k .non G1 H1 st1 trivial .non
def sp_b_owner (K : PySem.W.Frag) : Sp := fun vs H Q E => ∃ (b : Brd) (n o : Nat), BrdOk b ∧ b.ow[n]? = some o ∧ spA A0 [boardS K b, dat (.int (n : Int))] (dat (.int (o : Int))) vs H Q E
theorem sc_b_owner : FnScope ["self", "node"] ["self", "node"] (defScope s_b_owner) := ⟨rfl, rfl, rfl, by decide +kernel, rfl, by decide +kernel, by decide +kernel⟩
theorem ok_b_owner {f : Addr} {fd : FuncData} (F : FnP K "owner" "Board.owner" s_b_owner [] [] f fd) (T : Fx K mg) (M_b_check_node : Md P w K mg base (He.ga K "Board") "check_node" 2 ["self", "node"] (sp_b_check_node K)) : FnOk P w K mg base CX0 3 f fd ["self", "node"] (sp_b_owner K) := by
  refine F.ok sc_b_owner (fun vs H Q E h => ?_) (fun cdv A outer st H vs Q E hr h => ?_)
  · obtain ⟨_, _, _, _, _, h⟩ := h
    exact spA_len h
  · obtain ⟨b, n, o, ok, ho, G, sG, _, ps, k⟩ := h
    obtain ⟨v1, v2, rfl, p1, p2⟩ := ps_two ps
    refine ⟨_, PSs.nox (pss_cons (ps_expr (pe_md (pv 0) T.c_Board M_b_check_node (hr.mono (by decide)) (pa_cons (pv 1) pa_nil)))
  (pss_one (ps_ret (pe_ix (ix_listK K) (pe_fldK K (pv 0) rfl) (pv 1) (fun _ _ => rfl))))), ?_⟩
    have a : At A0 G H G H _ [some (boardS K b), some (dat (.int (n : Int)))] := At.begin (vs := [v1, v2]) (N := ["self", "node"]) ((EnvOk.nil.cons p2).cons p1) sG trivial
    have hn := (List.getElem?_eq_some_iff.mp ho).1
    refine q_drop (φ := dat .none) a (xe_meth (xe_var rfl) (by decide +kernel) (xa_cons (xe_var rfl) xa_nil) fun vs H Q h => ⟨b, n, ok, hn, h⟩) fun v1 G1 H1 st1 a1 _ => ?_
    refine s_ret a1 (xe_op (xe_fld (i := 0) (xe_var rfl) T.c_Board T.n_b1 (by decide +kernel) rfl) (xe_var rfl) (xr_ixLn (eNs_get ho))) fun v3 G3 H3 st3 _ p => ?_
    exact k v3 G3 H3 st3 trivial p
def sp_b_moves_of (K : PySem.W.Frag) : Sp := fun vs H Q E => ∃ (b : Brd) (n : Nat), BrdOk b ∧ n < b.ow.length ∧ spA A0 [boardS K b, dat (.int (n : Int))] (dat (bmvD b.ms n)) vs H Q E
theorem sc_b_moves_of : FnScope ["self", "node"] ["self", "node"] (defScope s_b_moves_of) := ⟨rfl, rfl, rfl, by decide +kernel, rfl, by decide +kernel, by decide +kernel⟩
theorem ok_b_moves_of {f : Addr} {fd : FuncData} (F : FnP K "moves_of" "Board.moves_of" s_b_moves_of [] [] f fd) (T : Fx K mg) (M_b_check_node : Md P w K mg base (He.ga K "Board") "check_node" 2 ["self", "node"] (sp_b_check_node K)) : FnOk P w K mg base CX0 3 f fd ["self", "node"] (sp_b_moves_of K) := by
  refine F.ok sc_b_moves_of (fun vs H Q E h => ?_) (fun cdv A outer st H vs Q E hr h => ?_)
  · obtain ⟨_, _, _, _, h⟩ := h
    exact spA_len h
  · obtain ⟨b, n, ok, hn, G, sG, _, ps, k⟩ := h
    obtain ⟨v1, v2, rfl, p1, p2⟩ := ps_two ps
    refine ⟨_, PSs.nox (pss_cons (ps_expr (pe_md (pv 0) T.c_Board M_b_check_node (hr.mono (by decide)) (pa_cons (pv 1) pa_nil)))
  (pss_one (ps_ret (pe_callTy (call_listK K) (by rfl) T.b_list bt_list (pa_cons (pe_ix (ix_listK K) (pe_fldK K (pv 0) rfl) (pv 1) (fun _ _ => rfl)) pa_nil))))), ?_⟩
    have a : At A0 G H G H _ [some (boardS K b), some (dat (.int (n : Int)))] := At.begin (vs := [v1, v2]) (N := ["self", "node"]) ((EnvOk.nil.cons p2).cons p1) sG trivial
    refine q_drop (φ := dat .none) a (xe_meth (xe_var rfl) (by decide +kernel) (xa_cons (xe_var rfl) xa_nil) fun vs H Q h => ⟨b, n, ok, hn, h⟩) fun v1 G1 H1 st1 a1 _ => ?_
    refine s_ret a1 (xe_cb (xa_cons (xe_op (xe_fld (i := 1) (xe_var rfl) T.c_Board T.n_b2 (by decide +kernel) rfl) (xe_var rfl) (xr_ixLn (d := bmvD b.ms n) (map_get (List.getElem?_range hn)))) xa_nil) xc_list) fun v3 G3 H3 st3 _ p => ?_
    exact k v3 G3 H3 st3 trivial p
/-! ### plans -/
abbrev planS (K : PySem.W.Frag) (pl : Int) (rows ranks : List PyData) : SP := insS (He.ga K "Plan") ["player", "own_rows", "own_ranks"] [dat (.int pl), dat (.list rows), dat (.list ranks)]
def sp_p_init (K : PySem.W.Frag) : Sp := fun vs H Q E => ∃ (pl : Int) (rows ranks : List PyData), spI (He.ga K "Plan") [dat (.int pl), dat (.list rows), dat (.list ranks)] (planS K pl rows ranks) vs H Q E
abbrev N_p_init : List Str := ["self", "player", "rows", "ranks"]
theorem sc_p_init : FnScope ["self", "player", "rows", "ranks"] ["self", "player", "rows", "ranks"] (defScope s_p_init) := ⟨rfl, rfl, rfl, by decide +kernel, rfl, by decide +kernel, by decide +kernel⟩
theorem ok_p_init {f : Addr} {fd : FuncData} (F : FnP K "__init__" "Plan.__init__" s_p_init [] [] f fd) (T : Fx K mg) : FnOk P w K mg base CX0 1 f fd ["self", "player", "rows", "ranks"] (sp_p_init K) := by
  refine F.ok sc_p_init (fun vs H Q E h => ?_) (fun cdv A outer st H vs Q E hr h => ?_)
  · obtain ⟨_, _, _, h⟩ := h
    exact spI_len h
  · obtain ⟨pl, rows, ranks, G, Hb, x, dx, us, hx, hdx, hne, rfl, rfl, sG, ps, k⟩ := h
    obtain ⟨v1, v2, v3, rfl, p1, p2, p3⟩ := ps_three ps
    refine ⟨_, PSs.nox (pss_cons (ps_fld (pv 0) (pv 1) rfl)
  (pss_cons (ps_fld (pv 0) (pe_callTy (call_listK K) (by rfl) T.b_list bt_list (pa_cons (pv 2) pa_nil)) rfl)
  (pss_one (ps_fld (pv 0) (pe_callTy (call_listK K) (by rfl) T.b_list bt_list (pa_cons (pv 3) pa_nil)) rfl)))), ?_⟩
    obtain ⟨a, m⟩ := init_begin (C := He.ga K "Plan") (vs := [.ref x, v1, v2, v3]) (N := N_p_init) (ρ := [some (isV (.ref x)), some (dat (.int pl)), some (dat (.list rows)), some (dat (.list ranks))]) sG hx hdx hne ((((EnvOk.nil.cons p3).cons p2).cons p1).cons rfl)
    refine q_fld a m hx rfl T.c_Plan T.n_p1 (by decide +kernel) (by decide) (xe_var (φ := dat (.int pl)) rfl) fun u1 G1 H1 H1' st1 q1 e1 a1 m1 => ?_
    refine q_fld a1 m1 hx rfl T.c_Plan T.n_p2 (by decide +kernel) (by decide) (xe_cb (χ := dat (.list rows)) (xa_cons (xe_var rfl) xa_nil) xc_list) fun u2 G2 H2 H2' st2 q2 e2 a2 m2 => ?_
    refine s_fld a2 m2 hx rfl T.c_Plan T.n_p3 (by decide +kernel) (by decide) (xe_cb (χ := dat (.list ranks)) (xa_cons (xe_var rfl) xa_nil) xc_list) fun u3 G3 H3 H3' st3 q3 e3 a3 m3 => ?_
    obtain ⟨G4, st4, p4⟩ := m3.done (φs := [dat (.int pl), dat (.list rows), dat (.list ranks)]) a3 hx hdx (.cons (q1.mono (st2.g.trans st3.g)) (.cons (q2.mono st3.g) (.cons q3 .nil)))
    exact k G4 _ st4 p4
def sp_p_rows (K : PySem.W.Frag) : Sp := fun vs H Q E => ∃ (pl : Int) (rows ranks : List PyData), spA A0 [planS K pl rows ranks] (dat (.list rows)) vs H Q E
theorem sc_p_rows : FnScope ["self"] ["self"] (defScope s_p_rows) := ⟨rfl, rfl, rfl, by decide +kernel, rfl, by decide +kernel, by decide +kernel⟩
theorem ok_p_rows {f : Addr} {fd : FuncData} (F : FnP K "rows" "Plan.rows" s_p_rows [] [] f fd) (T : Fx K mg) : FnOk P w K mg base CX0 1 f fd ["self"] (sp_p_rows K) := by
  refine F.ok sc_p_rows (fun vs H Q E h => ?_) (fun cdv A outer st H vs Q E hr h => ?_)
  · obtain ⟨_, _, _, h⟩ := h
    exact spA_len h
  · obtain ⟨pl, rows, ranks, G, sG, _, ps, k⟩ := h
    obtain ⟨v1, rfl, p1⟩ := ps_one ps
    refine ⟨_, PSs.nox (pss_one (ps_ret (pe_callTy (call_listK K) (by rfl) T.b_list bt_list (pa_cons (pe_fldK K (pv 0) rfl) pa_nil)))), ?_⟩
    have a : At A0 G H G H _ [some (planS K pl rows ranks)] := At.begin (vs := [v1]) (N := ["self"]) (EnvOk.nil.cons p1) sG trivial
    refine s_ret a (xe_cb (xa_cons (xe_fld (i := 1) (xe_var rfl) T.c_Plan T.n_p2 (by decide +kernel) rfl) xa_nil) xc_list) fun v3 G3 H3 st3 _ p => ?_
    exact k v3 G3 H3 st3 trivial p
def sp_p_ranks (K : PySem.W.Frag) : Sp := fun vs H Q E => ∃ (pl : Int) (rows ranks : List PyData), spA A0 [planS K pl rows ranks] (dat (.list ranks)) vs H Q E
theorem sc_p_ranks : FnScope ["self"] ["self"] (defScope s_p_ranks) := ⟨rfl, rfl, rfl, by decide +kernel, rfl, by decide +kernel, by decide +kernel⟩
theorem ok_p_ranks {f : Addr} {fd : FuncData} (F : FnP K "ranks" "Plan.ranks" s_p_ranks [] [] f fd) (T : Fx K mg) : FnOk P w K mg base CX0 1 f fd ["self"] (sp_p_ranks K) := by
  refine F.ok sc_p_ranks (fun vs H Q E h => ?_) (fun cdv A outer st H vs Q E hr h => ?_)
  · obtain ⟨_, _, _, h⟩ := h
    exact spA_len h
  · obtain ⟨pl, rows, ranks, G, sG, _, ps, k⟩ := h
    obtain ⟨v1, rfl, p1⟩ := ps_one ps
    refine ⟨_, PSs.nox (pss_one (ps_ret (pe_callTy (call_listK K) (by rfl) T.b_list bt_list (pa_cons (pe_fldK K (pv 0) rfl) pa_nil)))), ?_⟩
    have a : At A0 G H G H _ [some (planS K pl rows ranks)] := At.begin (vs := [v1]) (N := ["self"]) (EnvOk.nil.cons p1) sG trivial
    refine s_ret a (xe_cb (xa_cons (xe_fld (i := 2) (xe_var rfl) T.c_Plan T.n_p3 (by decide +kernel) rfl) xa_nil) xc_list) fun v3 G3 H3 st3 _ p => ?_
    exact k v3 G3 H3 st3 trivial p
def sp_p_len (K : PySem.W.Frag) : Sp := fun vs H Q E => ∃ (pl : Int) (rows ranks : List PyData), spA A0 [planS K pl rows ranks] (dat (.int (rows.length : Int))) vs H Q E
theorem sc_p_len : FnScope ["self"] ["self"] (defScope s_p_len) := ⟨rfl, rfl, rfl, by decide +kernel, rfl, by decide +kernel, by decide +kernel⟩
theorem ok_p_len {f : Addr} {fd : FuncData} (F : FnP K "__len__" "Plan.__len__" s_p_len [] [] f fd) (T : Fx K mg) : FnOk P w K mg base CX0 1 f fd ["self"] (sp_p_len K) := by
  refine F.ok sc_p_len (fun vs H Q E h => ?_) (fun cdv A outer st H vs Q E hr h => ?_)
  · obtain ⟨_, _, _, h⟩ := h
    exact spA_len h
  · obtain ⟨pl, rows, ranks, G, sG, _, ps, k⟩ := h
    obtain ⟨v1, rfl, p1⟩ := ps_one ps
    refine ⟨_, PSs.nox (pss_one (ps_ret (pe_callB (call_lenK K) (by rfl) T.b_len PySem.boot_len (pa_cons (pe_fldK K (pv 0) rfl) pa_nil)))), ?_⟩
    have a : At A0 G H G H _ [some (planS K pl rows ranks)] := At.begin (vs := [v1]) (N := ["self"]) (EnvOk.nil.cons p1) sG trivial
    refine s_ret a (xe_cb (xa_cons (xe_fld (i := 1) (xe_var rfl) T.c_Plan T.n_p2 (by decide +kernel) rfl) xa_nil) xc_lenL) fun v3 G3 H3 st3 _ p => ?_
    exact k v3 G3 H3 st3 trivial p
end
end Ls
/-! OwnM -/
set_option maxHeartbeats 4000000
/-! len and repr of an object whose class says them. -/
namespace Ls
open PySem PySem.Spec PyProof.Rows L2
/-- xs is one object of the class at C; its method keeps sp; good: what may come back -/
def rOwnM (C : Addr) (sp : Sp) (good : V → Prop) : List V → Hp → VK → Prop := fun xs H Q => ∃ a dx fs, xs = [.ref a] ∧ H a = some (.ins C dx fs) ∧ sp [.ref a] H (fun v H' => good v ∧ Q v H') E0
section
variable {X : Cx} {pins : List (Addr × Obj)} {σ : L2.St} {H : Hp} {s : Shared} {k : Nat} {C : Addr} {sp : Sp} {m : Str}
/-- the method runs, at the place of a built-in -/
theorem own_runs {A : Around} {f : Addr} {fd : FuncData} {ps : List Str} {a : Addr} {Q : VK} (F : FnOk X.prog X.w X.K X.mg X.base CX0 k f fd ps sp) (bd : Binds X.K fd ps []) (sb : Sub X k A) (I : Inv X pins σ H s) (h : sp [.ref a] H Q E0) :
    wpAny (model X.prog X.w) A (call (.ref f) [.ref a]) (EP X pins σ Q) (fun _ _ => False) s := by
  have hl := F.len _ _ _ _ h
  have e := I.env0
  have e0 : Env0 X.prog X.w X.K X.mg X.base A X.stack s H := ⟨by rw [sb.fr]; exact e.frames, e.mod, e.bs, e.bsz, e.funs, e.frf, e.hok, e.bare⟩
  refine wpAny_call (codeAny_mono (F.run A X.stack s H ⟨[.ref a], []⟩ [.ref a] [.ref a] _ E0 sb.room e0 (by
    have := bd s [.ref a] I.kIn (by simpa using hl)
    simpa using this) (.cons rfl .nil) h) fun r s' hq => ?_)
  cases r with
  | error e => exact False.elim hq
  | ok fl =>
    cases fl with
    | ret u =>
      obtain ⟨v, H', I', rv, q⟩ := I.after hq
      exact ⟨v, H', I', rv, q⟩
    | next => exact False.elim hq
    | brk => exact False.elim hq
    | cont => exact False.elim hq
/-- len(o) -/
theorem call_lenO (M : Md X.prog X.w X.K X.mg X.base C "__len__" k ["self"] sp) (hr : Room (k + 1) X.A) : CallR X (.builtin "len") (rOwnM C sp fun v => ∃ i : Int, v = .int i ∧ 0 ≤ i ∧ i < 2 ^ 60) := by
  intro pins s σ H xs us Q I rv h
  obtain ⟨a, dx, fs, rfl, ha, hq⟩ := h
  obtain rfl := Vals.ref1 rv
  obtain ⟨f, fd, h1, h2, h3⟩ := M.ex
  obtain ⟨mA, J, _⟩ := ins_get I.hok ha
  obtain ⟨od, J, _⟩ := J.look
  refine Calls.call_function_entry kind_len plain_len entry_len (args_len1 _) ?_
  unfold Builtin.«len»
  refine wpAny_bind (m := oneArg "len" _) (wpAny_pure ?_)
  refine wpAny_bind (m := callSpecial? (.ref a) (Str.ofString "__len__")) ?_
  unfold callSpecial?
  refine wpAny_bind (wpAny_bind (J.type.here ((PySem.W.looks_findIn I.kIn h2.at_).here ?_)))
  refine wpAny_holding (wpAny_bind ((PySem.W.bind_fn I.kIn _ (beq_iff_eq.mp h2.fn)).here ?_))
  have fin : wpAny (model X.prog X.w) X.A.in1 (call (.ref f) [.ref a] >>= fun v => pure (some v)) (fun r s' => ∃ v, r = some v ∧ EP X pins σ (fun v H' => (∃ i : Int, v = .int i ∧ 0 ≤ i ∧ i < 2 ^ 60) ∧ Q v H') v s') X.xe s :=
    wpAny_bind (thnF (own_runs h1 h3 (Sub.in1 ⟨hr, rfl⟩) I hq) fun v s' h' => wpAny_pure ⟨v, rfl, h'⟩)
  refine wpAny_mono fin (fun r s' hr' => ?_) fun _ _ z => z
  obtain ⟨u, rfl, v, H', I', rv', ⟨i, rfl, i0, i1⟩, q⟩ := hr'
  obtain ⟨t, rfl⟩ := rv'
  refine wpAny_bind (wpAny_holding (wpAny_pure ?_))
  refine wpAny_bind (wpAny_letGo ?_)
  show wpAny _ _ (if i < 0 then _ else _) _ _ _
  rw [if_neg (by omega)]
  show wpAny _ _ (if i ≥ 2 ^ 63 then _ else _) _ _ _
  rw [if_neg (by omega)]
  exact wpAny_bind (wpAny_mkInt (wpAny_pure ⟨_, rfl, .int i, H', I'.tok _, ⟨_, rfl⟩, q⟩))
/-- repr(o) -/
theorem call_reprO (M : Md X.prog X.w X.K X.mg X.base C "__repr__" k ["self"] sp) (hr : Room (k + 1) X.A) : CallR X (.builtin "repr") (rOwnM C sp fun v => ∃ z : Str, v = .str z) := by
  intro pins s σ H xs us Q I rv h
  obtain ⟨a, dx, fs, rfl, ha, hq⟩ := h
  obtain rfl := Vals.ref1 rv
  obtain ⟨f, fd, h1, h2, h3⟩ := M.ex
  obtain ⟨mA, J, _⟩ := ins_get I.hok ha
  obtain ⟨od, J, _⟩ := J.look
  refine Calls.call_function_entry F.kind_repr F.plain_repr F.entry_repr (F.args_repr1 _) ?_
  unfold Builtin.«repr»
  refine wpAny_bind (m := oneArg "repr" _) (wpAny_pure ?_)
  refine wpAny_bind (wpAny_cRoomFor (A := X.A.in1) (show X.A.units + 1 < cLine from hu_of hr) ?_)
  refine wpAny_bind (wpAny_bind (J.type.here ((PySem.W.looks_findIn I.kIn h2.at_).here ?_)))
  show wpAny _ _ (if (some (Value.ref f)).isNone = true then _ else _) _ _ _
  rw [if_neg (by simp)]
  refine wpAny_bind (m := callSpecialIfBound? (.ref a) (Str.ofString "__repr__") _) ?_
  have fin : wpAny (model X.prog X.w) X.A.in1 (call (.ref f) [.ref a] >>= fun v => pure (some v)) (fun r s' => ∃ v, r = some v ∧ EP X pins σ (fun v H' => (∃ z : Str, v = .str z) ∧ Q v H') v s') X.xe s :=
    wpAny_bind (thnF (own_runs h1 h3 (Sub.in1 ⟨hr, rfl⟩) I hq) fun v s' h' => wpAny_pure ⟨v, rfl, h'⟩)
  have all : wpAny (model X.prog X.w) X.A.in1 (callSpecialIfBound? (.ref a) (Str.ofString "__repr__") []) (fun r s' => ∃ v, r = some v ∧ EP X pins σ (fun v H' => (∃ z : Str, v = .str z) ∧ Q v H') v s') X.xe s := by
    simp only [callSpecialIfBound?, bindSpecialIfBound?]
    refine wpAny_holding (wpAny_bind (wpAny_bind (wpAny_bind (J.type.here ((PySem.W.looks_findIn I.kIn h2.at_).here ?_)))))
    refine wpAny_bind (wpAny_askSetting (wpAny_ite ?_))
    split
    · exact wpAny_bind ((PySem.W.bind_fn I.kIn _ (beq_iff_eq.mp h2.fn)).here (wpAny_pure (by exact fin)))
    · exact wpAny_tryCatch (wpAny_bind ((PySem.W.bind_fn I.kIn _ (beq_iff_eq.mp h2.fn)).here (wpAny_pure (by exact fin))))
  refine wpAny_mono all (fun r s' hr' => ?_) fun _ _ z => z
  obtain ⟨u, rfl, v, H', I', rv', ⟨z, rfl⟩, q⟩ := hr'
  obtain ⟨t, rfl⟩ := rv'
  refine wpAny_bind (wpAny_isInstance (typeIs_str _ _ _) isSubtype_str_str ?_)
  first
    | exact wpAny_pure ⟨_, rfl, .str z, H', I', ⟨_, rfl⟩, q⟩
    | (rw [if_pos rfl]; exact wpAny_pure ⟨_, rfl, .str z, H', I', ⟨_, rfl⟩, q⟩)
    | (simp only [if_true]; exact wpAny_pure ⟨_, rfl, .str z, H', I', ⟨_, rfl⟩, q⟩)
end
section
variable {A : Amb} {C : Addr} {sp : Sp} {ns : List Str} {φs : List SP} {φ : SP} {good : V → Prop}
theorem xc_ownM (hs : ∀ vs H Q, spA A [insS C ns φs] φ vs H Q E0 → sp vs H Q E0) (hg : ∀ G v, φ.p G v → good v) : XC A (rOwnM C sp good) [insS C ns φs] φ := fun G H vs Q s j hv k => by
  obtain ⟨v, rfl, p⟩ := ps_one hv
  obtain ⟨a, dx, us, e, h1, hl, ps⟩ := id p
  subst e
  exact ⟨a, dx, _, rfl, s _ _ h1, hs _ _ _ ⟨G, s, j, .cons p .nil, fun v G2 H2 t j2 p2 => ⟨hg G2 v p2, k v G2 H2 t j2 p2⟩⟩⟩
end
end Ls
/-! F10 -/
set_option maxHeartbeats 4000000
namespace Ls
open PySem PySem.Spec PyProof.Rows L2
section
variable {P : Program} {w : World} {K : PySem.W.Frag} {mg : Str → Option Value} {base : Heap}
/-! ### Plan.__repr__ -/
def reprP (pl n : Int) : Str := "Plan(" ++ toString pl ++ ", " ++ toString n ++ " rows)"
def sp_p_repr (K : PySem.W.Frag) : Sp := fun vs H Q E => ∃ (pl : Int) (rows ranks : List PyData), (pl = 0 ∨ pl = 1) ∧ rows.length ≤ 100000 ∧ spA A0 [planS K pl rows ranks] (dat (.str (reprP pl rows.length))) vs H Q E
theorem len_nat (n : Int) (h : n.natAbs < 2 ^ 80) : n.natAbs.log2 < 1920 := by
  by_cases h0 : n.natAbs = 0
  · rw [h0]
    decide
  · have := (Nat.log2_lt h0).mpr h
    omega
theorem str_len_int (n : Int) (h : n.natAbs < 10 ^ 20) : (Str.ofString (toString n)).length ≤ 1000 := by
  have e := int_text_length_le10 (k := 20) (by decide) h
  rw [PySem.ofString_length]
  omega
theorem app_len (x y : Str) : (x ++ y).length = x.length + y.length := by
  show (x.cps ++ y.cps).size = _
  rw [Array.size_append]
  rfl
theorem fit_app {x y : Str} {a b : Nat} (hx : x.length ≤ a) (hy : y.length ≤ b) : (x ++ y).length ≤ a + b := by
  rw [app_len]
  omega
theorem tJs_e {te : TE} {ts : List TE} {acc : Str} {σ : L2.St} {H : Hp} {Q : Str → Hp → Prop} {i : Int} {G0 H0 G : Hp} {ρ : Env} (a : At A0 G0 H0 G H σ ρ) (h : XE A0 te ρ (dat (.int i))) (l : i.natAbs.log2 < 1920) (f : (acc ++ toString i).length ≤ sizeLine) (q : ∀ G2 H2, At A0 G0 H0 G2 H2 σ ρ → tJs ts (acc ++ toString i) σ H2 Q) : tJs (tFmt te :: ts) acc σ H Q := by
  show te σ H _
  exact a.e h fun v G2 H2 st a2 p => .inr ⟨i, p.int_inv, l, _, rfl, f, q G2 H2 a2⟩
theorem tJs_s {z : Str} {ts : List TE} {acc : Str} {σ : L2.St} {H : Hp} {Q : Str → Hp → Prop} (f : (acc ++ z).length ≤ sizeLine) (q : tJs ts (acc ++ z) σ H Q) : tJs (tC (.str z) :: ts) acc σ H Q := ⟨z, rfl, f, q⟩
theorem sc_p_repr : FnScope ["self"] ["self"] (defScope s_p_repr) := ⟨rfl, rfl, rfl, by decide +kernel, rfl, by decide +kernel, by decide +kernel⟩
theorem ok_p_repr {f : Addr} {fd : FuncData} (F : FnP K "__repr__" "Plan.__repr__" s_p_repr [] [] f fd) (T : Fx K mg) : FnOk P w K mg base CX0 1 f fd ["self"] (sp_p_repr K) := by
  refine F.ok sc_p_repr (fun vs H Q E h => ?_) (fun cdv A outer st H vs Q E hr h => ?_)
  · obtain ⟨_, _, _, _, _, h⟩ := h
    exact spA_len h
  · obtain ⟨pl, rows, ranks, hp, hrl, G, sG, _, ps, k⟩ := h
    obtain ⟨v1, rfl, p1⟩ := ps_one ps
    refine ⟨_, PSs.nox (pss_one (ps_ret (pe_joined (.cons pe_str (.cons (pe_fmt (pe_fldK K (pv 0) rfl)) (.cons pe_str (.cons (pe_fmt (pe_callB (call_lenK K) (by rfl) T.b_len PySem.boot_len (pa_cons (pe_fldK K (pv 0) rfl) pa_nil))) (.cons pe_str .nil)))))))), ?_⟩
    have a : At A0 G H G H _ [some (planS K pl rows ranks)] := At.begin (vs := [v1]) (N := ["self"]) (EnvOk.nil.cons p1) sG trivial
    have n1 : pl.natAbs < 10 ^ 20 := by rcases hp with rfl | rfl <;> decide
    have n2 : ((rows.length : Nat) : Int).natAbs < 10 ^ 20 := by
      rw [Int.natAbs_natCast]
      exact Nat.lt_of_le_of_lt hrl (by decide)
    have b1 : (Str.empty ++ "Plan(" : Str).length ≤ 10 := by decide +kernel
    have b2 := fit_app b1 (str_len_int pl n1)
    have b3 := fit_app b2 (show (", " : Str).length ≤ 10 by decide +kernel)
    have b4 := fit_app b3 (str_len_int (rows.length : Int) n2)
    have b5 := fit_app b4 (show (" rows)" : Str).length ≤ 10 by decide +kernel)
    have big : ∀ n : Nat, n ≤ 10000 → n ≤ sizeLine := fun n h => Nat.le_trans h (by decide)
    refine tJs_s (big _ (by omega)) (tJs_e a (xe_fld (i := 0) (xe_var rfl) T.c_Plan T.n_p1 (by decide +kernel) rfl) (len_nat pl (Nat.lt_of_lt_of_le n1 (by decide : 10 ^ 20 ≤ 2 ^ 80))) (big _ (by omega)) fun G2 H2 a2 => tJs_s (big _ (by omega)) (tJs_e a2 (xe_cb (xa_cons (xe_fld (i := 1) (xe_var rfl) T.c_Plan T.n_p2 (by decide +kernel) rfl) xa_nil) xc_lenL) (len_nat _ (Nat.lt_of_lt_of_le n2 (by decide : 10 ^ 20 ≤ 2 ^ 80))) (big _ (by omega)) fun G3 H3 a3 => tJs_s (big _ (by omega)) ?_))
    refine k _ G3 H3 a3.stp trivial ?_
    show Rp G3 (.str (Str.empty ++ "Plan(" ++ toString pl ++ ", " ++ toString (rows.length : Int) ++ " rows)")) (.str (reprP pl rows.length))
    have e : (Str.empty ++ "Plan(" : Str) = "Plan(" := by decide +kernel
    rw [e]
    exact .str _
end
end Ls
/-! Lay8 -/
set_option maxHeartbeats 4000000
/-! The layer, eighth part: lists of our own lists, objects under way that are read. -/
namespace Ls
open PySem PySem.Spec PyProof.Rows L2
section
variable {A : Amb} {ρ : Env} {te ta tb tc : TE} {tt tu : TT} {φ ψ χ : SP} {K : PySem.W.Frag} {G0 H0 G H Hb : Hp} {σ : L2.St} {D : Ends} {t u tz tw : TS}
structure Fam (Hb G H : Hp) (ls : List Addr) (xss : List (List V)) : Prop where
  len : ls.length = xss.length
  nd : ls.Nodup
  own : ∀ (i : Nat) l xs, ls[i]? = some l → xss[i]? = some xs → Own G H l (.lst xs)
  fr : ∀ l ∈ ls, Hb l = none
theorem Fam.step {ls : List Addr} {xss : List (List V)} {G2 H2 : Hp} (f : Fam Hb G H ls xss) (t : Stp A0 G H G2 H2) : Fam Hb G2 H2 ls xss := ⟨f.len, f.nd, fun i l xs h1 h2 => (f.own i l xs h1 h2).step0 t, f.fr⟩
theorem Fam.at_ {ls : List Addr} {xss : List (List V)} (f : Fam Hb G H ls xss) {i : Nat} {l : Addr} (h : ls[i]? = some l) : ∃ xs, xss[i]? = some xs ∧ Own G H l (.lst xs) := by
  have hl : i < xss.length := f.len ▸ (List.getElem?_eq_some_iff.mp h).1
  have hx : xss[i]? = some xss[i] := List.getElem?_eq_getElem hl
  exact ⟨_, hx, f.own i l _ h hx⟩
theorem Fam.out {ls : List Addr} {xss : List (List V)} (f : Fam Hb G H ls xss) {l : Addr} {o : HO} (h : H l = some o) (ne : ∀ xs, o ≠ .lst xs) : l ∉ ls := fun hm => by
  obtain ⟨i, hi⟩ := List.mem_iff_getElem?.mp hm
  obtain ⟨xs, _, w⟩ := f.at_ hi
  rw [w.h] at h
  exact ne xs (Option.some.inj h).symm
theorem Fam.mut {ls : List Addr} {xss : List (List V)} (f : Fam Hb G H ls xss) {l : Addr} {o : HO} (h : l ∉ ls) : Fam Hb G (upd H l o) ls xss :=
  ⟨f.len, f.nd, fun i m xs h1 h2 => (f.own i m xs h1 h2).mut fun e => h (by rw [← e]; exact List.mem_of_getElem? h1), f.fr⟩
theorem Fam.seal {ls : List Addr} {xss : List (List V)} (f : Fam Hb G H ls xss) {l : Addr} {o : HO} (h : l ∉ ls) : Fam Hb (upd G l o) H ls xss :=
  ⟨f.len, f.nd, fun i m xs h1 h2 => (f.own i m xs h1 h2).seal fun e => h (by rw [← e]; exact List.mem_of_getElem? h1), f.fr⟩
theorem Fam.set {ls : List Addr} {xss : List (List V)} (f : Fam Hb G H ls xss) {i : Nat} {l : Addr} {ys : List V} (h : ls[i]? = some l) : Fam Hb G (upd H l (.lst ys)) ls (xss.set i ys) := by
  refine ⟨by rw [List.length_set]; exact f.len, f.nd, fun j m xs h1 h2 => ?_, f.fr⟩
  have hl := (List.getElem?_eq_some_iff.mp h).1
  by_cases e : i = j
  · subst e
    rw [h] at h1
    obtain rfl := Option.some.inj h1
    rw [List.getElem?_set_self (by rw [← f.len]; exact hl)] at h2
    obtain rfl := Option.some.inj h2
    obtain ⟨xs', _, w⟩ := f.at_ h
    exact ⟨upd_same, w.g⟩
  · rw [List.getElem?_set_ne e] at h2
    refine (f.own j m xs h1 h2).mut fun q => e ?_
    rw [q] at h1
    obtain ⟨a1, b1⟩ := List.getElem?_eq_some_iff.mp h
    obtain ⟨a2, b2⟩ := List.getElem?_eq_some_iff.mp h1
    exact (List.getElem_inj f.nd).mp (b1.trans b2.symm)
/-- the first goes out -/
theorem Fam.tail {l : Addr} {ls : List Addr} {xs : List V} {xss : List (List V)} (f : Fam Hb G H (l :: ls) (xs :: xss)) : Fam Hb G H ls xss ∧ Own G H l (.lst xs) ∧ l ∉ ls :=
  ⟨⟨by simpa using f.len, (List.nodup_cons.mp f.nd).2, fun i m ys h1 h2 => f.own (i + 1) m ys h1 h2, fun m hm => f.fr m (List.mem_cons_of_mem _ hm)⟩, f.own 0 l xs rfl rfl, (List.nodup_cons.mp f.nd).1⟩
theorem Fam.snoc {ls : List Addr} {xss : List (List V)} (f : Fam Hb G H ls xss) {l : Addr} {xs : List V} (w : Own G H l (.lst xs)) (h : l ∉ ls) (hf : Hb l = none) : Fam Hb G H (ls ++ [l]) (xss ++ [xs]) := by
  refine ⟨by simp [f.len], ?_, fun i m ys h1 h2 => ?_, fun m hm => ?_⟩
  · rw [List.nodup_append]
    exact ⟨f.nd, by simp, fun a ha b hb e => by
      rw [List.mem_singleton.mp hb] at e
      exact h (e ▸ ha)⟩
  · by_cases hi : i < ls.length
    · rw [List.getElem?_append_left hi] at h1
      rw [List.getElem?_append_left (by rw [← f.len]; exact hi)] at h2
      exact f.own i m ys h1 h2
    · rw [List.getElem?_append_right (by omega)] at h1
      rw [List.getElem?_append_right (by rw [← f.len]; omega)] at h2
      have e0 : i - ls.length = 0 := by
        have := (List.getElem?_eq_some_iff.mp h1).1
        simp at this
        omega
      rw [e0] at h1
      rw [show i - xss.length = 0 by rw [← f.len]; exact e0] at h2
      simp at h1 h2
      subst h1 h2
      exact w
  · rcases List.mem_append.mp hm with z | z
    · exact f.fr m z
    · rw [List.mem_singleton.mp z]
      exact hf
/-! ### reading what is under way -/
theorem fld_own {C x dx : Addr} {ns : List Str} {us : List V} {i j : Nat} {f : Str} {v : V} (a : At A G0 H0 G H σ ρ) (m : Mkg G H C x dx ns us) (hi : ρ[i]? = some (some (isV (.ref x)))) (c : Cls K C) (n : NoAttr K C f) (hf : ns.findIdx? (fun n => decide (n = f)) = some j) (hu : us[j]? = some v) {Q : VK} (k : Q v H) : tFld K (tVar i) f σ H Q :=
  ⟨_, a.own hi, x, C, dx, _, v, rfl, m.o.h, c, n, by rw [look_zip m.l hf]; exact hu, k⟩
theorem fld_item {C x dx L : Addr} {ns : List Str} {us xs : List V} {i j n : Nat} {f : Str} {v : V} (a : At A0 G0 H0 G H σ ρ) (m : Mkg G H C x dx ns us) (hi : ρ[i]? = some (some (isV (.ref x)))) (c : Cls K C) (na : NoAttr K C f) (hf : ns.findIdx? (fun n => decide (n = f)) = some j) (hu : us[j]? = some (.ref L)) (w : Own G H L (.lst xs)) (hb : XE A0 tb ρ (dat (.int (n : Int)))) (hv : xs[n]? = some v) {Q : VK}
    (k : ∀ G2 H2, Stp A0 G H G2 H2 → At A0 G0 H0 G2 H2 σ ρ → Q v H2) : tOp (rIxL K) (tFld K (tVar i) f) tb σ H Q :=
  fld_own a m hi c na hf hu (a.e hb fun y G2 H2 s a2 p => ⟨L, xs, (n : Int), v, rfl, p.int_inv, SqL.of (w.step0 s).h, atI_nat hv, k G2 H2 s a2⟩)
/-- a test over more that stands -/
theorem At.viewG {G2 : Hp} {ρ2 : Env} {b : Bool} (a : At A0 G0 H0 G H σ ρ) (E : EnvOk G2 σ ρ2) (s : Same G2 H) (h : XT A0 tt ρ2 b) {Q : Bool → Hp → Prop} (k : ∀ H2, Stp A0 G H G H2 → Q b H2) : tt σ H Q :=
  h G2 H σ Q E s trivial fun G3 H3 t _ => k H3 (Stp.only a.s t.same)
theorem q_noG {G2 : Hp} {ρ2 : Env} (a : At A0 G0 H0 G H σ ρ) (E : EnvOk G2 σ ρ2) (s : Same G2 H) (h : XT A0 tt ρ2 false) (k : ∀ H2, Stp A0 G H G H2 → At A0 G0 H0 G H2 σ ρ → tz D σ H2) : tSeq (tIfS tt t tNext) tz D σ H :=
  a.viewG E s h fun H2 st => by
    rw [if_neg Bool.false_ne_true]
    exact k H2 st (a.step0 st)
end
end Ls
/-! Lay9 -/
set_option maxHeartbeats 4000000
/-! The layer, ninth part: many lists of ours, a dict of one entry, comprehensions of two clauses. -/
namespace Ls
open PySem PySem.Spec PyProof.Rows L2
/-- {k: v}, the key a tuple -/
def tDisp1 (tk tv : TE) : TE := fun σ H Q => ∀ p, H p = none → tk σ (upd H p (.dT [])) fun y H1 => tv σ H1 fun z H2 => ∃ H3, DPut H2 p y z H3 ∧ Q (.ref p) H3
theorem pe_dispT {X : Cx} {k v : Expr} {pos : Pos} {tk tv : TE} (hu : X.A.units + 1 < cLine) (hk : PE X k tk) (hv : PE X v tv) : PE X (.Dict [some k] [v] pos) (tDisp1 tk tv) := by
  refine ⟨fun pins s σ H Q I h => ?_⟩
  have hn := I.hok.fresh (Nat.le_refl s.heap.objs.size)
  have I1 := I.laid (a := s.heap.objs.size) (o := .dT []) (h' := s.heap.push { cls := .type "dict", data := .dict #[] }) (t' := s.toks) (fun _ _ q => Heap.get?_push_of_some _ q) (Nat.le_refl _) (dt_empty s.heap I.big)
  have hlen : (pairTrees [some k] [v] X.env pos).length = 1 := pairTrees_length [some k] [v] X.env pos rfl rfl
  rw [arm_eval_Dict, zip_pairTrees [some k] [v] X.env pos rfl rfl, dictDisplay_pairs _ (fun e => by rw [e] at hlen; cases hlen) (by rw [hlen]; decide)]
  refine wpAny_bind (wpAny_standAt (wpAny_bind ?_))
  unfold subDict
  refine wpAny_bind (wpAny_alloc ?_)
  refine wpAny_bind (wpAny_holding ?_)
  rw [if_pos (by rw [hlen]; decide)]
  refine wpAny_bind ?_
  refine pairTrees_cons_walk (thn (hk.run pins _ σ _ _ I1 (h _ hn)) fun a s1 ⟨y, H1, J1, r1, q1⟩ => thn (hv.run pins s1 σ H1 _ J1 q1) fun b s2 ⟨z, H2, J2, r2, H3, g, q2⟩ => pairTrees_nil_walk ?_)
  refine wpAny_holding ?_
  rw [List.forIn_cons]
  refine wpAny_bind (wpAny_bind (wpAny_bind (dictSet_put hu J2 g r1 r2 fun s3 J3 => wpAny_pure ?_)))
  simp only [List.forIn_nil]
  exact wpAny_pure (wpAny_pure (wpAny_pure (wpAny_pure ⟨.ref s.heap.objs.size, H3, J3, rfl, q2⟩)))
section
variable {A : Amb} {ρ : Env} {te ta tb tc : TE} {tt tu : TT} {φ ψ χ : SP} {K : PySem.W.Frag} {G0 H0 G H Hb : Hp} {σ : L2.St} {D : Ends} {t u tz tw : TS}
theorem Fam.cons {ls : List Addr} {xss : List (List V)} (f : Fam Hb G H ls xss) {l : Addr} {xs : List V} (w : Own G H l (.lst xs)) (h : l ∉ ls) (hf : Hb l = none) : Fam Hb G H (l :: ls) (xs :: xss) := by
  refine ⟨by simp [f.len], List.nodup_cons.mpr ⟨h, f.nd⟩, fun i m ys h1 h2 => ?_, fun m hm => ?_⟩
  · cases i with
    | zero =>
      obtain rfl := Option.some.inj h1
      obtain rfl := Option.some.inj h2
      exact w
    | succ i => exact f.own i m ys h1 h2
  · rcases List.mem_cons.mp hm with z | z
    · rw [z]
      exact hf
    · exact f.fr m z
theorem Fam.nil : Fam Hb G H [] [] := ⟨rfl, List.nodup_nil, fun i l xs h => by simp at h, fun l h => by simp at h⟩
theorem Fam.no {ls : List Addr} {xss : List (List V)} (f : Fam Hb G H ls xss) {l : Addr} (h : H l = none) : l ∉ ls := fun hm => by
  obtain ⟨i, hi⟩ := List.mem_iff_getElem?.mp hm
  obtain ⟨xs, _, w⟩ := f.at_ hi
  rw [w.h] at h
  cases h
/-- l.append(x), one list of ours; how x is found is told by hv -/
theorem s_appF {ls : List Addr} {xss : List (List V)} {j : Nat} {l : Addr} {xs : List V} {i : Nat} (a : At A0 G0 H0 G H σ ρ) (f : Fam H0 G H ls xss) (hl : ls[j]? = some l) (hx : xss[j]? = some xs) (hi : ρ[i]? = some (some (isV (.ref l)))) (hz : xs.length ≤ 100000)
    (hv : ∀ {Q : VK}, (∀ v G2 H2, Stp A0 G H G2 H2 → φ.p G2 v → Q v H2) → te σ H Q)
    (k : ∀ v G2 H2, Stp A0 G H G2 H2 → φ.p G2 v → At A0 G0 H0 G2 (upd H2 l (.lst (xs ++ [v]))) σ ρ → Fam H0 G2 (upd H2 l (.lst (xs ++ [v]))) ls (xss.set j (xs ++ [v])) → Own G2 H2 l (.lst xs) → D.nx σ (upd H2 l (.lst (xs ++ [v])))) :
    tDrop (tBM K "list" rAppend (tVar i) (tCons te tNil)) D σ H := by
  have w := f.own j l xs hl hx
  refine ⟨_, a.own hi, .inl ⟨rfl, xs, SqL.of w.h⟩, ?_⟩
  refine hv fun v G2 H2 s p => ?_
  have w2 := w.step0 s
  obtain ⟨a3, w3⟩ := (a.step0 s).mut (o' := .lst (xs ++ [v])) w2 (f.fr l (List.mem_of_getElem? hl)) nb0
  exact ⟨l, xs, v, rfl, rfl, w2.h, Nat.lt_of_le_of_lt hz (by decide), k v G2 H2 s p a3 ((f.step s).set hl) w2⟩
theorem q_appF {ls : List Addr} {xss : List (List V)} {j : Nat} {l : Addr} {xs : List V} {i : Nat} (a : At A0 G0 H0 G H σ ρ) (f : Fam H0 G H ls xss) (hl : ls[j]? = some l) (hx : xss[j]? = some xs) (hi : ρ[i]? = some (some (isV (.ref l)))) (hz : xs.length ≤ 100000)
    (hv : ∀ {Q : VK}, (∀ v G2 H2, Stp A0 G H G2 H2 → φ.p G2 v → Q v H2) → te σ H Q)
    (k : ∀ v G2 H2, Stp A0 G H G2 H2 → φ.p G2 v → At A0 G0 H0 G2 (upd H2 l (.lst (xs ++ [v]))) σ ρ → Fam H0 G2 (upd H2 l (.lst (xs ++ [v]))) ls (xss.set j (xs ++ [v])) → Own G2 H2 l (.lst xs) → tz D σ (upd H2 l (.lst (xs ++ [v])))) :
    tSeq (tDrop (tBM K "list" rAppend (tVar i) (tCons te tNil))) tz D σ H := s_appF (D := { D with nx := tz D }) a f hl hx hi hz hv k
/-- a, b = [], [] -/
theorem q_par2new {ls : List Addr} {xss : List (List V)} {i j : Nat} (a : At A0 G0 H0 G H σ ρ) (f : Fam H0 G H ls xss)
    (k : ∀ l m H2, H l = none → H m = none → Stp A0 G H G H2 → Fam H0 G H2 (l :: m :: ls) ([] :: [] :: xss) → At A0 G0 H0 G H2 ((σ.set i (some (.ref l))).set j (some (.ref m))) ((ρ.set i (some (isV (.ref l)))).set j (some (isV (.ref m)))) → tz D ((σ.set i (some (.ref l))).set j (some (.ref m))) H2) :
    tSeq (tPar i j (tCons (tLst tNil) (tCons (tLst tNil) tNil))) tz D σ H := by
  refine ⟨Nat.zero_le _, fun l hl => ⟨Nat.zero_le _, fun m hm => ⟨_, _, rfl, ?_⟩⟩⟩
  obtain ⟨a1, w1, f1⟩ := a.fresh (o := .lst []) hl
  have s1 : Stp A0 G H G (upd H l (.lst [])) := Stp.only a.s (same_new hl)
  obtain ⟨a2, w2, f2⟩ := a1.fresh (o := .lst []) hm
  have s2 : Stp A0 G (upd H l (.lst [])) G (upd (upd H l (.lst [])) m (.lst [])) := Stp.only a1.s (same_new hm)
  have ne : l ≠ m := fun e => by
    rw [← e, upd_same] at hm
    cases hm
  have hm0 : H m = none := by
    rw [upd_ne (Ne.symm ne)] at hm
    exact hm
  have g1 := ((f.step s1).step s2).cons w2 (f.no hm0) f2
  have g2 := g1.cons (w1.step0 s2) (fun h => by
    rcases List.mem_cons.mp h with z | z
    · exact ne z
    · exact f.no hl z) f1
  exact k l m _ hl hm0 (s1.trans s2) g2 (a2.re ((a2.env.set i (φ := isV (.ref l)) rfl).set j (φ := isV (.ref m)) rfl))
/-- an item of a list of ours -/
theorem var_item {l : Addr} {xs : List V} {i n : Nat} {v : V} (a : At A0 G0 H0 G H σ ρ) (w : Own G H l (.lst xs)) (hi : ρ[i]? = some (some (isV (.ref l)))) (hb : XE A0 tb ρ (dat (.int (n : Int)))) (hv : xs[n]? = some v) {Q : VK} (k : ∀ G2 H2, Stp A0 G H G2 H2 → Q v H2) : tOp (rIxL K) (tVar i) tb σ H Q :=
  ⟨_, a.own hi, a.e hb fun y G2 H2 s a2 p => ⟨l, xs, (n : Int), v, rfl, p.int_inv, SqL.of (w.step0 s).h, atI_nat hv, k G2 H2 s⟩⟩
/-- its length -/
theorem var_len {l : Addr} {xs : List V} {i : Nat} (a : At A0 G0 H0 G H σ ρ) (w : Own G H l (.lst xs)) (hi : ρ[i]? = some (some (isV (.ref l)))) {Q : VK} (k : Q (.int xs.length) H) : tCB (rLenQ K) (tCons (tVar i) tNil) σ H Q :=
  ⟨_, a.own hi, l, xs, rfl, .inl (SqL.of w.h), k⟩
/-- d[k] = e, however e is found -/
theorem q_dputV {l : Addr} {kvs : List (TKey × V)} {f : DFn} {i : Nat} {k : TKey} {d : PyData} (a : At A0 G0 H0 G H σ ρ) (w : Own G H l (.dT kvs)) (fr : H0 l = none) (hi : ρ[i]? = some (some (isV (.ref l)))) (df : DF G kvs f) (hz : kvs.length ≤ 100000)
    (hv : ∀ {Q : VK}, (∀ v G2 H2, Stp A0 G H G2 H2 → Rp G2 v d → Q v H2) → te σ H Q) (hk : XE A0 tb ρ (dat (tD k)))
    (c : ∀ G2 H2 kvs2, Stp A0 G H G2 H2 → kvs2.length ≤ kvs.length + 1 → DF G2 kvs2 (putF f k d) → At A0 G0 H0 G2 (upd H2 l (.dT kvs2)) σ ρ → Own G2 (upd H2 l (.dT kvs2)) l (.dT kvs2) → Own G2 H2 l (.dT kvs) → tz D σ (upd H2 l (.dT kvs2))) :
    tSeq (sDPut (tVar i) tb te) tz D σ H :=
  hv fun v G1 H1 t1 p1 => by
    have a1 := a.step0 t1
    refine ⟨_, a1.own hi, ?_⟩
    refine a1.e hk fun y G2 H2 t2 a2 p2 => ?_
    have w2 := (w.step0 t1).step0 t2
    obtain ⟨b, rfl, hb⟩ := rp_tkey p2
    refine ⟨l, _, rfl, .t w2.h (a2.s _ _ hb) (Nat.lt_of_le_of_lt hz (by decide)), ?_⟩
    obtain ⟨a3, w3⟩ := a2.mut (o' := .dT (L2.putK kvs k v)) w2 fr nb0
    exact c G2 H2 _ (t1.trans t2) (length_putK kvs k v) ((df.mono (t1.trans t2).g).put (p1.mono t2.g)) a3 w3 w2
/-- a comprehension of two clauses without tests -/
theorem xe_lc2All {α β : Type} {wi wi1 : TI} {g g1 : TG} {vs vs1 js js1 : List Nat} {l : List α} {ψ : α → SP} {f : α → List β} {θ : β → SP} {E : β → PyData} {ρx : α → Env} {ρy : α → β → Env} (hi : XI wi ρ (l.map ψ)) (hz : ∀ x ∈ l, (f x).length ≤ 1000) (hl : l.length ≤ 10000) (hjs : ∀ i ∈ js, i ∈ vs) (hjs1 : ∀ i ∈ js1, i ∈ vs1)
    (hx : ∀ x, x ∈ l → XG g (ψ x) js (wipeE ρ vs) (ρx x) ∧ XI wi1 (ρx x) ((f x).map θ) ∧ ∀ y, y ∈ f x → XG g1 (θ y) js1 (wipeE (ρx x) vs1) (ρy x y) ∧ XE A0 te (ρy x y) (dat (E y))) :
    XE A0 (tLc2 wi g tYes wi1 g1 tYes te vs vs1) ρ (dat (.list ((l.flatMap f).map E))) := fun G H σ Q Ev s _ k =>
  hi G H σ _ Ev s fun J G1 H1 t1 wk => by
    intro Dn hD
    have hlm : (l.map ψ).length = l.length := List.length_map ..
    rw [hlm] at wk
    have hg1 : G1 Dn = none := t1.s.free hD
    refine ⟨fun i m H' => m = l.length - i ∧ i ≤ l.length ∧ ∃ G' xs, Same G1 G' ∧ Same G' H' ∧ Same H1 H' ∧ (∀ a u, G' a = some u → G1 a = some u ∨ H1 a = none) ∧ Own G' H' Dn (.lst xs) ∧ RpAll G' xs (((l.take i).flatMap f).map E) ∧ xs.length ≤ 1000 * i,
      ⟨l.length, by simp, Nat.zero_le _, G1, [], Same.refl _, same_mut t1.s hg1, same_new hD, fun a u e => .inl e, ⟨upd_same, hg1⟩, .nil, Nat.zero_le _⟩, ?_⟩
    rintro i m H' ⟨rfl, hle, G', xs, a, b, c, n, w, r, hb⟩
    by_cases lt : i < l.length
    · refine .inr ⟨wk.goes i H' lt (a.trans b), fun H2 => ∃ G' xs, Same G1 G' ∧ Same G' H2 ∧ Same H1 H2 ∧ (∀ a u, G' a = some u → G1 a = some u ∨ H1 a = none) ∧ Own G' H2 Dn (.lst xs) ∧ RpAll G' xs (((l.take (i + 1)).flatMap f).map E) ∧ xs.length ≤ 1000 * (i + 1), fun H2 h => ⟨l.length - (i + 1), by omega, rfl, lt, h⟩, fun x H2 y => ?_⟩
      obtain ⟨z, hz2⟩ : ∃ z, l[i]? = some z := ⟨l[i], List.getElem?_eq_getElem lt⟩
      have hzl := hz z (List.mem_of_getElem? hz2)
      obtain ⟨G2, t2, p2⟩ := wk.yields i H' x H2 lt (a.trans b) y G' (ψ z) a b (by rw [List.getElem?_map, hz2] <;> rfl)
      obtain ⟨hg, hi1, hy⟩ := hx z (List.mem_of_getElem? hz2)
      have Ew : EnvOk G2 (wipe σ vs) (wipeE ρ vs) := ((Ev.mono t1.g).mono (a.trans t2.g)).wiped vs
      refine hg G2 H2 _ x _ Ew t2.s p2 fun σ2 E2 o2 => ⟨o2.wipe hjs, ?_⟩
      refine tYes_if ?_
      refine hi1 G2 H2 σ2 _ E2 t2.s fun J1 G3 H3 t3 wk1 => ?_
      have hlm1 : ((f z).map θ).length = (f z).length := List.length_map ..
      rw [hlm1] at wk1
      have t23 := t2.trans t3
      have n3 : ∀ q u, G3 q = some u → G1 q = some u ∨ H1 q = none := fun q u e => by
        rcases t23.n q u e with h | h
        · exact n q u h
        · exact .inr (c.free h)
      refine ⟨fun j m H4 => m = (f z).length - j ∧ j ≤ (f z).length ∧ ∃ G4 xs4, Same G3 G4 ∧ Same G4 H4 ∧ Same H1 H4 ∧ (∀ a u, G4 a = some u → G1 a = some u ∨ H1 a = none) ∧ Own G4 H4 Dn (.lst xs4) ∧ RpAll G4 xs4 (((l.take i).flatMap f ++ (f z).take j).map E) ∧ xs4.length ≤ 1000 * i + j,
        ⟨(f z).length, by simp, Nat.zero_le _, G3, xs, Same.refl _, t3.s, c.trans t23.same, n3, w.step0 t23, by rw [List.take_zero, List.append_nil]; exact r.mono t23.g, by omega⟩, ?_⟩
      rintro j m H4 ⟨rfl, hle4, G4, xs4, a4, b4, c4, n4, w4, r4, hb4⟩
      by_cases lt4 : j < (f z).length
      · refine .inr ⟨wk1.goes j H4 lt4 (a4.trans b4), fun H5 => ∃ G4 xs4, Same G3 G4 ∧ Same G4 H5 ∧ Same H1 H5 ∧ (∀ a u, G4 a = some u → G1 a = some u ∨ H1 a = none) ∧ Own G4 H5 Dn (.lst xs4) ∧ RpAll G4 xs4 (((l.take i).flatMap f ++ (f z).take (j + 1)).map E) ∧ xs4.length ≤ 1000 * i + (j + 1), fun H5 h => ⟨(f z).length - (j + 1), by omega, rfl, lt4, h⟩, fun x5 H5 y5 => ?_⟩
        obtain ⟨q, hq⟩ : ∃ q, (f z)[j]? = some q := ⟨(f z)[j], List.getElem?_eq_getElem lt4⟩
        obtain ⟨G5, t5, p5⟩ := wk1.yields j H4 x5 H5 lt4 (a4.trans b4) y5 G4 (θ q) a4 b4 (by rw [List.getElem?_map, hq] <;> rfl)
        obtain ⟨hgy, hey⟩ := hy q (List.mem_of_getElem? hq)
        have E5 : EnvOk G5 (wipe σ2 vs1) (wipeE (ρx z) vs1) := (E2.mono (t3.g.trans (a4.trans t5.g))).wiped vs1
        refine hgy G5 H5 _ x5 _ E5 t5.s p5 fun σ6 E6 o6 => ⟨o6.wipe hjs1, ?_⟩
        refine tYes_if ?_
        refine hey G5 H5 σ6 _ E6 t5.s trivial fun v G6 H6 t6 _ p6 => ?_
        have t56 := t5.trans t6
        have w6 := w4.step0 t56
        refine ⟨xs4, w6.h, Nat.lt_of_le_of_lt (show xs4.length ≤ 10001000 by omega) (by decide), G6, xs4 ++ [v], a4.trans t56.g, same_mut t6.s w6.g, fun q u e => ?_, fun q u e => ?_, ⟨upd_same, w6.g⟩, ?_, by simp; omega⟩
        · rw [upd_ne (ne_of_none e hD)]
          exact t56.same _ _ (c4 _ _ e)
        · rcases t56.n q u e with h | h
          · exact n4 q u h
          · exact .inr (c4.free h)
        · rw [List.take_add_one, hq, ← List.append_assoc, List.map_append]
          exact (r4.mono t56.g).append (.cons p6 .nil)
      · have e : j = (f z).length := by omega
        subst e
        refine .inl ⟨wk1.stops H4 (a4.trans b4), G4, xs4, a.trans (t23.g.trans a4), b4, c4, n4, w4, ?_, by omega⟩
        rw [List.take_length] at r4
        rw [List.take_add_one, hz2, List.flatMap_append]
        simpa using r4
    · have e : i = l.length := by omega
      subst e
      rw [List.take_length] at r
      have t2 : Stp A0 G1 H1 G' H' := ⟨fun q u e _ => c q u e, a, b, n, same_k c⟩
      obtain ⟨t3, s3⟩ := stp_seal t2 hD w
      exact .inl ⟨wk.stops H' (a.trans b), k _ _ _ (t1.trans t3) trivial (.lst upd_same (r.mono s3))⟩
end
end Ls
/-! Rules2 -/
set_option maxHeartbeats 4000000
/-! Rules of ours, second part: classes called, one of several. -/
namespace Ls
open PySem PySem.Spec PyProof.Rows L2
/-- a class that is called, its __init__ kept -/
structure Mc (P : Program) (w : World) (K : PySem.W.Frag) (mg : Str → Option Value) (base : Heap) (x : Str) (C : Addr) (k : Nat) (ps : List Str) (sp : Sp) : Prop where
  ex : ∃ (f : Addr) (fd : FuncData), Mk K C f ∧ FnOk P w K mg base CX0 k f fd ps sp ∧ mg x = some (.ref C) ∧ Binds K fd ps []
/-- .. with keywords -/
structure Mck (P : Program) (w : World) (K : PySem.W.Frag) (mg : Str → Option Value) (base : Heap) (x : Str) (C : Addr) (k n : Nat) (ks ps : List Str) (sp : Sp) : Prop where
  ex : ∃ (f : Addr) (fd : FuncData) (g : List Value → List Value → List Value), Mk K C f ∧ FnOk P w K mg base CX0 k f fd ps sp ∧ mg x = some (.ref C) ∧ KBn K fd ps (n + 1) ks g fun vs zs => vs ++ zs
section
variable {X : Cx} {e : Expr} {es : List Expr} {pos p : Pos} {t tk : TA} {x : Str} {k n : Nat} {ps ks : List Str} {sp : Sp} {C : Addr} {kws : List Keyword}
theorem pe_mk (M : Mc X.prog X.w X.K X.mg X.base x C k ps sp) (hr : Room (k + 1) X.A) (hg : Gl X x) (ha : PA X (e :: es) t) (hdb : (x == ("__debug__" : Str)) = false := by decide) (he : starEach (e :: es) X.env = (false, eval e X.env) :: starEach es X.env := by rfl) (hpl : (backTo pos (starEach es X.env)).any (·.1) = false := by rfl) :
    PE X (.Call (.Name x p) (e :: es) [] pos) (tMake C sp [] E0 t) := by
  obtain ⟨f, fd, h1, h2, h3, h4⟩ := M.ex
  exact pe_make h1 h2 hr hg h3 h4 .nil pass0 ha hdb he hpl
theorem pe_mkK (M : Mck X.prog X.w X.K X.mg X.base x C k n ks ps sp) (hr : Room (k + 1) X.A) (hg : Gl X x) (ha : PA X (e :: es) t) (hkw : PK X kws tk)
    (hall : (backToKw pos (keywordEach kws X.env)).all (·.1.isSome) = true := by rfl) (hks : (backToKw pos (keywordEach kws X.env)).filterMap (·.1) = ks := by rfl) (hdb : (x == ("__debug__" : Str)) = false := by decide)
    (he : starEach (e :: es) X.env = (false, eval e X.env) :: starEach es X.env := by rfl) (hpl : ((backTo pos (starEach (e :: es) X.env)).any (·.1) || (backToKw pos (keywordEach kws X.env)).any (·.1.isNone)) = false := by rfl) :
    PE X (.Call (.Name x p) (e :: es) kws pos) (tMakeK C n ks.length sp (fun vs zs => vs ++ zs) E0 t tk) := by
  obtain ⟨f, fd, g, h1, h2, h3, h4⟩ := M.ex
  exact pe_makeK h1 h2 hr hg h3 h4 pass0 ha hkw hall hks hdb he hpl
end
section
variable {A : Amb} {ρ : Env} {te ta tb tc : TE} {tt tu : TT} {φ ψ χ : SP} {K : PySem.W.Frag} {G0 H0 G H : Hp} {σ : L2.St} {D : Ends} {t u tz tw : TS} {r : R2}
theorem xr_ex {α : Type} {P : α → Prop} {f g : α → SP} (h : ∀ x, P x → XR A r φ (f x) (g x)) : XR A r φ (ex P f) (ex P g) := fun G H x y Q s j hx hy k => by
  obtain ⟨z, hz, p⟩ := hy
  exact h z hz G H x y Q s j hx p fun v G2 H2 t j2 p2 => k v G2 H2 t j2 ⟨z, hz, p2⟩
theorem xr_ex1 {α : Type} {P : α → Prop} {f g : α → SP} (h : ∀ x, P x → XR A r (f x) ψ (g x)) : XR A r (ex P f) ψ (ex P g) := fun G H x y Q s j hx hy k => by
  obtain ⟨z, hz, p⟩ := hx
  exact h z hz G H x y Q s j p hy fun v G2 H2 t j2 p2 => k v G2 H2 t j2 ⟨z, hz, p2⟩
/-- a for over a text that is one of several -/
theorem q_forStrEx {α : Type} {P : α → Prop} {z : α → Str} {g : TG} {tb : TS} (a : At A G0 H0 G H σ ρ) (h : XE A te ρ (ex P fun x => dat (.str (z x)))) (k : ∀ x, P x → ∀ G2 H2, Stp A G H G2 H2 → At A G0 H0 G2 H2 σ ρ → tSeq (tFor (iStr (tC (.str (z x)))) g tb) tz D σ H2) : tSeq (tFor (iStr te) g tb) tz D σ H := by
  show te σ H _
  refine a.e h fun v G2 H2 st a2 p => ?_
  obtain ⟨x, hx, p⟩ := p
  have e : v = .str (z x) := Rp.str_inv p
  subst e
  exact k x hx G2 H2 st a2
end
end Ls
/-! Bag -/
set_option maxHeartbeats 1000000
/-! The law's bag: an Amb of its own. -/
namespace Ls
open PySem PySem.Spec PyProof.Rows L2
structure BagAt (bag L : Addr) (ns : List Int) (G H : Hp) (i d s c : Int) : Prop where
  g : G bag = none
  l : G L = some (.lst (ns.map V.int))
  h : H bag = some (.lst [.ref L, .int i, .int d, .int s, .int c])
def BagJ (bag L : Addr) (ns : List Int) (G H : Hp) : Prop := ∃ i d s c, BagAt bag L ns G H i d s c ∧ 0 ≤ i ∧ 0 ≤ s ∧ s < 2147483549
def bagA (bag L : Addr) (ns : List Int) : Amb where
  B := fun a => a = bag
  J := BagJ bag L ns
  st := fun {G H G2 H2} sH sG n ⟨i, d, s, c, b, q⟩ => ⟨i, d, s, c, ⟨(by
    cases e : G2 bag with
    | none => rfl
    | some o =>
      rcases n bag o e with z | z
      · rw [b.g] at z
        cases z
      · rw [b.h] at z
        cases z), sG _ _ b.l, sH _ _ b.h⟩, q⟩
  mt := fun {G H l o o'} ⟨i, d, s, c, b, q⟩ hl hg nb => ⟨i, d, s, c, ⟨b.g, b.l, by rw [upd_ne (fun e => nb e.symm)]; exact b.h⟩, q⟩
  sl := fun {G H l o} ⟨i, d, s, c, b, q⟩ hl hg nb => ⟨i, d, s, c, ⟨by rw [upd_ne (fun e => nb e.symm)]; exact b.g, by rw [upd_ne (ne_of_none b.l hg)]; exact b.l, b.h⟩, q⟩
def bagD (ns : List Int) (i d s c : Int) : List PyData := [.list (ns.map .int), .int i, .int d, .int s, .int c]
theorem rp_ints_of {G : Hp} : ∀ ns : List Int, RpAll G (ns.map V.int) (ns.map PyData.int)
  | [] => .nil
  | n :: r => .cons (.int n) (rp_ints_of r)
section
variable {ρ : Env} {te ta tb tc : TE} {tt tu : TT} {φ ψ χ : SP} {K : PySem.W.Frag} {G0 H0 G H : Hp} {σ : L2.St} {D : Ends} {t u tz tw : TS} {bag L : Addr} {ns : List Int} {i d s c : Int}
theorem BagAt.rp (b : BagAt bag L ns G H i d s c) : RpAll G [.ref L, .int i, .int d, .int s, .int c] (bagD ns i d s c) := .cons (.lst b.l (rp_ints_of ns)) (.cons (.int _) (.cons (.int _) (.cons (.int _) (.cons (.int _) .nil))))
theorem BagAt.step0 {G2 H2 : Hp} (b : BagAt bag L ns G H i d s c) (t : Stp A0 G H G2 H2) : BagAt bag L ns G2 H2 i d s c := by
  have w : Own G H bag (.lst [.ref L, .int i, .int d, .int s, .int c]) := ⟨b.h, b.g⟩
  exact ⟨(w.step0 t).g, t.g _ _ b.l, (w.step0 t).h⟩
/-- the state in the bag's own def: the bag's content is told apart -/
structure AtB (bag L : Addr) (ns : List Int) (G0 H0 G H : Hp) (σ : L2.St) (ρ : Env) (i d s c : Int) : Prop where
  env : EnvOk G σ ρ
  stp : Stp (bagA bag L ns) G0 H0 G H
  b : BagAt bag L ns G H i d s c
theorem AtB.step0 {G2 H2 : Hp} (a : AtB bag L ns G0 H0 G H σ ρ i d s c) (t : Stp A0 G H G2 H2) : AtB bag L ns G0 H0 G2 H2 σ ρ i d s c := ⟨a.env.mono t.g, a.stp.trans t.up, a.b.step0 t⟩
theorem AtB.re {σ2 : L2.St} {ρ2 : Env} (a : AtB bag L ns G0 H0 G H σ ρ i d s c) (E : EnvOk G σ2 ρ2) : AtB bag L ns G0 H0 G H σ2 ρ2 i d s c := ⟨E, a.stp, a.b⟩
/-- an expression over the bag, an int -/
theorem AtB.e {j : Nat} {n : Int} (a : AtB bag L ns G0 H0 G H σ ρ i d s c) (hj : σ[j]? = some (some (.ref bag))) (h : XE A0 te (ρ.set j (some (dat (.list (bagD ns i d s c))))) (dat (.int n))) {Q : VK} (k : ∀ H2, Stp A0 G H G H2 → AtB bag L ns G0 H0 G H2 σ ρ i d s c → Q (.int n) H2) : te σ H Q := by
  have s1 : Same G (upd G bag (.lst [.ref L, .int i, .int d, .int s, .int c])) := same_new a.b.g
  refine h _ H σ Q ((a.env.mono s1).put hj (.lst upd_same (a.b.rp.mono s1))) (by
    intro b o e
    by_cases q : b = bag
    · subst q
      rw [upd_same] at e
      rw [← Option.some.inj e]
      exact a.b.h
    · rw [upd_ne q] at e
      exact a.stp.s b o e) trivial fun v G2 H2 t _ p => ?_
  have e : v = .int n := Rp.int_inv p
  subst e
  have t2 := Stp.only a.stp.s t.same
  exact k H2 t2 (a.step0 t2)
theorem AtB.tst {j : Nat} {b : Bool} (a : AtB bag L ns G0 H0 G H σ ρ i d s c) (hj : σ[j]? = some (some (.ref bag))) (h : XT A0 tt (ρ.set j (some (dat (.list (bagD ns i d s c))))) b) {Q : Bool → Hp → Prop} (k : ∀ H2, Stp A0 G H G H2 → AtB bag L ns G0 H0 G H2 σ ρ i d s c → Q b H2) : tt σ H Q := by
  have s1 : Same G (upd G bag (.lst [.ref L, .int i, .int d, .int s, .int c])) := same_new a.b.g
  refine h _ H σ Q ((a.env.mono s1).put hj (.lst upd_same (a.b.rp.mono s1))) (by
    intro b o e
    by_cases q : b = bag
    · subst q
      rw [upd_same] at e
      rw [← Option.some.inj e]
      exact a.b.h
    · rw [upd_ne q] at e
      exact a.stp.s b o e) trivial fun G2 H2 t _ => ?_
  have t2 := Stp.only a.stp.s t.same
  exact k H2 t2 (a.step0 t2)
/-- the bag's content changes -/
theorem AtB.put {i' d' s' c' : Int} (a : AtB bag L ns G0 H0 G H σ ρ i d s c) (f : ∃ o, H0 bag = some o) : AtB bag L ns G0 H0 G (upd H bag (.lst [.ref L, .int i', .int d', .int s', .int c'])) σ ρ i' d' s' c' := by
  refine ⟨a.env, ⟨fun b o e nb => ?_, a.stp.g, same_mut a.stp.s a.b.g, a.stp.n, fun b e => ?_⟩, ⟨a.b.g, a.b.l, upd_same⟩⟩
  · rw [upd_ne nb]
    exact a.stp.h b o e nb
  · by_cases q : b = bag
    · subst q
      rw [upd_same] at e
      cases e
    · rw [upd_ne q] at e
      exact a.stp.k b e
/-- an if over the bag: P is reached either way -/
theorem q_ifB {j : Nat} {b : Bool} (a : AtB bag L ns G0 H0 G H σ ρ i d s c) (hj : σ[j]? = some (some (.ref bag))) (h : XT A0 tt (ρ.set j (some (dat (.list (bagD ns i d s c))))) b) (P : Hp → Hp → L2.St → Prop)
    (h1 : b = true → ∀ H2, AtB bag L ns G0 H0 G H2 σ ρ i d s c → ∀ N : L2.St → Hp → Prop, (∀ G' H' σ', P G' H' σ' → N σ' H') → t { D with nx := N } σ H2) (h2 : b = false → ∀ H2, AtB bag L ns G0 H0 G H2 σ ρ i d s c → P G H2 σ) (cont : ∀ G' H' σ', P G' H' σ' → tz D σ' H') : tSeq (tIfS tt t tNext) tz D σ H :=
  a.tst hj h fun H2 st a2 => by
    cases b with
    | true =>
      rw [if_pos rfl]
      exact h1 rfl H2 a2 _ cont
    | false =>
      rw [if_neg Bool.false_ne_true]
      exact cont _ _ _ (h2 rfl H2 a2)
/-- bag[k] = an int: by hand at its place -/
theorem bag_set {j : Nat} {kx : Nat} {n : Int} {xs : List V} {Q : L2.St → Hp → Prop} (hj : σ[j]? = some (some (.ref bag))) (h : H bag = some (.lst xs)) (hk : kx < xs.length) (q : Q σ (upd H bag (.lst (xs.set kx (.int n))))) : gSub (tVar j) (tC (.int (kx : Int))) rSetL (.int n) σ H Q :=
  ⟨_, hj, ⟨bag, xs, (kx : Int), kx, rfl, rfl, h, ixN_at hk, q⟩⟩
end
end Ls
/-! Bo -/
set_option maxHeartbeats 4000000
/-! The positions of a board with an automaton, in plain words. -/
namespace Ls
open PySem PySem.Spec PyProof.Rows L2
/-! ### sizes -/
theorem nodup_lt (n : Nat) (l : List Nat) (nd : l.Nodup) (h : ∀ x ∈ l, x < n) : l.length ≤ n := by
  have := nd.length_le_of_subset (l₂ := List.range n) fun x hx => List.mem_range.mpr (h x hx)
  rw [List.length_range] at this
  exact this
theorem nodup_pairs {N M : Nat} {l : List (Nat × Nat)} (nd : l.Nodup) (h : ∀ p ∈ l, p.1 < N ∧ p.2 < M) : l.length ≤ N * M := by
  have nd2 : (l.map fun p => p.1 * M + p.2).Nodup := by
    refine List.Pairwise.map _ (R := fun a b => a ≠ b ∧ a.2 < M ∧ b.2 < M) ?_ ?_
    · rintro ⟨a1, a2⟩ ⟨b1, b2⟩ ⟨ne, h1, h2⟩ e
      simp only at h1 h2 e
      have e1 : a1 = b1 := by
        have q1 : (a1 * M + a2) / M = a1 := by rw [Nat.mul_comm, Nat.mul_add_div (by omega), Nat.div_eq_of_lt h1]; rfl
        have q2 : (b1 * M + b2) / M = b1 := by rw [Nat.mul_comm, Nat.mul_add_div (by omega), Nat.div_eq_of_lt h2]; rfl
        rw [← q1, ← q2, e]
      subst e1
      have e2 : a2 = b2 := by omega
      exact ne (by rw [e2])
    · exact List.Pairwise.imp_of_mem (fun {a b} ha hb ne => ⟨ne, (h a ha).2, (h b hb).2⟩) nd
  have := nodup_lt (N * M) _ nd2 fun x hx => by
    obtain ⟨p, hp, rfl⟩ := List.mem_map.mp hx
    obtain ⟨h1, h2⟩ := h p hp
    calc p.1 * M + p.2 < p.1 * M + M := by omega
      _ = (p.1 + 1) * M := by rw [Nat.add_mul, Nat.one_mul]
      _ ≤ N * M := Nat.mul_le_mul_right M (by omega)
  rw [List.length_map] at this
  exact this
/-! ### the moves in their order -/
noncomputable def tl (trs : List Tr) (s c : Nat) : List (Nat × Bool) := Classical.choose (mvD_map trs s c)
theorem tl_perm (trs : List Tr) (s c : Nat) : (tl trs s c).Perm (mvs trs s c) := (Classical.choose_spec (mvD_map trs s c)).1
theorem tl_eq (trs : List Tr) (s c : Nat) : mvD trs s c = .list ((tl trs s c).map eMv) := (Classical.choose_spec (mvD_map trs s c)).2
noncomputable def bl (ms : List Bm) (n : Nat) : List (Nat × Nat) := Classical.choose (bmvD_map ms n)
theorem bl_perm (ms : List Bm) (n : Nat) : (bl ms n).Perm (bmvs ms n) := (Classical.choose_spec (bmvD_map ms n)).1
theorem bl_eq (ms : List Bm) (n : Nat) : bmvD ms n = .list ((bl ms n).map eLt) := (Classical.choose_spec (bmvD_map ms n)).2
theorem mvs_mem {trs : List Tr} {s c : Nat} {m : Nat × Bool} : m ∈ mvs trs s c ↔ (s, c, m.1, m.2) ∈ trs := by
  unfold mvs
  rw [List.mem_map]
  constructor
  · rintro ⟨t, ht, e⟩
    obtain ⟨h1, h2⟩ := List.mem_filter.mp ht
    obtain ⟨a, b, d⟩ := t
    obtain ⟨h3, h4⟩ := Bool.and_eq_true_iff.mp h2
    have h3 : a = s := of_decide_eq_true h3
    have h4 : b = c := of_decide_eq_true h4
    have e : d = m := e
    subst h3 h4 e
    exact h1
  · intro h
    exact ⟨(s, c, m.1, m.2), List.mem_filter.mpr ⟨h, by simp⟩, rfl⟩
theorem bmvs_mem {ms : List Bm} {n : Nat} {m : Nat × Nat} : m ∈ bmvs ms n ↔ (n, m.1, m.2) ∈ ms := by
  unfold bmvs
  rw [List.mem_map]
  constructor
  · rintro ⟨t, ht, e⟩
    obtain ⟨h1, h2⟩ := List.mem_filter.mp ht
    obtain ⟨a, b⟩ := t
    have h2 : a = n := of_decide_eq_true h2
    have e : b = m := e
    subst h2 e
    exact h1
  · intro h
    exact ⟨(n, m.1, m.2), List.mem_filter.mpr ⟨h, by simp⟩, rfl⟩
theorem tl_mem {trs : List Tr} {s c : Nat} {m : Nat × Bool} : m ∈ tl trs s c ↔ (s, c, m.1, m.2) ∈ trs := by rw [(tl_perm trs s c).mem_iff, mvs_mem]
theorem bl_mem {ms : List Bm} {n : Nat} {m : Nat × Nat} : m ∈ bl ms n ↔ (n, m.1, m.2) ∈ ms := by rw [(bl_perm ms n).mem_iff, bmvs_mem]
theorem mvs_nd {a : Aut} (ok : AutOk a) (s c : Nat) : ((mvs a.trs s c).map (·.1)).Nodup := by
  have h := ok.nd
  have h2 : ((a.trs.filter fun t => decide (t.1 = s) && decide (t.2.1 = c)).map fun t => kT3 t.1 t.2.1 t.2.2.1).Nodup := h.sublist (List.filter_sublist.map _)
  unfold mvs
  rw [List.map_map]
  refine List.Pairwise.map _ (R := fun x y => kT3 x.1 x.2.1 x.2.2.1 ≠ kT3 y.1 y.2.1 y.2.2.1 ∧ x.1 = s ∧ x.2.1 = c ∧ y.1 = s ∧ y.2.1 = c) ?_ ?_
  · rintro x y ⟨ne, h1, h2, h3, h4⟩ e
    exact ne (kT3_inj.mpr ⟨h1.trans h3.symm, h2.trans h4.symm, e⟩)
  · refine List.Pairwise.imp_of_mem (fun {x y} hx hy ne => ?_) (List.pairwise_map.mp h2)
    obtain ⟨_, q1⟩ := List.mem_filter.mp hx
    obtain ⟨_, q2⟩ := List.mem_filter.mp hy
    obtain ⟨q3, q4⟩ := Bool.and_eq_true_iff.mp q1
    obtain ⟨q5, q6⟩ := Bool.and_eq_true_iff.mp q2
    exact ⟨ne, of_decide_eq_true q3, of_decide_eq_true q4, of_decide_eq_true q5, of_decide_eq_true q6⟩
theorem tl_len {a : Aut} (ok : AutOk a) (s c : Nat) : (tl a.trs s c).length ≤ a.n := by
  rw [(tl_perm _ s c).length_eq]
  have := nodup_lt a.n _ (mvs_nd ok s c) fun x hx => by
    obtain ⟨m, hm, rfl⟩ := List.mem_map.mp hx
    exact (ok.ok _ (mvs_mem.mp hm)).t
  rw [List.length_map] at this
  exact this
/-! ### places -/
def ix (F : List (Nat × Nat)) (p : Nat × Nat) : Nat := F.findIdx fun q => decide (q = p)
theorem ix_lt {F : List (Nat × Nat)} {p : Nat × Nat} (h : p ∈ F) : ix F p < F.length := List.findIdx_lt_length_of_exists ⟨p, h, by simp⟩
theorem ix_get {F : List (Nat × Nat)} {p : Nat × Nat} (h : p ∈ F) : F[ix F p]? = some p := by
  have hl := ix_lt h
  rw [List.getElem?_eq_getElem hl]
  have := List.findIdx_getElem (w := hl)
  exact congrArg some (of_decide_eq_true this)
theorem ix_app {F E : List (Nat × Nat)} {p : Nat × Nat} (h : p ∈ F) : ix (F ++ E) p = ix F p := by
  unfold ix
  rw [List.findIdx_append]
  exact if_pos (ix_lt h)
theorem ix_new {F : List (Nat × Nat)} {p : Nat × Nat} (h : p ∉ F) : ix (F ++ [p]) p = F.length := by
  unfold ix
  have e : F.findIdx (fun q => decide (q = p)) = F.length := List.findIdx_eq_length_of_false fun q hq => decide_eq_false fun z => h (z ▸ hq)
  rw [List.findIdx_append, if_neg (by rw [e]; exact Nat.lt_irrefl _), List.findIdx_cons]
  simp
/-- the dict of places -/
def posF (F : List (Nat × Nat)) : DFn := fun k => (F.findIdx? fun q => decide (kNN q.1 q.2 = k)).map fun i : Nat => .int (i : Int)
theorem posF_key {p : Nat × Nat} : (fun q : Nat × Nat => decide (kNN q.1 q.2 = kNN p.1 p.2)) = fun q => decide (q = p) := by
  funext q
  by_cases h : q = p
  · rw [h]
    simp
  · have h2 : ¬ kNN q.1 q.2 = kNN p.1 p.2 := fun e => h (by
      obtain ⟨e1, e2⟩ := kNN_inj.mp e
      exact Prod.ext e1 e2)
    rw [decide_eq_false h, decide_eq_false h2]
theorem posF_at {F : List (Nat × Nat)} {p : Nat × Nat} (h : p ∈ F) : posF F (kNN p.1 p.2) = some (.int (ix F p : Int)) := by
  unfold posF
  rw [posF_key]
  have : F.findIdx? (fun q => decide (q = p)) = some (ix F p) := List.findIdx?_eq_some_of_exists ⟨p, h, by simp⟩
  rw [this]
  rfl
theorem posF_no {F : List (Nat × Nat)} {p : Nat × Nat} (h : p ∉ F) : posF F (kNN p.1 p.2) = none := by
  unfold posF
  rw [posF_key]
  have : F.findIdx? (fun q => decide (q = p)) = none := List.findIdx?_eq_none_iff.mpr fun q hq => decide_eq_false fun z => h (z ▸ hq)
  rw [this]
  rfl
theorem posF_some {F : List (Nat × Nat)} {p : Nat × Nat} : (posF F (kNN p.1 p.2)).isSome = decide (p ∈ F) := by
  by_cases h : p ∈ F
  · rw [posF_at h, decide_eq_true h]
    rfl
  · rw [posF_no h, decide_eq_false h]
    rfl
theorem posF_put {F : List (Nat × Nat)} {p : Nat × Nat} (h : p ∉ F) : putF (posF F) (kNN p.1 p.2) (.int (F.length : Int)) = posF (F ++ [p]) := by
  funext k
  unfold putF
  by_cases e : k = kNN p.1 p.2
  · rw [if_pos e, e, posF_at (by simp), ix_new h]
  · rw [if_neg e]
    unfold posF
    rw [List.findIdx?_append]
    have e2 : decide (kNN p.1 p.2 = k) = false := decide_eq_false fun z => e z.symm
    rw [List.findIdx?_cons, e2]
    simp
/-! ### rows -/
abbrev Item := (Nat × Nat) × (Nat × Nat × Nat)
def item (F : List (Nat × Nat)) (m : Nat × Nat) (tw : Nat × Bool) : Item := ((ix F (m.2, tw.1), if tw.2 then 1 else 0), (m.1, m.2, tw.1))
noncomputable def chal (trs : List Tr) (F : List (Nat × Nat)) (s : Nat) (m : Nat × Nat) : List Item := (tl trs s m.1).map (item F m)
noncomputable def rowB (b : Brd) (a : Aut) (F : List (Nat × Nat)) (p : Nat × Nat) : List (List Item) := (bl b.ms p.1).map (chal a.trs F p.2)
def fullR (o : Nat) (base : List (List Item)) : List (List Item) := if o = 0 then [base.flatten] else base
def own (b : Brd) (n : Nat) : Nat := b.ow.getD n 0
noncomputable def rowR (b : Brd) (a : Aut) (F : List (Nat × Nat)) (p : Nat × Nat) : List (List Item) := fullR (own b p.1) (rowB b a F p)
/-- all that is reached by the move stands in F -/
def Clo (trs : List Tr) (F : List (Nat × Nat)) (s : Nat) (m : Nat × Nat) : Prop := ∀ tw ∈ tl trs s m.1, (m.2, tw.1) ∈ F
def CloAt (b : Brd) (a : Aut) (F : List (Nat × Nat)) (p : Nat × Nat) : Prop := ∀ m ∈ bl b.ms p.1, Clo a.trs F p.2 m
theorem chal_app {trs : List Tr} {F E : List (Nat × Nat)} {s : Nat} {m : Nat × Nat} (h : Clo trs F s m) : chal trs (F ++ E) s m = chal trs F s m := by
  unfold chal
  refine List.map_congr_left fun tw htw => ?_
  unfold item
  rw [ix_app (h tw htw)]
theorem rowR_app {b : Brd} {a : Aut} {F E : List (Nat × Nat)} {p : Nat × Nat} (h : CloAt b a F p) : rowR b a (F ++ E) p = rowR b a F p := by
  unfold rowR rowB
  congr 1
  exact List.map_congr_left fun m hm => chal_app (h m hm)
theorem Clo.app {trs : List Tr} {F E : List (Nat × Nat)} {s : Nat} {m : Nat × Nat} (h : Clo trs F s m) : Clo trs (F ++ E) s m := fun tw htw => List.mem_append_left _ (h tw htw)
theorem CloAt.app {b : Brd} {a : Aut} {F E : List (Nat × Nat)} {p : Nat × Nat} (h : CloAt b a F p) : CloAt b a (F ++ E) p := fun m hm => (h m hm).app
/-! ### the search, step by step -/
def add1 (F : List (Nat × Nat)) (p : Nat × Nat) : List (Nat × Nat) := if p ∈ F then F else F ++ [p]
def addAll (F ps : List (Nat × Nat)) : List (Nat × Nat) := ps.foldl add1 F
theorem addAll_snoc {F ps : List (Nat × Nat)} {p : Nat × Nat} : addAll F (ps ++ [p]) = add1 (addAll F ps) p := by
  unfold addAll
  rw [List.foldl_append]
  rfl
theorem addAll_app {F ps qs : List (Nat × Nat)} : addAll F (ps ++ qs) = addAll (addAll F ps) qs := by
  unfold addAll
  rw [List.foldl_append]
noncomputable def reach (trs : List Tr) (s : Nat) (m : Nat × Nat) : List (Nat × Nat) := (tl trs s m.1).map fun tw => (m.2, tw.1)
noncomputable def Fs (b : Brd) (a : Aut) (st : Nat) : Nat → List (Nat × Nat)
  | 0 => [(st, a.ini)]
  | n + 1 => match (Fs b a st n)[n]? with
    | some p => addAll (Fs b a st n) ((bl b.ms p.1).flatMap (reach a.trs p.2))
    | none => Fs b a st n
theorem Fs_next {b : Brd} {a : Aut} {st n : Nat} {p : Nat × Nat} (h : (Fs b a st n)[n]? = some p) : Fs b a st (n + 1) = addAll (Fs b a st n) ((bl b.ms p.1).flatMap (reach a.trs p.2)) := by
  show (match (Fs b a st n)[n]? with | some p => addAll (Fs b a st n) ((bl b.ms p.1).flatMap (reach a.trs p.2)) | none => Fs b a st n) = _
  rw [h]
theorem Fs_stays {b : Brd} {a : Aut} {st n : Nat} (h : (Fs b a st n).length = n) : ∀ k, Fs b a st (n + k) = Fs b a st n
  | 0 => rfl
  | k + 1 => by
    have ih := Fs_stays h k
    show (match (Fs b a st (n + k))[n + k]? with | some p => addAll (Fs b a st (n + k)) ((bl b.ms p.1).flatMap (reach a.trs p.2)) | none => Fs b a st (n + k)) = _
    rw [ih, List.getElem?_eq_none (by omega)]
theorem bfs_ex (b : Brd) (a : Aut) (st : Nat) : ∃ F, F = Fs b a st 100 := ⟨_, rfl⟩
noncomputable def bfs (b : Brd) (a : Aut) (st : Nat) : List (Nat × Nat) := Classical.choose (bfs_ex b a st)
theorem bfs_eq (b : Brd) (a : Aut) (st : Nat) : bfs b a st = Fs b a st 100 := Classical.choose_spec (bfs_ex b a st)
theorem bfs_of {b : Brd} {a : Aut} {st n : Nat} (h : (Fs b a st n).length = n) (hn : n ≤ 100) : bfs b a st = Fs b a st n := by
  have := Fs_stays h (100 - n)
  rw [show n + (100 - n) = 100 by omega] at this
  rw [bfs_eq]
  exact this
abbrev Names := List (List (List (Nat × Nat × Nat)))
noncomputable def gameOf (b : Brd) (a : Aut) (F : List (Nat × Nat)) : Game := F.map fun p => (rowR b a F p).map fun ch => ch.map (·.1)
noncomputable def namesOf (b : Brd) (a : Aut) (F : List (Nat × Nat)) : Names := F.map fun p => (rowR b a F p).map fun ch => ch.map (·.2)
def eN3 (x : Nat × Nat × Nat) : PyData := .tuple [.str (sg x.1), .int (x.2.1 : Int), .int (x.2.2 : Int)]
def eNch (l : List (Nat × Nat × Nat)) : PyData := .list (l.map eN3)
def eNrow (l : List (List (Nat × Nat × Nat))) : PyData := .list (l.map eNch)
def eNm (l : Names) : PyData := .list (l.map eNrow)
structure PosOk (b : Brd) (a : Aut) (st : Nat) (F : List (Nat × Nat)) : Prop where
  nd : F.Nodup
  rng : ∀ p ∈ F, p.1 < b.ow.length ∧ p.2 < a.n
  hd : F[0]? = some (st, a.ini)
structure Sml (b : Brd) (a : Aut) : Prop where
  o : b.ow.length ≤ 10
  n : a.n ≤ 10
  m : b.ms.length ≤ 60
theorem PosOk.len {b : Brd} {a : Aut} {st : Nat} {F : List (Nat × Nat)} (P : PosOk b a st F) (S : Sml b a) : F.length ≤ 100 := by
  have h := nodup_pairs P.nd P.rng
  have h1 := S.o
  have h2 := S.n
  calc F.length ≤ b.ow.length * a.n := h
    _ ≤ 10 * 10 := Nat.mul_le_mul h1 h2
theorem bl_len {b : Brd} {a : Aut} (S : Sml b a) (n : Nat) : (bl b.ms n).length ≤ 60 := by
  rw [(bl_perm _ n).length_eq]
  unfold bmvs
  rw [List.length_map]
  exact Nat.le_trans (List.length_filter_le _ _) S.m
theorem chal_len {a : Aut} (ok : AutOk a) {b : Brd} (S : Sml b a) (F : List (Nat × Nat)) (s : Nat) (m : Nat × Nat) : (chal a.trs F s m).length ≤ 10 := by
  unfold chal
  rw [List.length_map]
  exact Nat.le_trans (tl_len ok s m.1) S.n
theorem flat_len {α : Type} {k : Nat} : ∀ {l : List (List α)}, (∀ x ∈ l, x.length ≤ k) → l.flatten.length ≤ l.length * k
  | [], _ => by simp
  | x :: r, h => by
    rw [List.flatten_cons, List.length_append, List.length_cons, Nat.add_mul, Nat.one_mul, Nat.add_comm]
    exact Nat.add_le_add (flat_len fun y hy => h y (List.mem_cons_of_mem _ hy)) (h x List.mem_cons_self)
theorem game_ok {b : Brd} {a : Aut} {st : Nat} {F : List (Nat × Nat)} (P : PosOk b a st F) (C : ∀ p ∈ F, CloAt b a F p) : GOk (gameOf b a F) := by
  intro r hr ch hc q hq
  unfold gameOf at *
  rw [List.length_map]
  obtain ⟨p, hp, rfl⟩ := List.mem_map.mp hr
  obtain ⟨c, hcc, rfl⟩ := List.mem_map.mp hc
  obtain ⟨x, hx, rfl⟩ := List.mem_map.mp hq
  have key : ∀ c ∈ rowB b a F p, ∀ x ∈ c, x.1.1 < F.length ∧ x.1.2 ≤ 1 := fun c hc x hx => by
    unfold rowB at hc
    obtain ⟨m, hm, rfl⟩ := List.mem_map.mp hc
    unfold chal at hx
    obtain ⟨tw, htw, rfl⟩ := List.mem_map.mp hx
    refine ⟨ix_lt (C p hp m hm tw htw), ?_⟩
    unfold item
    simp only
    split <;> omega
  unfold rowR fullR at hcc
  split at hcc
  · rw [List.mem_singleton.mp hcc] at hx
    obtain ⟨c', hc', hx'⟩ := List.mem_flatten.mp hx
    exact key c' hc' x hx'
  · exact key c hcc x hx
theorem rowR_sm {b : Brd} {a : Aut} (ok : AutOk a) (S : Sml b a) (F : List (Nat × Nat)) (p : Nat × Nat) : (rowR b a F p).length ≤ 60 ∧ ∀ ch ∈ rowR b a F p, ch.length ≤ 600 := by
  have h1 : (rowB b a F p).length ≤ 60 := by
    unfold rowB
    rw [List.length_map]
    exact bl_len S p.1
  have h2 : ∀ ch ∈ rowB b a F p, ch.length ≤ 10 := fun ch hc => by
    unfold rowB at hc
    obtain ⟨m, _, rfl⟩ := List.mem_map.mp hc
    exact chal_len ok S F p.2 m
  unfold rowR fullR
  split
  · refine ⟨by simp, fun ch hc => ?_⟩
    rw [List.mem_singleton.mp hc]
    exact Nat.le_trans (flat_len h2) (Nat.le_trans (Nat.mul_le_mul_right 10 h1) (by decide))
  · exact ⟨h1, fun ch hc => Nat.le_trans (h2 ch hc) (by decide)⟩
theorem game_sm {b : Brd} {a : Aut} {st : Nat} {F : List (Nat × Nat)} (ok : AutOk a) (P : PosOk b a st F) (S : Sml b a) : GSm (gameOf b a F) := by
  refine ⟨by unfold gameOf; rw [List.length_map]; exact Nat.le_trans (P.len S) (by decide), fun r hr => ?_⟩
  unfold gameOf at hr
  obtain ⟨p, hp, rfl⟩ := List.mem_map.mp hr
  obtain ⟨h1, h2⟩ := rowR_sm ok S F p
  refine ⟨by rw [List.length_map]; omega, fun ch hc => ?_⟩
  obtain ⟨c, hcc, rfl⟩ := List.mem_map.mp hc
  rw [List.length_map]
  have := h2 c hcc
  omega
end Ls
/-! Pl -/
set_option maxHeartbeats 1000000
/-! What plan gives, row by row. -/
namespace Ls
open PySem PySem.Spec PyProof.Rows L2
abbrev Rw0 := (Nat × Nat) × (Nat × Nat × Nat)
abbrev Rw1 := (Nat × Nat) × (Nat × Nat)
def eRw0 (x : Rw0) : PyData := .tuple [.int (x.1.1 : Int), .int (x.1.2 : Int), .str (sg x.2.1), .int (x.2.2.1 : Int), .int (x.2.2.2 : Int)]
def eRw1 (x : Rw1) : PyData := .tuple [.int (x.1.1 : Int), .int (x.1.2 : Int), .str (sg x.2.1), .int (x.2.2 : Int)]
def eHi (h : Nat × Nat × Nat) : PyData := .tuple [.int (h.1 : Int), .int (h.2.1 : Int), .int (h.2.2 : Int)]
theorem sortable_rw0 (l : List Rw0) : PySem.W.AllAlike (l.map eRw0) ∧ PySem.W.Sortable (l.map eRw0) ∧ ∀ d ∈ l.map eRw0, d.depth ≤ 60 := by
  refine ⟨PySem.W.AllAlike.of fun b b' => by unfold eRw0; simp [PySem.W.alike, PySem.W.alikeAll], PySem.W.Sortable.tuples fun b => ⟨_, _, rfl⟩, fun d hd => ?_⟩
  obtain ⟨b, hb, rfl⟩ := List.mem_map.mp hd
  show 1 ≤ 60
  decide
theorem sortable_rw1 (l : List Rw1) : PySem.W.AllAlike (l.map eRw1) ∧ PySem.W.Sortable (l.map eRw1) ∧ ∀ d ∈ l.map eRw1, d.depth ≤ 60 := by
  refine ⟨PySem.W.AllAlike.of fun b b' => by unfold eRw1; simp [PySem.W.alike, PySem.W.alikeAll], PySem.W.Sortable.tuples fun b => ⟨_, _, rfl⟩, fun d hd => ?_⟩
  obtain ⟨b, hb, rfl⟩ := List.mem_map.mp hd
  show 1 ≤ 60
  decide
theorem sortable_hi (l : List (Nat × Nat × Nat)) : PySem.W.AllAlike (l.map eHi) ∧ PySem.W.Sortable (l.map eHi) ∧ ∀ d ∈ l.map eHi, d.depth ≤ 60 := by
  refine ⟨PySem.W.AllAlike.of fun b b' => by unfold eHi; simp [PySem.W.alike, PySem.W.alikeAll], PySem.W.Sortable.tuples fun b => ⟨_, _, rfl⟩, fun d hd => ?_⟩
  obtain ⟨b, hb, rfl⟩ := List.mem_map.mp hd
  show 1 ≤ 60
  decide
def hiP (F : List (Nat × Nat)) (val : Nat → Option Nat) (j : Nat) : List (Nat × Nat × Nat) := match F[j]?, val j with
  | some p, some r => [(p.1, p.2, r)]
  | _, _ => []
def hiL (F : List (Nat × Nat)) (val : Nat → Option Nat) (i : Nat) : List (Nat × Nat × Nat) := (List.range i).flatMap (hiP F val)
theorem hiL_next (F : List (Nat × Nat)) (val : Nat → Option Nat) (i : Nat) : hiL F val (i + 1) = hiL F val i ++ hiP F val i := by
  unfold hiL
  rw [List.range_succ, List.flatMap_append]
  simp
theorem hiP_some {F : List (Nat × Nat)} {val : Nat → Option Nat} {j : Nat} {p : Nat × Nat} {r : Nat} (h : F[j]? = some p) (h2 : val j = some r) : hiP F val j = [(p.1, p.2, r)] := by
  unfold hiP
  rw [h, h2]
theorem hiP_none {F : List (Nat × Nat)} {val : Nat → Option Nat} {j : Nat} (h2 : val j = none) : hiP F val j = [] := by
  unfold hiP
  rw [h2]
  cases F[j]? <;> rfl
theorem hiL_len (F : List (Nat × Nat)) (val : Nat → Option Nat) : ∀ i, (hiL F val i).length ≤ i
  | 0 => Nat.le_refl _
  | i + 1 => by
    rw [hiL_next, List.length_append]
    have h1 := hiL_len F val i
    have h2 : (hiP F val i).length ≤ 1 := by
      unfold hiP
      cases F[i]? with
      | none => simp
      | some p => cases val i <;> simp
    omega
def GoodR2 (rk : List (Option Nat)) (a : Nat) (q : Nat × Nat) : Prop := ∃ b, oat rk q.1 = some b ∧ b + q.2 ≤ a
/-- the rows of one place, the first player's -/
def One0 (b : Brd) (a : Aut) (F : List (Nat × Nat)) (told : List (Option Nat)) (p : Nat × Nat) (r c : Nat) (x : Rw0) : Prop := ∃ ch it, (rowR b a F p)[c]? = some ch ∧ it ∈ ch ∧ GoodR2 told r it.1 ∧ x = (p, it.2)
structure Rows0 (b : Brd) (a : Aut) (F : List (Nat × Nat)) (told : List (Option Nat)) (j : Nat) (part : List Rw0) : Prop where
  no : oat told j = none → part = []
  len : ∀ p r, F[j]? = some p → oat told j = some r → part.length = (rowR b a F p).length
  at_ : ∀ p r, F[j]? = some p → oat told j = some r → ∀ (c : Nat) x, part[c]? = some x → One0 b a F told p r c x
/-- .. the second's -/
structure Rows1 (b : Brd) (a : Aut) (F : List (Nat × Nat)) (t : Tab) (j : Nat) (part : List Rw1) : Prop where
  no : oat t j = none → part = []
  zero : ∀ p, F[j]? = some p → own b p.1 ≠ 1 → part = []
  one : ∀ p c st k, F[j]? = some p → oat t j = some (c, st, k) → own b p.1 = 1 → ∃ ch it, (rowR b a F p)[c]? = some ch ∧ ch[0]? = some it ∧ part = [(p, it.2.1, it.2.2.1)]
theorem flat_le {α : Type} {k : Nat} {l : List (List α)} (h : ∀ (j : Nat) x, l[j]? = some x → x.length ≤ k) : l.flatten.length ≤ l.length * k := flat_len fun x hx => by
  obtain ⟨j, hj⟩ := List.mem_iff_getElem?.mp hx
  exact h j x hj
theorem Rows0.small {b : Brd} {a : Aut} {F : List (Nat × Nat)} {told : List (Option Nat)} {j : Nat} {part : List Rw0} (h : Rows0 b a F told j part) (ok : AutOk a) (S : Sml b a) (hl : j < F.length) : part.length ≤ 60 := by
  cases e : oat told j with
  | none =>
    rw [h.no e]
    simp
  | some r =>
    rw [h.len _ r (List.getElem?_eq_getElem hl) e]
    exact (rowR_sm ok S F _).1
theorem Rows1.small {b : Brd} {a : Aut} {F : List (Nat × Nat)} {t : Tab} {j : Nat} {part : List Rw1} (h : Rows1 b a F t j part) (hl : j < F.length) : part.length ≤ 1 := by
  cases e : oat t j with
  | none =>
    rw [h.no e]
    simp
  | some x =>
    obtain ⟨c, st, k⟩ := x
    have hp : F[j]? = some F[j] := List.getElem?_eq_getElem hl
    by_cases ho : own b F[j].1 = 1
    · obtain ⟨_, _, _, _, e2⟩ := h.one _ c st k hp e ho
      rw [e2]
      simp
    · rw [h.zero _ hp ho]
      simp
/-! ### what plan gives -/
noncomputable def gB (b : Brd) (a : Aut) (st : Nat) : Game := gameOf b a (bfs b a st)
def WinF (b : Brd) (a : Aut) (st : Nat) : Prop := ∃ k, lotsF (gB b a st) (k + 1) = lotsF (gB b a st) k ∧ bat (lotsF (gB b a st) k) 0 = true
structure PlanA (b : Brd) (a : Aut) (st : Nat) (rows ranks : List PyData) : Prop where
  win : WinF b a st
  ex : ∃ (k : Nat) (PL : List (List Rw0)), lotsF (gB b a st) (k + 1) = lotsF (gB b a st) k ∧ PL.length = (bfs b a st).length ∧ (∀ (j : Nat) part, PL[j]? = some part → Rows0 b a (bfs b a st) (ranksF (gB b a st) (k + 1)) j part) ∧
    rows = sortD (PL.flatten.map eRw0) ∧ ranks = sortD ((hiL (bfs b a st) (oat (ranksF (gB b a st) (k + 1))) (bfs b a st).length).map eHi)
structure PlanB (b : Brd) (a : Aut) (st : Nat) (rows ranks : List PyData) : Prop where
  win : ¬ WinF b a st
  ex : ∃ (t : Tab) (PL : List (List Rw1)), TSpec (gB b a st) t ∧ PL.length = (bfs b a st).length ∧ (∀ (j : Nat) part, PL[j]? = some part → Rows1 b a (bfs b a st) t j part) ∧
    rows = sortD (PL.flatten.map eRw1) ∧ ranks = sortD ((hiL (bfs b a st) (fun j => (oat t j).map fun x => x.2.2) (bfs b a st).length).map eHi)
structure PlanR (b : Brd) (a : Aut) (st : Nat) (x : Int × List PyData × List PyData) : Prop where
  pos : PosOk b a st (bfs b a st)
  clo : ∀ p ∈ bfs b a st, CloAt b a (bfs b a st) p
  res : (x.1 = 0 ∧ PlanA b a st x.2.1 x.2.2) ∨ (x.1 = 1 ∧ PlanB b a st x.2.1 x.2.2)
theorem nth_snoc {α : Type} {l : List (List α)} {q : List α} {P : Nat → List α → Prop} (h : ∀ (j : Nat) x, l[j]? = some x → P j x) (h2 : P l.length q) : ∀ (j : Nat) x, (l ++ [q])[j]? = some x → P j x := fun j x e => by
  by_cases hl : j < l.length
  · rw [List.getElem?_append_left hl] at e
    exact h j x e
  · rw [List.getElem?_append_right (by omega)] at e
    have e0 : j - l.length = 0 := by
      have := (List.getElem?_eq_some_iff.mp e).1
      simp at this
      omega
    rw [e0] at e
    have ex : q = x := by simpa using e
    have ej : j = l.length := by omega
    rw [ej, ← ex]
    exact h2
section
variable {A : Amb} {ρ : Env} {te ta tb tc : TE} {tt tu : TT} {φ ψ χ : SP} {K : PySem.W.Frag} {G0 H0 G H : Hp} {σ : L2.St} {D : Ends} {t u tz tw : TS} {r : R2}
theorem q_asgEx {α : Type} {P : α → Prop} {f : α → SP} {g : TG} {js : List Nat} {ρ2 : α → Env} (a : At A G0 H0 G H σ ρ) (h : XE A te ρ (ex P f)) (hg : ∀ x, P x → XG g (f x) js ρ (ρ2 x)) (k : ∀ x, P x → ∀ σ2 G2 H2, Stp A G H G2 H2 → At A G0 H0 G2 H2 σ2 (ρ2 x) → tz D σ2 H2) : tSeq (tAsg te g) tz D σ H := by
  show te σ H _
  refine a.e h fun v G2 H2 s a2 p => ?_
  obtain ⟨x, hx, p⟩ := p
  exact hg x hx G2 H2 σ v _ a2.env a2.s p fun σ2 E2 o => k x hx σ2 G2 H2 s (a2.re E2)
end
end Ls
/-! Lc -/
set_option maxHeartbeats 1000000
/-! Comprehensions beside a changing bag, what they give one of several. -/
namespace Ls
open PySem PySem.Spec PyProof.Rows L2
section
variable {A : Amb} {ρ : Env} {te ta tb tc : TE} {tt tu : TT} {φ ψ χ : SP} {K : PySem.W.Frag} {G0 H0 G H : Hp} {σ : L2.St} {D : Ends} {t u tz tw : TS}
def XIX {α : Type} (A : Amb) (wi : TI) (ρ : Env) (P : List α → Prop) (ψ : α → SP) : Prop := ∀ (G H : Hp) (σ : L2.St) (R : It → Hp → Prop), EnvOk G σ ρ → Same G H → A.J G H → (∀ l, P l → ∀ J G2 H2, Stp A G H G2 H2 → A.J G2 H2 → Walk J l.length (fun H => Same G2 H) (YSp G2 (l.map ψ)) → R J H2) → wi σ H R
theorem XI.x {α : Type} {wi : TI} {l : List α} {ψ : α → SP} (h : XI wi ρ (l.map ψ)) : XIX A wi ρ (fun m => m = l) ψ := fun G H σ R E s j k => h G H σ R E s fun J G2 H2 t wk => k l rfl J G2 H2 t.up (t.j j) (by
  rw [List.length_map] at wk
  exact wk)
theorem xix_list {α : Type} {tl : TE} {P : List α → Prop} {e : α → PyData} (h : XE A tl ρ (ex P fun l => dat (.list (l.map e)))) : XIX A (iList K tl) ρ P fun x => dat (e x) := fun G H σ R E s j k =>
  h G H σ _ E s j fun v G2 H2 t j2 ⟨l, hl0, p⟩ => by
    obtain ⟨a, xs, rfl, ha, r⟩ := Rp.list_inv p
    refine ⟨a, rfl, ⟨xs, SqL.of (t.s _ _ ha)⟩, k l hl0 _ G2 H2 t j2 ?_⟩
    have hl : l.length = xs.length := by rw [r.length, List.length_map]
    rw [hl]
    refine (walk_list (K := K) (a := a) (xs := xs)).mono (fun H' s' => SqL.of (s' _ _ ha)) fun i H' x H2 hi s' y => ?_
    obtain ⟨rfl, hx⟩ := y
    intro G' φ sg sh hφ
    obtain ⟨d, hd, rp⟩ := r.get' hx
    rw [List.getElem?_map] at hd hφ
    obtain ⟨z, hz, e1⟩ := Option.map_eq_some_iff.mp hd
    rw [hz] at hφ
    have e2 : dat (e z) = φ := Option.some.inj hφ
    subst e2
    rw [e1]
    exact ⟨G', Stp.refl sh, rp.mono sg⟩
theorem xe_lcX {α β : Type} {wi : TI} {g : TG} {vs js : List Nat} {P : List α → Prop} {ψ : α → SP} {E : α → β → Prop} {e : β → PyData} {ρx : α → Env} (nf : ∀ {G H : Hp} {a : Addr}, A.J G H → A.B a → ∃ o, H a = some o) (hi : XIX A wi ρ P ψ) (hz : ∀ l, P l → l.length ≤ 100000) (hjs : ∀ i ∈ js, i ∈ vs)
    (hx : ∀ l, P l → ∀ x, x ∈ l → XG g (ψ x) js (wipeE ρ vs) (ρx x) ∧ XE A te (ρx x) (ex (E x) fun y => dat (e y))) :
    XE A (tLc wi g tYes te vs) ρ (ex (fun ys : List β => ∃ l, P l ∧ ys.length = l.length ∧ ∀ (i : Nat) x y, l[i]? = some x → ys[i]? = some y → E x y) fun ys => dat (.list (ys.map e))) := fun G H σ Q Ev s j0 k =>
  hi G H σ _ Ev s j0 fun l hl J G1 H1 t1 j1 wk => by
    intro D hD
    have nb : ¬ A.B D := fun z => by
      obtain ⟨o, e⟩ := nf j1 z
      rw [hD] at e
      cases e
    refine lc_it wk (fun i H' => ∃ (G' : Hp) (xs : List V) (ys : List β), Stp A G1 H1 G' H' ∧ A.J G' H' ∧ Own G' H' D (.lst xs) ∧ RpAll G' xs (ys.map e) ∧ ys.length = i ∧ ∀ (i : Nat) x y, l[i]? = some x → ys[i]? = some y → E x y) ?_ (fun i H' _ ⟨G', xs, ys, a, _⟩ => a.g.trans a.s) ?_ ?_
    · have t0 : Stp A0 G1 H1 G1 (upd H1 D (.lst [])) := Stp.only t1.s (same_new hD)
      exact ⟨G1, [], [], t0.up, t0.j j1, ⟨upd_same, t1.s.free hD⟩, .nil, rfl, fun i x y _ h => by simp at h⟩
    · rintro i x H' H2 hlt ⟨G', xs, ys, a, j', w, r, hlen, he⟩ y
      obtain ⟨z, hz2⟩ : ∃ z, l[i]? = some z := ⟨l[i], List.getElem?_eq_getElem hlt⟩
      obtain ⟨G2, t2, p2⟩ := y G' (ψ z) a.g a.s (by rw [List.getElem?_map, hz2] <;> rfl)
      obtain ⟨hg, hE⟩ := hx l hl z (List.mem_of_getElem? hz2)
      have Ew : EnvOk G2 (wipe σ vs) (wipeE ρ vs) := ((Ev.mono t1.g).mono (a.g.trans t2.g)).wiped vs
      refine hg G2 H2 _ x _ Ew t2.s p2 fun σ2 E2 o2 => ⟨o2.wipe hjs, ?_⟩
      refine hE G2 H2 σ2 _ E2 t2.s (t2.j j') fun v G4 H4 t4 j4 p4 => ?_
      obtain ⟨d, hd, p4⟩ := p4
      have w4 := (w.step0 t2).step t4 nb
      have tt := (a.trans t2.up).trans t4
      have hlx : xs.length < sizeLine := by
        rw [r.length, List.length_map, hlen]
        exact Nat.lt_of_lt_of_le hlt (Nat.le_trans (hz l hl) (by decide))
      refine ⟨xs, w4.h, hlx, G4, xs ++ [v], ys ++ [d], ⟨fun q u eq nq => ?_, tt.g, same_mut tt.s w4.g, tt.n, fun q eq => ?_⟩, A.mt j4 w4.h w4.g nb, ⟨upd_same, w4.g⟩, ?_, by rw [List.length_append, hlen]; rfl, fun i2 x2 y2 h1 h2 => ?_⟩
      · rw [upd_ne (ne_of_none eq hD)]
        exact tt.h q u eq nq
      · by_cases c : q = D
        · rw [c]
          exact hD
        · rw [upd_ne c] at eq
          exact tt.k q eq
      · rw [List.map_append]
        exact (r.mono (t2.g.trans t4.g)).append (.cons p4 .nil)
      · by_cases c : i2 < ys.length
        · rw [List.getElem?_append_left c] at h2
          exact he i2 x2 y2 h1 h2
        · rw [List.getElem?_append_right (by omega)] at h2
          have e0 : i2 - ys.length = 0 := by
            have := (List.getElem?_eq_some_iff.mp h2).1
            simp at this
            omega
          rw [e0] at h2
          have ex : d = y2 := by simpa using h2
          have ei : i2 = i := by omega
          rw [ei, hz2] at h1
          rw [← Option.some.inj h1, ← ex]
          exact hd
    · rintro H' ⟨G', xs, ys, a, j', w, r, hlen, he⟩
      obtain ⟨t3, s3⟩ := stp_seal a hD w
      exact k _ _ _ (t1.trans t3) (A.sl j' w.h w.g nb) ⟨ys, ⟨l, hl, hlen, he⟩, .lst upd_same (r.mono s3)⟩
end
theorem bag_nf {bag L : Addr} {ns : List Int} {G H : Hp} {a : Addr} (j : (bagA bag L ns).J G H) (b : (bagA bag L ns).B a) : ∃ o, H a = some o := by
  obtain ⟨_, _, _, _, b0, _⟩ := j
  have e : a = bag := b
  subst e
  exact ⟨_, b0.h⟩
section
variable {A : Amb} {ρ : Env} {te ta tb tc : TE} {tt tu : TT} {φ ψ χ : SP} {K : PySem.W.Frag} {G0 H0 G H : Hp} {σ : L2.St} {D : Ends} {t u tz tw : TS}
/-- list(range(n)) -/
theorem rp_rg {G : Hp} {n : Nat} : RpAll G (rgV 0 (n : Int)) ((List.range n).map fun i : Nat => PyData.int (i : Int)) := by
  unfold rgV
  have e : ((n : Int) - 0).toNat = n := by omega
  rw [e]
  exact RpAll.of_map _ _ _ fun x _ => by
    have e2 : (0 : Int) + (x : Nat) = (x : Int) := by omega
    rw [e2]
    exact .int _
def rInsert : V → List V → Hp → VK → Prop := fun x vs H Q => ∃ (l : Addr) (xs : List V) (i : Int) (y : V), x = .ref l ∧ vs = [.int i, y] ∧ H l = some (.lst xs) ∧ xs.length < sizeLine ∧ 0 ≤ i ∧ i < 2 ^ 63 ∧
    Q .non (upd H l (.lst (xs.take i.toNat ++ [y] ++ xs.drop i.toNat)))
end
section
variable {X : Cx}
theorem call_lenV (K : PySem.W.Frag) (h : X.K = K := by rfl) : CallR X (.builtin "len") (L2.rLen K) := by subst h; exact call_len
end
section
variable {A : Amb} {ρ : Env} {te ta tb tc : TE} {tt tu : TT} {φ ψ χ : SP} {K : PySem.W.Frag} {G0 H0 G H : Hp} {σ : L2.St} {D : Ends} {t u tz tw : TS} {r : R2}
theorem xc_lenVL {ds : List PyData} : XC A (L2.rLen K) [dat (.list ds)] (dat (.int ds.length)) := fun G H vs Q s j hv k => by
  obtain ⟨v, rfl, p⟩ := ps_one hv
  obtain ⟨a, xs, rfl, ha, r⟩ := Rp.list_inv p
  refine ⟨.ref a, xs.length, rfl, .inl ⟨xs, SqL.of (s _ _ ha), rfl⟩, ?_⟩
  rw [r.length]
  exact k _ G H (Stp.refl s) j (.int _)
theorem xc_lenVS {z : Str} (hz : z.length ≤ 1000) : XC A (L2.rLen K) [dat (.str z)] (dat (.int z.length)) := fun G H vs Q s j hv k => by
  obtain ⟨v, rfl, p⟩ := ps_one hv
  rw [p.str_inv]
  exact ⟨.str z, z.length, rfl, ⟨Nat.le_trans hz (by decide), rfl⟩, k _ G H (Stp.refl s) j (.int _)⟩
theorem xr_orL {K : PySem.W.Frag} (h : XR A (rIxL K) φ ψ χ) : XR A (rIx K) φ ψ χ := fun G H x y Q s j hx hy k => .inl (h G H x y Q s j hx hy k)
theorem xr_orS {K : PySem.W.Frag} (h : XR A rIxS φ ψ χ) : XR A (rIx K) φ ψ χ := fun G H x y Q s j hx hy k => .inr (.inr (h G H x y Q s j hx hy k))
theorem xc_ex {α : Type} {rc : List V → Hp → VK → Prop} {P : α → Prop} {f : α → SP} (h : ∀ x, P x → XC A rc [φ, f x] χ) : XC A rc [φ, ex P f] χ := fun G H vs Q s j hv k => by
  obtain ⟨v, w, rfl, p, x, hx, q⟩ := ps_two hv
  exact h x hx G H [v, w] Q s j (.cons p (.cons q .nil)) k
theorem xe_exm {α : Type} {β : Type} {P : α → Prop} {f : α → SP} {P2 : β → Prop} {f2 : β → SP} (h : XE A te ρ (ex P f)) (g : ∀ x, P x → ∀ G v, (f x).p G v → (ex P2 f2).p G v) : XE A te ρ (ex P2 f2) := fun G H σ Q E s j k => h G H σ Q E s j fun v G2 H2 t j2 ⟨x, hx, p⟩ => k v G2 H2 t j2 (g x hx G2 v p)
theorem xe_toEx {α : Type} {P : α → Prop} {f : α → SP} (x : α) (hx : P x) (h : XE A te ρ (f x)) : XE A te ρ (ex P f) := fun G H σ Q E s j k => h G H σ Q E s j fun v G2 H2 t j2 p => k v G2 H2 t j2 ⟨x, hx, p⟩
/-- the right side one of several, so the value -/
theorem xr_ex0 {α β : Type} {P : α → Prop} {f : α → SP} {P2 : β → Prop} {g : β → SP} (h : ∀ x, P x → ∃ y, P2 y ∧ XR A r φ (f x) (g y)) : XR A r φ (ex P f) (ex P2 g) := fun G H x y Q s j hx hy k => by
  obtain ⟨z, hz, p⟩ := hy
  obtain ⟨y2, hy2, q⟩ := h z hz
  exact q G H x y Q s j hx p fun v G2 H2 t j2 p2 => k v G2 H2 t j2 ⟨y2, hy2, p2⟩
/-- return [..]: a new list of ours -/
theorem s_retNew {ta2 : TA} {φs : List SP} (a : At A G0 H0 G H σ ρ) (h : XA A ta2 ρ φs) (hl : φs.length ≤ 1000) (k : ∀ vs G2 H2 p, Stp A G H G2 H2 → At A G0 H0 G2 H2 σ ρ → Ps G2 vs φs → H2 p = none → D.rt (.ref p) (upd H2 p (.lst vs))) : tRet (tLst ta2) D σ H := by
  show ta2 σ H _
  refine h G H σ _ a.env a.s a.j fun vs G2 H2 st j2 p => ?_
  refine ⟨by rw [p.length]; exact Nat.le_trans hl (by decide), fun q hq => k vs G2 H2 q st ⟨a.env.mono st.g, a.stp.trans st, j2⟩ p hq⟩
end
theorem rp_ints_inv {G : Hp} : ∀ {xs : List V} {ns : List Int}, RpAll G xs (ns.map PyData.int) → xs = ns.map V.int
  | _, [], .nil => rfl
  | _, n :: ns, .cons h r => by
    rw [h.int_inv, rp_ints_inv r]
    rfl
theorem cutD_map {α : Type} {e : α → PyData} (l : List α) (lo hi : Option Int) : ∃ l2 : List α, cutD (l.map e) lo hi = l2.map e ∧ ∀ x ∈ l2, x ∈ l := by
  unfold cutD
  refine ⟨(l.drop (HT.sIx (l.map e).length 0 lo)).take (HT.sIx (l.map e).length (l.map e).length hi - HT.sIx (l.map e).length 0 lo), by rw [List.map_take, List.map_drop], fun x hx => List.mem_of_mem_drop (List.mem_of_mem_take hx)⟩
end Ls
/-! F16 -/
set_option maxHeartbeats 1000000
namespace Ls
open PySem PySem.Spec PyProof.Rows L2
section
variable {P : Program} {w : World} {K : PySem.W.Frag} {mg : Str → Option Value} {base : Heap}
/-! ### _law_pull -/
def sp_l_pull : Sp := fun vs H Q E => ∃ (bag L : Addr) (ns : List Int) (m : Nat), 0 < m ∧ m ≤ 1000000 ∧ spA (bagA bag L ns) [isV (.ref bag), dat (.int (m : Int))] (ex (fun r : Nat => r < m) fun r => dat (.int (r : Int))) vs H Q E
abbrev N_l_pull : List Str := ["_law_bag", "_law_sides", "_law_cell", "_law_digit", "_law_seed"]
theorem mod_nat {x : Int} {m : Nat} (h : 0 < m) : ∃ r : Nat, r < m ∧ x % (m : Int) = (r : Int) := by
  have h1 := Int.emod_nonneg x (show (m : Int) ≠ 0 by omega)
  have h2 := Int.emod_lt_of_pos x (show (0 : Int) < (m : Int) by omega)
  exact ⟨(x % (m : Int)).toNat, by omega, by omega⟩
theorem sc_l_pull : FnScope ["_law_bag", "_law_sides", "_law_cell", "_law_digit", "_law_seed"] ["_law_bag", "_law_sides"] (defScope s_l_pull) := ⟨rfl, rfl, rfl, by decide +kernel, rfl, by decide +kernel, by decide +kernel⟩
theorem ok_l_pull {f : Addr} {fd : FuncData} (F : FnP K "_law_pull" "_law_pull" s_l_pull [] [] f fd) (T : Fx K mg) : FnOk P w K mg base CX0 1 f fd ["_law_bag", "_law_sides"] sp_l_pull := by
  refine F.ok sc_l_pull (fun vs H Q E h => ?_) (fun cdv A outer st H vs Q E hr h => ?_)
  · obtain ⟨_, _, _, _, _, _, h⟩ := h
    exact spA_len h
  · obtain ⟨bag, L, ns, m, hm0, hm1, G, sG, ⟨i0, d0, s0, c0, b0, hi0, hs0, hs1⟩, ps, k⟩ := h
    obtain ⟨v1, v2, rfl, p1, p2⟩ := ps_two ps
    have e1 : v1 = .ref bag := p1
    subst e1
    refine ⟨_, PSs.nox (pss_cons (ps_asg (pe_op op_add (pe_ix (ix_listK K) (pv 0) pe_int (fun _ _ => rfl)) pe_int) (pg_sub (pv 0) pe_int set_list))
  (pss_cons (ps_if (PW.pt (pw_and (pt_cmpR op_eq (pe_ix (ix_listK K) (pv 0) pe_int (fun _ _ => rfl)) pe_int (nomark _)) (pw_and1 (pt_cmpR op_lt (pe_ix (ix_listK K) (pv 0) pe_int (fun _ _ => rfl)) (pe_callB (call_lenK K) (by rfl) T.b_len PySem.boot_len (pa_cons (pe_ix (ix_listK K) (pv 0) pe_int (fun _ _ => rfl)) pa_nil)) (nomark _))))) (pss_cons (ps_asg (pe_tup (pa_cons (pe_ix (ix_listK K) (pe_ix (ix_listK K) (pv 0) pe_int (fun _ _ => rfl)) (pe_ix (ix_listK K) (pv 0) pe_int (fun _ _ => rfl)) (fun _ _ => rfl)) (pa_cons (pe_op op_add (pe_ix (ix_listK K) (pv 0) pe_int (fun _ _ => rfl)) pe_int) pa_nil))) (pg_tupK K (n := 2) (by rfl) (pgs_cons (pg_name (i := 2) sc_l_pull.nd rfl (Or.inl rfl)) (pgs_cons (pg_sub (pv 0) pe_int set_list) pgs_nil))))
  (pss_cons (ps_if (pt_cmpR op_ge (pv 2) (pe_op op_pow pe_int pe_int) (nomark _)) (pss_one (ps_asg (pv 2) (pg_sub (pv 0) pe_int set_list))) pss_nil)
  (pss_one (ps_asg (pe_op op_mod (pe_callTy call_int1Q (by rfl) T.b_int bt_int (pa_cons (pe_op op_add (pe_op op_add (pe_op op_mul (pe_ix (ix_listK K) (pv 0) pe_int (fun _ _ => rfl)) pe_int) (pe_op op_mul (pe_op op_mod (pe_callTy call_int1Q (by rfl) T.b_int bt_int (pa_cons (pv 2) pa_nil)) pe_int) pe_int)) pe_int) pa_nil)) pe_int) (pg_sub (pv 0) pe_int set_list))))) pss_nil)
  (pss_cons (ps_if (pt_cmpR op_gt (pe_ix (ix_listK K) (pv 0) pe_int (fun _ _ => rfl)) pe_int (nomark _)) (pss_cons (ps_asg (pe_tup (pa_cons (pe_op op_mod (pe_callTy call_int1Q (by rfl) T.b_int bt_int (pa_cons (pe_ix (ix_listK K) (pv 0) pe_int (fun _ _ => rfl)) pa_nil)) (pv 1)) (pa_cons (pe_op op_fdiv (pe_ix (ix_listK K) (pv 0) pe_int (fun _ _ => rfl)) (pv 1)) pa_nil))) (pg_tupK K (n := 2) (by rfl) (pgs_cons (pg_name (i := 3) sc_l_pull.nd rfl (Or.inl rfl)) (pgs_cons (pg_sub (pv 0) pe_int set_list) pgs_nil))))
  (pss_one (ps_ret (pv 3)))) pss_nil)
  (pss_cons (ps_set (i := 4) sc_l_pull.nd rfl (Or.inl rfl) (pe_ix (ix_listK K) (pv 0) pe_int (fun _ _ => rfl)))
  (pss_cons (ps_asg (pe_op op_mod (pe_callTy call_int1Q (by rfl) T.b_int bt_int (pa_cons (pe_op op_add (pe_op op_add (pe_op op_add (pe_op op_pow (pv 4) pe_int) (pe_op op_mul (pv 4) pe_int)) (pe_op op_mul (pe_ix (ix_listK K) (pv 0) pe_int (fun _ _ => rfl)) pe_int)) pe_int) pa_nil)) pe_int) (pg_sub (pv 0) pe_int set_list))
  (pss_one (ps_ret (pe_op op_mod (pe_callTy call_int1Q (by rfl) T.b_int bt_int (pa_cons (pe_op op_add (pe_op op_fdiv (pe_ix (ix_listK K) (pv 0) pe_int (fun _ _ => rfl)) pe_int) (pe_op op_mul (pe_op op_mod (pe_callTy call_int1Q (by rfl) T.b_int bt_int (pa_cons (pe_ix (ix_listK K) (pv 0) pe_int (fun _ _ => rfl)) pa_nil)) pe_int) pe_int)) pa_nil)) (pv 1))))))))), ?_⟩
    have fB : ∃ o, H bag = some o := ⟨_, b0.h⟩
    have E0v : EnvOk G (L2.start N_l_pull [.ref bag, v2]) [none, some (dat (.int (m : Int))), none, none, none] := (EnvOk.nil.skip.skip.skip.cons p2).skip
    have a0 : AtB bag L ns G H G H (L2.start N_l_pull [.ref bag, v2]) [none, some (dat (.int (m : Int))), none, none, none] i0 d0 s0 c0 := ⟨E0v, Stp.refl sG, b0⟩
    have fin : ∀ {G2 H2 i d s c σ ρ} {r : Nat}, AtB bag L ns G H G2 H2 σ ρ i d s c → 0 ≤ i → 0 ≤ s → s < 2147483549 → r < m → Q (.int (r : Int)) H2 := fun a h1 h2 h3 hr => k _ _ _ a.stp ⟨_, _, _, _, a.b, h1, h2, h3⟩ ⟨_, hr, .int _⟩
    -- bag[4] = bag[4] + 1
    refine a0.e (j := 0) (n := c0 + 1) rfl (xe_op (xe_op (xe_var rfl) xe_int (xr_ixLn (n := 4) rfl)) xe_int xr_add) fun H1 st1 a1 => ?_
    refine bag_set (kx := 4) rfl a1.b.h (by show 4 < 5; decide) ?_
    have a2 := a1.put (i' := i0) (d' := d0) (s' := s0) (c' := c0 + 1) fB
    have seedlt : ∀ x : Int, 0 ≤ x % 2147483549 ∧ x % 2147483549 < 2147483549 := fun x => ⟨Int.emod_nonneg x (by decide), Int.emod_lt_of_pos x (by decide)⟩
    -- if bag[2] == 0 and bag[1] < len(bag[0])
    refine q_ifB (j := 0) (b := decide (d0 = 0) && decide (i0 < (ns.length : Int))) a2 rfl (xt_and (xt_test (xe_op (xe_op (xe_var rfl) xe_int (xr_ixLn (n := 2) rfl)) xe_int xr_eqI)) fun _ => xt_test ((xe_op (xe_op (xe_var rfl) xe_int (xr_ixLn (n := 1) rfl)) (xe_cb (xa_cons (xe_op (xe_var rfl) xe_int (xr_ixLn (n := 0) rfl)) xa_nil) xc_lenL) xr_lt).to (by rw [List.length_map])))
      (fun G' H' σ' => σ'[0]? = some (some (.ref bag)) ∧ ∃ i d s c, 0 ≤ i ∧ 0 ≤ s ∧ s < 2147483549 ∧ AtB bag L ns G H G' H' σ' [none, some (dat (.int (m : Int))), none, none, none] i d s c) (fun e H3 a3 N hN => ?_) (fun e H3 a3 => ⟨rfl, i0, d0, s0, c0 + 1, hi0, hs0, hs1, a3⟩) (fun G3 H3 σ3 h3 => ?_)
    · obtain ⟨_, e2⟩ := Bool.and_eq_true_iff.mp e
      have hlt : i0 < (ns.length : Int) := of_decide_eq_true e2
      obtain ⟨cell, hcell⟩ : ∃ cell, ns[i0.toNat]? = some cell := ⟨ns[i0.toNat]'(by omega), List.getElem?_eq_getElem _⟩
      -- cell, bag[1] = bag[0][bag[1]], bag[1] + 1
      refine a3.e (j := 0) (n := cell) rfl (xe_op (xe_op (xe_var rfl) xe_int (xr_ixLn (n := 0) rfl)) (xe_op (xe_var rfl) xe_int (xr_ixLn (n := 1) rfl)) (xr_ixL hi0 (map_get (f := PyData.int) hcell))) fun H4 st4 a4 => ?_
      refine a4.e (j := 0) (n := i0 + 1) rfl (xe_op (xe_op (xe_var rfl) xe_int (xr_ixLn (n := 1) rfl)) xe_int xr_add) fun H5 st5 a5 => ?_
      refine ⟨show 2 ≤ sizeLine by decide, fun tp htp => ?_⟩
      have a6 := a5.step0 (Stp.only a5.stp.s (same_new (o := .tup [.int cell, .int (i0 + 1)]) htp))
      refine ⟨tp, _, rfl, SqT.of upd_same, rfl, ⟨_, _, rfl, ⟨_, _, rfl, ?_⟩⟩⟩
      refine bag_set (kx := 1) rfl a6.b.h (by show 1 < 5; decide) ⟨rfl, ?_⟩
      have a7 := (a6.put (i' := i0 + 1) (d' := d0) (s' := s0) (c' := c0 + 1) fB)
      have a8 := a7.re (a7.env.set 2 (φ := dat (.int cell)) (.int _))
      -- if cell >= 10 ** 18
      refine q_ifB (j := 0) (b := decide ((10 : Int) ^ 18 ≤ cell)) a8 rfl (xt_test ((xe_op (xe_var rfl) (xe_op xe_int xe_int (xr_I (fun _ => .int _) ⟨by decide, by decide, by decide⟩)) xr_ge).to rfl))
        (fun G' H' σ' => σ'[0]? = some (some (.ref bag)) ∧ ∃ d, AtB bag L ns G H G' H' σ' [none, some (dat (.int (m : Int))), some (dat (.int cell)), none, none] (i0 + 1) d s0 (c0 + 1)) (fun e H9 a9 N2 hN2 => ?_) (fun e H9 a9 => ⟨rfl, d0, a9⟩) (fun G9 H9 σ9 h9 => ?_)
      · refine a9.e (j := 0) (n := cell) rfl (xe_var rfl) fun H10 st10 a10 => ?_
        refine bag_set (kx := 2) rfl a10.b.h (by show _ < 5; decide) ?_
        exact hN2 _ _ _ ⟨rfl, cell, a10.put (d' := cell) fB⟩
      · obtain ⟨h0, d, a9⟩ := h9
        -- bag[3] = ..
        refine a9.e (j := 0) (n := (s0 * 39217 + cell % 2147483353 * 41231 + 71) % 2147483549) h0 (xe_op (xe_cb (xa_cons (xe_op (xe_op (xe_op (xe_op (xe_var (i := 0) rfl) xe_int (xr_ixLn (n := 3) rfl)) xe_int (xr_I (fun _ => .int _) (.inr ⟨by decide, by decide⟩))) (xe_op (xe_op (xe_cb (xa_cons (xe_var rfl) xa_nil) xc_int) xe_int (xr_I (fun _ => .int _) (by decide))) xe_int (xr_I (fun _ => .int _) (.inr ⟨by decide, by decide⟩))) xr_add) xe_int xr_add) xa_nil) xc_int) xe_int (xr_I (fun _ => .int _) (by decide))) fun H10 st10 a10 => ?_
        refine bag_set (kx := 3) h0 a10.b.h (by show _ < 5; decide) ?_
        have q := seedlt (s0 * 39217 + cell % 2147483353 * 41231 + 71)
        have a11 := a10.put (i' := i0 + 1) (d' := d) (s' := (s0 * 39217 + cell % 2147483353 * 41231 + 71) % 2147483549) (c' := c0 + 1) fB
        exact hN _ _ _ ⟨h0, i0 + 1, d, _, c0 + 1, by omega, q.1, q.2, a11.re (a11.env.sub (by repeat' constructor))⟩
    · obtain ⟨h0, i, d, s, c, hi, hs, hs2, a3⟩ := h3
      -- if bag[2] > 0
      refine q_ifB (j := 0) (b := decide (0 < d)) a3 h0 (xt_test (xe_op (xe_op (xe_var (i := 0) rfl) xe_int (xr_ixLn (n := 2) rfl)) xe_int xr_gt)) (fun G' H' σ' => σ'[0]? = some (some (.ref bag)) ∧ AtB bag L ns G H G' H' σ' [none, some (dat (.int (m : Int))), none, none, none] i d s c) (fun e H4 a4 N hN => ?_) (fun e H4 a4 => ⟨h0, a4⟩) (fun G4 H4 σ4 h4 => ?_)
      · -- digit, bag[2] = int(bag[2]) % sides, bag[2] // sides
        obtain ⟨r, hr2, er⟩ := mod_nat (x := d) hm0
        refine a4.e (j := 0) (n := d % (m : Int)) h0 (xe_op (xe_cb (xa_cons (xe_op (xe_var (i := 0) rfl) xe_int (xr_ixLn (n := 2) rfl)) xa_nil) xc_int) (xe_var (i := 1) rfl) (xr_I (fun _ => .int _) (by omega))) fun H5 st5 a5 => ?_
        refine a5.e (j := 0) (n := d / (m : Int)) h0 (xe_op (xe_op (xe_var (i := 0) rfl) xe_int (xr_ixLn (n := 2) rfl)) (xe_var (i := 1) rfl) (xr_I (fun _ => .int _) ⟨by omega, by omega⟩)) fun H6 st6 a6 => ?_
        refine ⟨show 2 ≤ sizeLine by decide, fun tp htp => ?_⟩
        have a7 := a6.step0 (Stp.only a6.stp.s (same_new (o := .tup [.int (d % (m : Int)), .int (d / (m : Int))]) htp))
        refine ⟨tp, _, rfl, SqT.of upd_same, rfl, ⟨_, _, rfl, ⟨_, _, rfl, ?_⟩⟩⟩
        have h03 : (σ3.set 3 (some (V.int (d % (m : Int)))))[0]? = some (some (.ref bag)) := by
          rw [List.getElem?_set_ne (by decide)]
          exact h0
        refine bag_set (kx := 2) h03 a7.b.h (by show _ < 5; decide) ⟨rfl, ?_⟩
        have a8 := a7.put (i' := i) (d' := d / (m : Int)) (s' := s) (c' := c) fB
        have hl3 : 3 < σ3.length := by
          rw [a3.env.len]
          show 3 < 5
          decide
        refine ⟨_, List.getElem?_set_self hl3, ?_⟩
        have k0 : ∀ r0 : Nat, r0 < m → (r0 : Int) = d % (m : Int) → Q (.int (d % (m : Int))) _ := fun r0 h1 h2 => h2 ▸ fin a8 hi hs hs2 h1
        exact k0 r hr2 er.symm
      · obtain ⟨h04, a4⟩ := h4
        -- seed = bag[3]
        refine a4.e (j := 0) (n := s) h04 (xe_op (xe_var (i := 0) rfl) xe_int (xr_ixLn (n := 3) rfl)) fun H5 st5 a5 => ?_
        have a6 := a5.re (a5.env.set 4 (φ := dat (.int s)) (.int _))
        have h05 : (σ4.set 4 (some (V.int s)))[0]? = some (some (.ref bag)) := by
          rw [List.getElem?_set_ne (by decide)]
          exact h04
        -- bag[3] = ..
        refine a6.e (j := 0) (n := (s ^ 3 + s * 36979 + c * 1299827 + 50021) % 2147483549) h05 (xe_op (xe_cb (xa_cons (xe_op (xe_op (xe_op (xe_op (xe_var (i := 4) rfl) xe_int (xr_I (fun _ => .int _) ⟨by decide, by decide, by omega⟩)) (xe_op (xe_var (i := 4) rfl) xe_int (xr_I (fun _ => .int _) (.inr ⟨by decide, by decide⟩))) xr_add) (xe_op (xe_op (xe_var (i := 0) rfl) xe_int (xr_ixLn (n := 4) rfl)) xe_int (xr_I (fun _ => .int _) (.inr ⟨by decide, by decide⟩))) xr_add) xe_int xr_add) xa_nil) xc_int) xe_int (xr_I (fun _ => .int _) (by decide))) fun H7 st7 a7 => ?_
        refine bag_set (kx := 3) h05 a7.b.h (by show _ < 5; decide) ?_
        have q := seedlt (s ^ 3 + s * 36979 + c * 1299827 + 50021)
        have a8 := a7.put (i' := i) (d' := d) (s' := (s ^ 3 + s * 36979 + c * 1299827 + 50021) % 2147483549) (c' := c) fB
        generalize hS : (s ^ 3 + s * 36979 + c * 1299827 + 50021) % 2147483549 = S at a8 q
        obtain ⟨r, hr2, er⟩ := mod_nat (x := S / 89 + S % 7907 * 61) hm0
        refine a8.e (j := 0) (n := (S / 89 + S % 7907 * 61) % (m : Int)) h05 (xe_op (xe_cb (xa_cons (xe_op (xe_op (xe_op (xe_var (i := 0) rfl) xe_int (xr_ixLn (n := 3) rfl)) xe_int (xr_I (fun _ => .int _) ⟨by decide, by decide⟩)) (xe_op (xe_op (xe_cb (xa_cons (xe_op (xe_var (i := 0) rfl) xe_int (xr_ixLn (n := 3) rfl)) xa_nil) xc_int) xe_int (xr_I (fun _ => .int _) (by decide))) xe_int (xr_I (fun _ => .int _) (.inr ⟨by decide, by decide⟩))) xr_add) xa_nil) xc_int) (xe_var (i := 1) rfl) (xr_I (fun _ => .int _) (by omega))) fun H9 st9 a9 => ?_
        rw [er]
        exact fin a9 hi q.1 q.2 hr2
end
end Ls
/-! Lk -/
set_option maxHeartbeats 1000000
/-! Rules for the law's likeness. -/
namespace Ls
open PySem PySem.Spec PyProof.Rows L2
section
variable {X : Cx} {e : Expr} {t : TA} {pos : Pos} (K : PySem.W.Frag)
theorem pi_zipAK {e2 : Expr} {p pos tpos : Pos} {elts : List Expr} {kk : Nat} (hg : Gl X "zip") (hm : X.mg "zip" = none) (ha : PA X [e, e2] t) (h : X.K = K := by rfl) (hs : starEach [e, e2] X.env = (false, eval e X.env) :: starEach [e2] X.env := by rfl) (hs2 : (backTo pos (starEach [e2] X.env)).any (·.1) = false := by rfl) :
    PI X (.Tuple elts kk tpos) (.Call (.Name "zip" p) [e, e2] [] pos) (RZ.iZipA K t) := by subst h; exact RZ.pi_zipA hg hm ha hs hs2
end
section
variable {A : Amb} {ρ : Env} {te ta tb tc : TE} {tt tu : TT} {φ ψ χ : SP} {K : PySem.W.Frag} {G0 H0 G H : Hp} {σ : L2.St} {D : Ends} {t u tz tw : TS} {a b : Addr} {xs ys : List V}
theorem walk_zipT {n : Nat} (hn : n = min xs.length ys.length) : Walk (RZ.ItzT K a b) n (fun H => SqT K H a xs ∧ SqT K H b ys) (YPair (fun i => xs[i]?) (fun i => ys[i]?)) := by
  subst hn
  refine ⟨fun i _ hi q => ?_, fun _ q => ⟨xs, ys, q.1, q.2, by omega⟩, fun i H v H' _ q y => ?_⟩
  · have h1 : i < xs.length := by omega
    have h2 : i < ys.length := by omega
    exact ⟨xs, ys, xs[i], ys[i], q.1, q.2, by simp [h1], by simp [h2]⟩
  · obtain ⟨T, x, z, h1, h2, h3, h4, h5⟩ := y
    exact ⟨T, x, z, h1, h2, h3, h4 xs q.1, h5 ys q.2⟩
theorem xi_zipAL {ta : TA} {ds es : List PyData} (h : XA A0 ta ρ [dat (.list ds), dat (.list es)]) : XI (RZ.iZipA K ta) ρ (zipS ds es) := fun G H σ R E s k =>
  h G H σ _ E s trivial fun vs G2 H2 t _ p => by
    obtain ⟨v, w, rfl, q1, q2⟩ := ps_two p
    obtain ⟨a, xs, rfl, ha, r⟩ := Rp.list_inv q1
    obtain ⟨b, ys, rfl, hb, r2⟩ := Rp.list_inv q2
    refine ⟨a, b, xs, ys, rfl, .inl ⟨SqL.of (t.s _ _ ha), SqL.of (t.s _ _ hb), k _ G2 H2 t ?_⟩⟩
    have hl : (zipS ds es).length = min xs.length ys.length := by simp [zipS, r.length, r2.length]
    rw [hl]
    refine (walk_zip (K := K) (a := a) (b := b) (xs := xs) (ys := ys) rfl).mono (fun H' s' => ⟨SqL.of (s' _ _ ha), SqL.of (s' _ _ hb)⟩) fun i H x H' hi s y => ?_
    obtain ⟨T, u, w, rfl, hT, rfl, h1, h2⟩ := y
    intro G' φ sg sh hφ
    obtain ⟨d, hd, rp⟩ := r.get' h1
    obtain ⟨d2, hd2, rp2⟩ := r2.get' h2
    unfold zipS at hφ
    have hz : (ds.zip es)[i]? = some (d, d2) := List.getElem?_zip_eq_some.mpr ⟨hd, hd2⟩
    rw [List.getElem?_map, hz] at hφ
    have e : dat (.tuple [d, d2]) = φ := Option.some.inj hφ
    subst e
    exact pair_new sh hT (rp.mono sg) (rp2.mono sg)
theorem xi_zipAT {ta : TA} {ds es : List PyData} (h : XA A0 ta ρ [dat (.tuple ds), dat (.tuple es)]) : XI (RZ.iZipA K ta) ρ (zipS ds es) := fun G H σ R E s k =>
  h G H σ _ E s trivial fun vs G2 H2 t _ p => by
    obtain ⟨v, w, rfl, q1, q2⟩ := ps_two p
    obtain ⟨a, xs, rfl, ha, r⟩ := Rp.tup_inv q1
    obtain ⟨b, ys, rfl, hb, r2⟩ := Rp.tup_inv q2
    refine ⟨a, b, xs, ys, rfl, .inr ⟨SqT.of (t.s _ _ ha), SqT.of (t.s _ _ hb), k _ G2 H2 t ?_⟩⟩
    have hl : (zipS ds es).length = min xs.length ys.length := by simp [zipS, r.length, r2.length]
    rw [hl]
    refine (walk_zipT (K := K) (a := a) (b := b) (xs := xs) (ys := ys) rfl).mono (fun H' s' => ⟨SqT.of (s' _ _ ha), SqT.of (s' _ _ hb)⟩) fun i H x H' hi s y => ?_
    obtain ⟨T, u, w, rfl, hT, rfl, h1, h2⟩ := y
    intro G' φ sg sh hφ
    obtain ⟨d, hd, rp⟩ := r.get' h1
    obtain ⟨d2, hd2, rp2⟩ := r2.get' h2
    unfold zipS at hφ
    have hz : (ds.zip es)[i]? = some (d, d2) := List.getElem?_zip_eq_some.mpr ⟨hd, hd2⟩
    rw [List.getElem?_map, hz] at hφ
    have e : dat (.tuple [d, d2]) = φ := Option.some.inj hφ
    subst e
    exact pair_new sh hT (rp.mono sg) (rp2.mono sg)
end
end Ls
/-! F18 -/
set_option maxHeartbeats 1000000
namespace Ls
open PySem PySem.Spec PyProof.Rows L2
section
variable {P : Program} {w : World} {K : PySem.W.Frag} {mg : Str → Option Value} {base : Heap}
/-! ### _law_like -/
/-- plain values of few levels -/
def LikeD : Nat → PyData → Prop
  | 0, _ => False
  | n + 1, d => (∃ i, d = .int i) ∨ (∃ z, PyData.canLay0 (.str z) = true ∧ d = .str z) ∨ ∃ ds : List PyData, ds.length ≤ 100000 ∧ (d = .list ds ∨ d = .tuple ds) ∧ ∀ x ∈ ds, LikeD n x
def sp_l_like (n : Nat) : Sp := fun vs H Q E => ∃ d : PyData, LikeD n d ∧ spA A0 [dat d, dat d] (dat (.bool true)) vs H Q E
theorem zip_self {α : Type} : ∀ l : List α, l.zip l = l.map fun x => (x, x)
  | [] => rfl
  | x :: l => by
    rw [List.zip_cons_cons, zip_self l]
    rfl
theorem all_tt {α : Type} : ∀ l : List α, (l.map fun _ => true).all id = true
  | [] => rfl
  | x :: l => by
    rw [List.map_cons, List.all_cons, all_tt l]
    rfl
abbrev N_l_like : List Str := ["_law_a", "_law_b", "_law_same", "_law_c", "_law_d"]
theorem sc_l_like : FnScope ["_law_a", "_law_b", "_law_same", "_law_c", "_law_d"] ["_law_a", "_law_b"] (defScope s_l_like) := ⟨rfl, rfl, rfl, by decide +kernel, rfl, by decide +kernel, by decide +kernel⟩
theorem ok_l_like0 {k : Nat} {f : Addr} {fd : FuncData} (F : FnP K "_law_like" "_law_like" s_l_like [] [] f fd) : FnOk P w K mg base CX0 (k + 1) f fd ["_law_a", "_law_b"] (sp_l_like 0) := by
  refine F.ok sc_l_like (fun vs H Q E h => ?_) (fun cdv A outer st H vs Q E hr h => ?_)
  · obtain ⟨_, h, _⟩ := h
    exact h.elim
  · obtain ⟨_, h, _⟩ := h
    exact h.elim
theorem ok_l_like {k n : Nat} {f : Addr} {fd : FuncData} (F : FnP K "_law_like" "_law_like" s_l_like [] [] f fd) (T : Fx K mg) (F_self : Fn P w K mg base "_law_like" k ["_law_a", "_law_b"] [] (sp_l_like n)) : FnOk P w K mg base CX0 (k + 1) f fd ["_law_a", "_law_b"] (sp_l_like (n + 1)) := by
  refine F.ok sc_l_like (fun vs H Q E h => ?_) (fun cdv A outer st H vs Q E hr h => ?_)
  · obtain ⟨_, _, h⟩ := h
    exact spA_len h
  · obtain ⟨d, hd, G, sG, _, ps, kk⟩ := h
    obtain ⟨v1, v2, rfl, p1, p2⟩ := ps_two ps
    refine ⟨_, PSs.nox (pss_cons (ps_if (pt_val (pe_callB (call_isiTK K) (by rfl) T.b_isinstance bt_isinstance (pa_cons (pv 1) (pa_cons (pe_tup (pa_cons (pe_bty "list" (by rfl) T.b_list bt_list) (pa_cons (pe_bty "tuple" (by rfl) T.b_tuple bt_tuple) pa_nil))) pa_nil)))) (pss_cons (ps_set (i := 2) sc_l_like.nd rfl (Or.inl rfl) (pe_and (pe_cmpR op_eq (pe_callB (call_isiK' K) (by rfl) T.b_isinstance bt_isinstance (pa_cons (pv 0) (pa_cons (pe_bty "list" (by rfl) T.b_list bt_list) pa_nil))) (pe_callB (call_isiK' K) (by rfl) T.b_isinstance bt_isinstance (pa_cons (pv 1) (pa_cons (pe_bty "list" (by rfl) T.b_list bt_list) pa_nil))) (nomark _)) (pe_one (pe_cmpR op_eq (pe_callB (call_isiK' K) (by rfl) T.b_isinstance bt_isinstance (pa_cons (pv 0) (pa_cons (pe_bty "tuple" (by rfl) T.b_tuple bt_tuple) pa_nil))) (pe_callB (call_isiK' K) (by rfl) T.b_isinstance bt_isinstance (pa_cons (pv 1) (pa_cons (pe_bty "tuple" (by rfl) T.b_tuple bt_tuple) pa_nil))) (nomark _)))))
  (pss_one (ps_ret (pe_and (pv 2) (pe_and (pe_cmpR op_eq (pe_callB (call_lenK K) (by rfl) T.b_len PySem.boot_len (pa_cons (pv 0) pa_nil)) (pe_callB (call_lenK K) (by rfl) T.b_len PySem.boot_len (pa_cons (pv 1) pa_nil)) (nomark _)) (pe_one (pe_callB (cr_allK K rfl) (by rfl) T.b_all bt_all (pa_cons (pe_lc (own := [("_law_c", 3), ("_law_d", 4)]) (by rfl) sc_l_like.nd (pi_zipAK K (by rfl) T.b_zip (pa_cons (pv 0) (pa_cons (pv 1) pa_nil))) (blkOk_by (by kernel_rfl)) (fun _ _ _ _ _ => (pg_tupK K (n := 2) (by rfl) (pgs_cons (pg_name (i := 3) sc_l_like.nd rfl (Or.inl rfl)) (pgs_cons (pg_name (i := 4) sc_l_like.nd rfl (Or.inl rfl)) pgs_nil)))) (fun _ _ _ _ _ => pts_nil) (fun _ _ _ _ _ => (pe_fn F_self (hr.mono (by omega)) rfl (pa_cons (pv 3) (pa_cons (pv 4) pa_nil))))) pa_nil)))))))) pss_nil)
  (pss_cons (ps_if (PW.pt (pw_or (pt_cmp (pc_isN (pv 0))) (pw_or (pt_cmp (pc_isN (pv 1))) (pw_or1 (pt_cmpR op_ne (pe_callB (call_isiK' K) (by rfl) T.b_isinstance bt_isinstance (pa_cons (pv 0) (pa_cons (pe_bty "bool" (by rfl) T.b_bool bt_bool) pa_nil))) (pe_callB (call_isiK' K) (by rfl) T.b_isinstance bt_isinstance (pa_cons (pv 1) (pa_cons (pe_bty "bool" (by rfl) T.b_bool bt_bool) pa_nil))) (nomark _)))))) (pss_one (ps_ret (pe_and (pe_cmp (pc_isN (pv 0))) (pe_one (pe_cmp (pc_isN (pv 1))))))) pss_nil)
  (pss_one (ps_ret (pe_and (pe_cmpR op_eq (pe_callB (call_isiK' K) (by rfl) T.b_isinstance bt_isinstance (pa_cons (pv 0) (pa_cons (pe_bty "int" (by rfl) T.b_int bt_int) pa_nil))) (pe_callB (call_isiK' K) (by rfl) T.b_isinstance bt_isinstance (pa_cons (pv 1) (pa_cons (pe_bty "int" (by rfl) T.b_int bt_int) pa_nil))) (nomark _)) (pe_and (pe_cmpR op_eq (pe_callB (call_isiK' K) (by rfl) T.b_isinstance bt_isinstance (pa_cons (pv 0) (pa_cons (pe_bty "str" (by rfl) T.b_str bt_str) pa_nil))) (pe_callB (call_isiK' K) (by rfl) T.b_isinstance bt_isinstance (pa_cons (pv 1) (pa_cons (pe_bty "str" (by rfl) T.b_str bt_str) pa_nil))) (nomark _)) (pe_one (pe_cmpR (op_eqDK K hr.units) (pv 0) (pv 1) (nomark _))))))))), ?_⟩
    have a : At A0 G H G H _ [some (dat d), some (dat d), none, none, none] := At.begin (vs := [v1, v2]) (N := N_l_like) ((EnvOk.nil.skip.skip.skip.cons p2).cons p1) sG trivial
    have hT : ∀ {ρ : Env}, XA A0 (tCons (tC (.ty "list")) (tCons (tC (.ty "tuple")) tNil)) ρ ([V.ty "list", V.ty "tuple"].map isV) := fun {ρ} => xa_cons xe_cv (xa_cons xe_cv xa_nil)
    rcases hd with ⟨i, rfl⟩ | ⟨z, hz, rfl⟩ | ⟨ds, hl, hd, hall⟩
    · refine q_no a (xt_test (XE.to (xe_cb (xa_cons (xe_var rfl) (xa_cons (xe_tupV (cs := [.ty "list", .ty "tuple"]) hT (by decide)) xa_nil)) (xc_isiT (b := false) (b2 := false) (by simp) kit_int_list kit_int_tuple)) rfl)) fun G1 H1 st1 a1 => ?_
      refine q_no a1 (XT.to (xt_or (a := false) (xt_B (xe_isN (xe_var rfl) fun G v h => by rw [h.int_inv]; rfl)) fun _ => xt_or (a := false) (xt_B (xe_isN (xe_var rfl) fun G v h => by rw [h.int_inv]; rfl)) fun _ => xt_test (XE.to (d' := .bool false) (xe_op (xe_cb (xa_cons (xe_var rfl) (xa_cons xe_cv xa_nil)) (xc_isi (b := false) (by simp) kit_int_bool)) (xe_cb (xa_cons (xe_var rfl) (xa_cons xe_cv xa_nil)) (xc_isi (b := false) (by simp) kit_int_bool)) xr_neB) rfl)) rfl) fun G2 H2 st2 a2 => ?_
      refine s_ret a2 (XE.to (d' := .bool true) (xe_and (XE.to (d' := .bool true) (xe_op (xe_cb (xa_cons (xe_var rfl) (xa_cons xe_cv xa_nil)) (xc_isi (b := true) (by simp) kit_same)) (xe_cb (xa_cons (xe_var rfl) (xa_cons xe_cv xa_nil)) (xc_isi (b := true) (by simp) kit_same)) xr_eqB) rfl) fun _ => xe_and (XE.to (d' := .bool true) (xe_op (xe_cb (xa_cons (xe_var rfl) (xa_cons xe_cv xa_nil)) (xc_isi (b := false) (by simp) kit_int_str)) (xe_cb (xa_cons (xe_var rfl) (xa_cons xe_cv xa_nil)) (xc_isi (b := false) (by simp) kit_int_str)) xr_eqB) rfl) fun _ => XE.to (d' := .bool true) (xe_op (xe_var rfl) (xe_var rfl) (xr_eqD rfl rfl)) (by simp [PyData.eqv])) rfl) fun v G3 H3 st3 j3 p3 => kk v G3 H3 st3 j3 p3
    · refine q_no a (xt_test (XE.to (xe_cb (xa_cons (xe_var rfl) (xa_cons (xe_tupV (cs := [.ty "list", .ty "tuple"]) hT (by decide)) xa_nil)) (xc_isiT (b := false) (b2 := false) (by simp) kit_str_list kit_str_tuple)) rfl)) fun G1 H1 st1 a1 => ?_
      refine q_no a1 (XT.to (xt_or (a := false) (xt_B (xe_isN (xe_var rfl) fun G v h => by rw [h.str_inv]; rfl)) fun _ => xt_or (a := false) (xt_B (xe_isN (xe_var rfl) fun G v h => by rw [h.str_inv]; rfl)) fun _ => xt_test (XE.to (d' := .bool false) (xe_op (xe_cb (xa_cons (xe_var rfl) (xa_cons xe_cv xa_nil)) (xc_isi (b := false) (by simp) kit_str_bool)) (xe_cb (xa_cons (xe_var rfl) (xa_cons xe_cv xa_nil)) (xc_isi (b := false) (by simp) kit_str_bool)) xr_neB) rfl)) rfl) fun G2 H2 st2 a2 => ?_
      refine s_ret a2 (XE.to (d' := .bool true) (xe_and (XE.to (d' := .bool true) (xe_op (xe_cb (xa_cons (xe_var rfl) (xa_cons xe_cv xa_nil)) (xc_isi (b := false) (by simp) kit_str_int)) (xe_cb (xa_cons (xe_var rfl) (xa_cons xe_cv xa_nil)) (xc_isi (b := false) (by simp) kit_str_int)) xr_eqB) rfl) fun _ => xe_and (XE.to (d' := .bool true) (xe_op (xe_cb (xa_cons (xe_var rfl) (xa_cons xe_cv xa_nil)) (xc_isi (b := true) (by simp) kit_same)) (xe_cb (xa_cons (xe_var rfl) (xa_cons xe_cv xa_nil)) (xc_isi (b := true) (by simp) kit_same)) xr_eqB) rfl) fun _ => XE.to (d' := .bool true) (xe_op (xe_var rfl) (xe_var rfl) (xr_eqD (nice_str.shaped (by decide) hz) (nice_str.shaped (by decide) hz))) (by simp [PyData.eqv])) rfl) fun v G3 H3 st3 j3 p3 => kk v G3 H3 st3 j3 p3
    · rcases hd with hd | hd
      · subst hd
        refine q_if (b := true) a (xt_test (XE.to (xe_cb (xa_cons (xe_var rfl) (xa_cons (xe_tupV (cs := [.ty "list", .ty "tuple"]) hT (by decide)) xa_nil)) (xc_isiT (b := true) (b2 := false) (by simp) kit_same kit_list_tuple)) rfl)) (fun _ G1 H1 st1 a1 => ?_) (fun e => by cases e)
        refine q_asg (φ := dat (.bool true)) a1 (XE.to (d' := .bool true) (xe_and (XE.to (d' := .bool true) (xe_op (xe_cb (xa_cons (xe_var rfl) (xa_cons xe_cv xa_nil)) (xc_isi (b := true) (by simp) kit_same)) (xe_cb (xa_cons (xe_var rfl) (xa_cons xe_cv xa_nil)) (xc_isi (b := true) (by simp) kit_same)) xr_eqB) rfl) fun _ => XE.to (d' := .bool true) (xe_op (xe_cb (xa_cons (xe_var rfl) (xa_cons xe_cv xa_nil)) (xc_isi (b := false) (by simp) kit_list_tuple)) (xe_cb (xa_cons (xe_var rfl) (xa_cons xe_cv xa_nil)) (xc_isi (b := false) (by simp) kit_list_tuple)) xr_eqB) rfl) rfl) fun v2 G2 H2 st2 _ a2 => ?_
        refine s_ret a2 (XE.to (d' := .bool true) (xe_and (a := true) (b := true) (xe_var rfl) fun _ => xe_and (a := true) (b := true) (XE.to (xe_op (xe_cb (xa_cons (xe_var rfl) xa_nil) xc_lenL) (xe_cb (xa_cons (xe_var rfl) xa_nil) xc_lenL) xr_eqI) (by rw [decide_eq_true rfl])) fun _ => XE.to (xe_cb (xa_cons (XE.to (d' := .list ((ds.map fun _ => true).map .bool)) (xe_lcAll (l := ds.zip ds) (ψ := fun q => dat (.tuple [q.1, q.2])) (E := fun _ => .bool true) (js := [3, 4]) (xi_zipAL (xa_cons (xe_var rfl) (xa_cons (xe_var rfl) xa_nil))) (by rw [zip_self, List.length_map]; exact hl) (fun j hj => hj) fun q hq => ⟨xg_tup2 (by simp) (by simp), ?_⟩) (by rw [zip_self, List.map_map, List.map_map]; rfl)) xa_nil) xc_all) (by rw [all_tt])) rfl) fun v3 G3 H3 st3 j3 p3 => kk v3 G3 H3 st3 j3 p3
        rw [zip_self] at hq
        obtain ⟨x, hx, rfl⟩ := List.mem_map.mp hq
        exact xe_call (φ := dat (.bool true)) (xa_cons (xe_var rfl) (xa_cons (xe_var rfl) xa_nil)) fun vs H Q h => ⟨x, hall x hx, h⟩
      · subst hd
        refine q_if (b := true) a (xt_test (XE.to (xe_cb (xa_cons (xe_var rfl) (xa_cons (xe_tupV (cs := [.ty "list", .ty "tuple"]) hT (by decide)) xa_nil)) (xc_isiT (b := false) (b2 := true) (by simp) kit_tuple_list kit_same)) rfl)) (fun _ G1 H1 st1 a1 => ?_) (fun e => by cases e)
        refine q_asg (φ := dat (.bool true)) a1 (XE.to (d' := .bool true) (xe_and (XE.to (d' := .bool true) (xe_op (xe_cb (xa_cons (xe_var rfl) (xa_cons xe_cv xa_nil)) (xc_isi (b := false) (by simp) kit_tuple_list)) (xe_cb (xa_cons (xe_var rfl) (xa_cons xe_cv xa_nil)) (xc_isi (b := false) (by simp) kit_tuple_list)) xr_eqB) rfl) fun _ => XE.to (d' := .bool true) (xe_op (xe_cb (xa_cons (xe_var rfl) (xa_cons xe_cv xa_nil)) (xc_isi (b := true) (by simp) kit_same)) (xe_cb (xa_cons (xe_var rfl) (xa_cons xe_cv xa_nil)) (xc_isi (b := true) (by simp) kit_same)) xr_eqB) rfl) rfl) fun v2 G2 H2 st2 _ a2 => ?_
        refine s_ret a2 (XE.to (d' := .bool true) (xe_and (a := true) (b := true) (xe_var rfl) fun _ => xe_and (a := true) (b := true) (XE.to (xe_op (xe_cb (xa_cons (xe_var rfl) xa_nil) xc_lenT) (xe_cb (xa_cons (xe_var rfl) xa_nil) xc_lenT) xr_eqI) (by rw [decide_eq_true rfl])) fun _ => XE.to (xe_cb (xa_cons (XE.to (d' := .list ((ds.map fun _ => true).map .bool)) (xe_lcAll (l := ds.zip ds) (ψ := fun q => dat (.tuple [q.1, q.2])) (E := fun _ => .bool true) (js := [3, 4]) (xi_zipAT (xa_cons (xe_var rfl) (xa_cons (xe_var rfl) xa_nil))) (by rw [zip_self, List.length_map]; exact hl) (fun j hj => hj) fun q hq => ⟨xg_tup2 (by simp) (by simp), ?_⟩) (by rw [zip_self, List.map_map, List.map_map]; rfl)) xa_nil) xc_all) (by rw [all_tt])) rfl) fun v3 G3 H3 st3 j3 p3 => kk v3 G3 H3 st3 j3 p3
        rw [zip_self] at hq
        obtain ⟨x, hx, rfl⟩ := List.mem_map.mp hq
        exact xe_call (φ := dat (.bool true)) (xa_cons (xe_var rfl) (xa_cons (xe_var rfl) xa_nil)) fun vs H Q h => ⟨x, hall x hx, h⟩
end
end Ls
/-! F17 -/
set_option maxHeartbeats 1000000
namespace Ls
open PySem PySem.Spec PyProof.Rows L2
section
variable {P : Program} {w : World} {K : PySem.W.Frag} {mg : Str → Option Value} {base : Heap}
/-! ### _law_draws -/
/-- the script: a list of ints, wherever it stands -/
def scrS (K : PySem.W.Frag) (ns : List Int) : SP := ⟨fun G v => ∃ a, v = .ref a ∧ SqL K G a (ns.map V.int), fun s ⟨a, e, h⟩ => ⟨a, e, h.imp (rd_mono s) id⟩⟩
theorem xe_slScr {A : Amb} {ρ : Env} {te : TE} {tl th : TO} {K : PySem.W.Frag} {ns : List Int} {lo hi : Option Int} (h : XE A te ρ (scrS K ns)) (h1 : XO A tl ρ lo) (h2 : XO A th ρ hi) : XE A (tSl (rSlL K) te tl th) ρ (dat (.list (cutD (ns.map .int) lo hi))) := fun G H σ Q E s j k =>
  h G H σ _ E s j fun v G1 H1 t1 j1 p1 => h1 G1 H1 σ _ (E.mono t1.g) t1.s j1 fun G2 H2 t2 j2 => h2 G2 H2 σ _ ((E.mono t1.g).mono t2.g) t2.s j2 fun G3 H3 t3 j3 => by
    obtain ⟨a, rfl, ha⟩ := (scrS K ns).mono (t2.g.trans t3.g) p1
    refine ⟨a, ns.map V.int, rfl, ha.imp (rd_mono t3.s) id, fun p hp => ?_⟩
    have t4 := Stp.new (o := .lst (cutV (ns.map V.int) lo hi)) t3.s hp
    exact k _ _ _ (((t1.trans t2).trans t3).trans t4.up) (t4.j j3) (.lst upd_same (cut_rp (RpAll.of_map _ _ _ fun x _ => .int x) lo hi))
def sp_l_draws (K : PySem.W.Frag) : Sp := fun vs H Q E => ∃ (ns : List Int) (G : Hp), Same G H ∧ Ps G vs [scrS K ns] ∧ ∀ (bag L : Addr) (ms : List Int) (G2 H2 : Hp), Stp A0 G H G2 H2 → H bag = none → (bagA bag L ms).J G2 H2 → Q (.ref bag) H2
abbrev N_l_draws : List Str := ["_law_script", "_law_seed", "_law_cell"]
theorem sc_l_draws : FnScope ["_law_script", "_law_seed", "_law_cell"] ["_law_script"] (defScope s_l_draws) := ⟨rfl, rfl, rfl, by decide +kernel, rfl, by decide +kernel, by decide +kernel⟩
theorem ok_l_draws {f : Addr} {fd : FuncData} (F : FnP K "_law_draws" "_law_draws" s_l_draws [] [] f fd) (T : Fx K mg) : FnOk P w K mg base CX0 1 f fd ["_law_script"] (sp_l_draws K) := by
  refine F.ok sc_l_draws (fun vs H Q E h => ?_) (fun cdv A outer st H vs Q E hr h => ?_)
  · obtain ⟨_, _, _, h, _⟩ := h
    exact h.length
  · obtain ⟨ns, G, sG, ps, k⟩ := h
    obtain ⟨v1, rfl, p1⟩ := ps_one ps
    refine ⟨_, PSs.nox (pss_cons (ps_set (i := 1) sc_l_draws.nd rfl (Or.inl rfl) pe_int)
  (pss_cons (ps_for PassesOwn.never (by rfl) (pi_listK K (pe_slice (sl_listK K) (pv 0) po_none (po_some pe_int))) (pg_name (i := 2) sc_l_draws.nd rfl (Or.inl rfl)) (pss_one (ps_set (i := 1) sc_l_draws.nd rfl (Or.inl rfl) (pe_op op_mod (pe_callTy call_int1Q (by rfl) T.b_int bt_int (pa_cons (pe_op op_add (pe_op op_add (pe_op op_mul (pv 1) pe_int) (pe_op op_mod (pe_callTy call_int1Q (by rfl) T.b_int bt_int (pa_cons (pv 2) pa_nil)) pe_int)) pe_int) pa_nil)) pe_int))))
  (pss_one (ps_ret (pe_lst (pa_cons (pe_callTy (call_listK K) (by rfl) T.b_list bt_list (pa_cons (pe_slice (sl_listK K) (pv 0) po_none (po_some pe_int)) pa_nil)) (pa_cons pe_int (pa_cons pe_int (pa_cons (pv 1) (pa_cons pe_int pa_nil)))))))))), ?_⟩
    have a0 : At A0 G H G H _ [some (scrS K ns), none, none] := At.begin (vs := [v1]) (N := N_l_draws) (EnvOk.nil.skip.skip.cons p1) sG trivial
    obtain ⟨ms, hms, _⟩ := cutD_map (e := PyData.int) ns none (some 63)
    refine q_asg a0 xe_int fun v G1 H1 st1 _ a1 => ?_
    refine q_for (l := ms) a1 (xi_listT (XE.to (xe_slScr (xe_var rfl) xo_none (xo_some xe_int)) (by rw [hms])))
      (fun j G' H' σ' => ∃ s : Int, 0 ≤ s ∧ s < 2147483549 ∧ At A0 G H G' H' σ' [some (scrS K ns), some (dat (.int s)), none]) (fun j G1 H1 σ1 ⟨_, _, _, h⟩ => h.s) (fun G6 H6 st6 => ⟨12013, by decide, by decide, a1.step0 st6⟩) ?_ ?_
    · rintro j x G6 H6 σ6 hx ⟨s, h0, h1, a6⟩ v7 G7 H7 st7 p7
      have a7 := (a6.step0 st7).re ((a6.step0 st7).env.set 2 p7)
      refine s_asg (φ := dat (.int ((s * 44017 + x % 2147483353 + 91) % 2147483549))) a7 (xe_op (xe_cb (xa_cons (xe_op (xe_op (xe_op (xe_var rfl) xe_int (xr_I (fun _ => .int _) (.inr ⟨by decide, by decide⟩))) (xe_op (xe_cb (xa_cons (xe_var rfl) xa_nil) xc_int) xe_int (xr_I (fun _ => .int _) (by decide))) xr_add) xe_int xr_add) xa_nil) xc_int) xe_int (xr_I (fun _ => .int _) (by decide))) fun v8 G8 H8 st8 p8 a8 => ?_
      exact ⟨G8, (st7.trans st8).g, _, Int.emod_nonneg _ (by decide), Int.emod_lt_of_pos _ (by decide), a8.re (a8.env.sub (by repeat' constructor))⟩
    · rintro G6 H6 σ6 ⟨s, h0, h1, a6⟩
      refine s_retNew (φs := [dat (.list (ms.map .int)), dat (.int 0), dat (.int 0), dat (.int s), dat (.int 0)]) a6 (xa_cons (xe_cb (xa_cons (XE.to (xe_slScr (xe_var rfl) xo_none (xo_some xe_int)) (by rw [hms])) xa_nil) xc_list) (xa_cons xe_int (xa_cons xe_int (xa_cons (xe_var rfl) (xa_cons xe_int xa_nil))))) (by show 5 ≤ 1000; decide) fun vs G7 H7 bag st7 a7 p7 hb => ?_
      cases p7 with
      | cons pL p7 =>
        cases p7 with
        | cons q1 p7 =>
          cases p7 with
          | cons q2 p7 =>
            cases p7 with
            | cons q3 p7 =>
              cases p7 with
              | cons q4 p7 =>
                cases p7
                obtain ⟨L, xs, rfl, hL, rL⟩ := Rp.list_inv pL
                rw [Rp.int_inv q1, Rp.int_inv q2, Rp.int_inv q3, Rp.int_inv q4]
                have eL : xs = ms.map V.int := rp_ints_inv rL
                subst eL
                have t := a7.stp.trans (Stp.only a7.s (same_new (o := .lst [.ref L, .int 0, .int 0, .int s, .int 0]) hb))
                exact k bag L ms G7 _ t (a7.stp.k _ hb) ⟨0, 0, s, 0, ⟨a7.s.free hb, hL, upd_same⟩, by decide, h0, h1⟩
/-! ### _law_any -/
def sp_l_any : Sp := fun vs H Q E => ∃ (bag L : Addr) (ns : List Int), (∃ ds : List PyData, 0 < ds.length ∧ ds.length ≤ 1000000 ∧ spA (bagA bag L ns) [isV (.ref bag), dat (.list ds)] (ex (fun d => d ∈ ds) fun d => dat d) vs H Q E) ∨
  ∃ z : Str, 0 < z.length ∧ z.length ≤ 1000 ∧ spA (bagA bag L ns) [isV (.ref bag), dat (.str z)] (ex (fun c => c ∈ z.cps.toList) fun c => dat (.str ⟨#[c]⟩)) vs H Q E
theorem sc_l_any : FnScope ["_law_bag", "_law_rows_here"] ["_law_bag", "_law_rows_here"] (defScope s_l_any) := ⟨rfl, rfl, rfl, by decide +kernel, rfl, by decide +kernel, by decide +kernel⟩
theorem ok_l_any {f : Addr} {fd : FuncData} (F : FnP K "_law_any" "_law_any" s_l_any [] [] f fd) (T : Fx K mg) (F_l_pull : Fn P w K mg base "_law_pull" 1 ["_law_bag", "_law_sides"] [] sp_l_pull) : FnOk P w K mg base CX0 2 f fd ["_law_bag", "_law_rows_here"] sp_l_any := by
  refine F.ok sc_l_any (fun vs H Q E h => ?_) (fun cdv A outer st H vs Q E hr h => ?_)
  · obtain ⟨_, _, _, ⟨_, _, _, h⟩ | ⟨_, _, _, h⟩⟩ := h <;> exact spA_len h
  · obtain ⟨bag, L, ns, h⟩ := h
    rcases h with ⟨ds, h0, h1, h⟩ | ⟨z, h0, h1, h⟩
    · obtain ⟨G, sG, jG, ps, k⟩ := h
      obtain ⟨v1, v2, rfl, p1, p2⟩ := ps_two ps
      refine ⟨_, PSs.nox (pss_one (ps_ret (pe_ix (ix_seqK K) (pv 1) (pe_fn F_l_pull (hr.mono (by decide)) rfl (pa_cons (pv 0) (pa_cons (pe_callB (call_lenV K) (by rfl) T.b_len PySem.boot_len (pa_cons (pv 1) pa_nil)) pa_nil))) (fun _ _ => rfl)))), ?_⟩
      have a : At (bagA bag L ns) G H G H _ [some (isV (.ref bag)), some (dat (.list ds))] := At.begin (vs := [v1, v2]) (N := ["_law_bag", "_law_rows_here"]) ((EnvOk.nil.cons p2).cons p1) sG jG
      refine s_ret (φ := ex (fun d => d ∈ ds) fun d => dat d) a (xe_op (χ := ex (fun d => d ∈ ds) fun d => dat d) (xe_var rfl) (xe_call (φ := ex (fun r : Nat => r < ds.length) fun r => dat (.int (r : Int))) (xa_cons (xe_var rfl) (xa_cons (xe_cb (xa_cons (xe_var rfl) xa_nil) xc_lenVL) xa_nil)) fun vs H Q h => ⟨bag, L, ns, ds.length, h0, h1, h⟩) (xr_ex0 fun r hr => ⟨ds[r], List.getElem_mem hr, xr_orL (xr_ixLn (List.getElem?_eq_getElem hr))⟩)) fun v G2 H2 st j2 p => k v G2 H2 st j2 p
    · obtain ⟨G, sG, jG, ps, k⟩ := h
      obtain ⟨v1, v2, rfl, p1, p2⟩ := ps_two ps
      refine ⟨_, PSs.nox (pss_one (ps_ret (pe_ix (ix_seqK K) (pv 1) (pe_fn F_l_pull (hr.mono (by decide)) rfl (pa_cons (pv 0) (pa_cons (pe_callB (call_lenV K) (by rfl) T.b_len PySem.boot_len (pa_cons (pv 1) pa_nil)) pa_nil))) (fun _ _ => rfl)))), ?_⟩
      have a : At (bagA bag L ns) G H G H _ [some (isV (.ref bag)), some (dat (.str z))] := At.begin (vs := [v1, v2]) (N := ["_law_bag", "_law_rows_here"]) ((EnvOk.nil.cons p2).cons p1) sG jG
      have hlen : z.length = z.cps.toList.length := by
        show z.cps.size = _
        rw [Array.length_toList]
      refine s_ret (φ := ex (fun c => c ∈ z.cps.toList) fun c => dat (.str ⟨#[c]⟩)) a (xe_op (χ := ex (fun c => c ∈ z.cps.toList) fun c => dat (.str ⟨#[c]⟩)) (xe_var rfl) (xe_call (φ := ex (fun r : Nat => r < z.length) fun r => dat (.int (r : Int))) (xa_cons (xe_var rfl) (xa_cons (xe_cb (xa_cons (xe_var rfl) xa_nil) (xc_lenVS h1)) xa_nil)) fun vs H Q h => ⟨bag, L, ns, z.length, h0, by omega, h⟩) (xr_ex0 fun r hr => ⟨z.cps.toList[r]'(by omega), List.getElem_mem _, xr_orS (xr_ixS h1 (by omega) (by rw [Int.toNat_natCast]; exact List.getElem?_eq_getElem _))⟩)) fun v G2 H2 st j2 p => k v G2 H2 st j2 p
/-! ### _law_mixed -/
theorem nbag {bag L l : Addr} {ns : List Int} {G H : Hp} {o : HO} (j : (bagA bag L ns).J G H) (h : (bagA bag L ns).B l → H l = none) : ¬ (bagA bag L ns).B l := fun z => by
  obtain ⟨o, e⟩ := bag_nf j z
  rw [h z] at e
  cases e
theorem s_ins {E : XK} {bag L l : Addr} {ns : List Int} {xs : List V} {i j b : Nat} {G0 H0 G H : Hp} {σ : L2.St} {ρ : Env} {D : Ends} {φ : SP} (a : At (bagA bag L ns) G0 H0 G H σ ρ) (w : Own G H l (.lst xs)) (f : H0 l = none) (nb : ¬ (bagA bag L ns).B l) (hi : ρ[i]? = some (some (isV (.ref l)))) (hb : ρ[b]? = some (some (isV (.ref bag)))) (hj : ρ[j]? = some (some φ)) (hz : xs.length ≤ 1000)
    (k : ∀ v r G2 H2, r ≤ xs.length → Stp (bagA bag L ns) G H G2 H2 → φ.p G2 v → At (bagA bag L ns) G0 H0 G2 (upd H2 l (.lst (xs.take r ++ [v] ++ xs.drop r))) σ ρ → Own G2 (upd H2 l (.lst (xs.take r ++ [v] ++ xs.drop r))) l (.lst (xs.take r ++ [v] ++ xs.drop r)) → D.nx σ (upd H2 l (.lst (xs.take r ++ [v] ++ xs.drop r)))) :
    tDrop (tBM K "list" rInsert (tVar i) (tCons (tCall sp_l_pull [] E (tCons (tVar b) (tCons (tOp (rI0 fun i j => .int (i + j)) (tCB (rLenQ K) (tCons (tVar i) tNil)) (tC (.int 1))) tNil))) (tCons (tVar j) tNil))) D σ H := by
  refine ⟨_, a.own hi, .inl ⟨rfl, xs, SqL.of w.h⟩, ?_⟩
  refine ⟨_, a.own hb, _, a.own hi, ?_⟩
  refine ⟨l, xs, rfl, .inl (SqL.of w.h), ?_⟩
  refine ⟨_, _, rfl, rfl, ?_⟩
  refine ⟨bag, L, ns, xs.length + 1, Nat.succ_pos _, by omega, G, a.s, a.j, .cons rfl (.cons (.int _) .nil), fun v G2 H2 t j2 p => ?_⟩
  obtain ⟨r, hr, p⟩ := p
  have e : v = .int (r : Int) := Rp.int_inv p
  subst e
  obtain ⟨u, hu, pu⟩ := a.env.at_ j _ hj
  refine ⟨u, hu, ?_⟩
  have w2 := w.step t nb
  have a2 : At (bagA bag L ns) G0 H0 G2 H2 σ ρ := ⟨a.env.mono t.g, a.stp.trans t, j2⟩
  obtain ⟨a3, w3⟩ := a2.mut (o' := .lst (xs.take r ++ [u] ++ xs.drop r)) w2 f nb
  refine ⟨l, xs, (r : Int), u, rfl, rfl, w2.h, Nat.lt_of_le_of_lt hz (by decide), by omega, by omega, ?_⟩
  rw [Int.toNat_natCast]
  exact k u r G2 H2 (by omega) t (φ.mono t.g pu) a3 w3
def sp_l_mixed : Sp := fun vs H Q E => ∃ (bag L : Addr) (ns : List Int) (ds : List PyData), ds.length ≤ 1000 ∧ spA (bagA bag L ns) [isV (.ref bag), dat (.list ds)] (ex (fun es : List PyData => es.Perm ds) fun es => dat (.list es)) vs H Q E
abbrev N_l_mixed : List Str := ["_law_bag", "_law_rows_here", "_law_found", "_law_row"]
theorem sc_l_mixed : FnScope ["_law_bag", "_law_rows_here", "_law_found", "_law_row"] ["_law_bag", "_law_rows_here"] (defScope s_l_mixed) := ⟨rfl, rfl, rfl, by decide +kernel, rfl, by decide +kernel, by decide +kernel⟩
theorem take_snoc {α : Type} {l : List α} {i : Nat} {x : α} (h : l[i]? = some x) : l.take (i + 1) = l.take i ++ [x] := by
  rw [List.take_add_one, h]
  rfl
theorem perm_ins {α : Type} {es : List α} {d : α} (r : Nat) : (es.take r ++ [d] ++ es.drop r).Perm (es ++ [d]) := by
  have h1 : (es.take r ++ [d] ++ es.drop r).Perm (es.take r ++ (es.drop r ++ [d])) := by
    rw [List.append_assoc]
    exact (List.perm_append_comm).append_left _
  rw [← List.append_assoc, List.take_append_drop] at h1
  exact h1
theorem ok_l_mixed {f : Addr} {fd : FuncData} (F : FnP K "_law_mixed" "_law_mixed" s_l_mixed [] [] f fd) (T : Fx K mg) (F_l_pull : Fn P w K mg base "_law_pull" 1 ["_law_bag", "_law_sides"] [] sp_l_pull) : FnOk P w K mg base CX0 2 f fd ["_law_bag", "_law_rows_here"] sp_l_mixed := by
  refine F.ok sc_l_mixed (fun vs H Q E h => ?_) (fun cdv A outer st H vs Q E hr h => ?_)
  · obtain ⟨_, _, _, _, _, h⟩ := h
    exact spA_len h
  · obtain ⟨bag, L, ns, ds, hl, G, sG, jG, ps, k⟩ := h
    obtain ⟨v1, v2, rfl, p1, p2⟩ := ps_two ps
    refine ⟨_, PSs.nox (pss_cons (ps_set (i := 2) sc_l_mixed.nd rfl (Or.inl rfl) (pe_lst pa_nil))
  (pss_cons (ps_for PassesOwn.never (by rfl) (pi_listK K (pv 1)) (pg_name (i := 3) sc_l_mixed.nd rfl (Or.inl rfl)) (pss_one (ps_expr (pe_bm PySem.F.plainAttrs_list PySem.F.slot_list_insert PySem.F.type_list_insert mt_insert (pv 2) (pa_cons (pe_fn F_l_pull (hr.mono (by decide)) rfl (pa_cons (pv 0) (pa_cons (pe_op op_add (pe_callB (call_lenK K) (by rfl) T.b_len PySem.boot_len (pa_cons (pv 2) pa_nil)) pe_int) pa_nil))) (pa_cons (pv 3) pa_nil))))))
  (pss_one (ps_ret (pv 2))))), ?_⟩
    have a : At (bagA bag L ns) G H G H _ [some (isV (.ref bag)), some (dat (.list ds)), none, none] := At.begin (vs := [v1, v2]) (N := N_l_mixed) ((EnvOk.nil.skip.skip.cons p2).cons p1) sG jG
    refine q_new a fun l H1 hl1 hl0 w1 st1 a1 => ?_
    have nb : ¬ (bagA bag L ns).B l := fun z => by
      obtain ⟨o, e⟩ := bag_nf a.j z
      rw [hl1] at e
      cases e
    refine q_for (l := ds) a1 (xi_list (xe_var rfl))
      (fun j G' H' σ' => ∃ xs es, At (bagA bag L ns) G H G' H' σ' [some (isV (.ref bag)), some (dat (.list ds)), some (isV (.ref l)), none] ∧ Own G' H' l (.lst xs) ∧ RpAll G' xs es ∧ es.Perm (ds.take j)) (fun j G1 H1 σ1 ⟨_, _, h, _⟩ => h.s) (fun G6 H6 st6 => ⟨[], [], a1.step0 st6, w1.step0 st6, .nil, .refl _⟩) ?_ ?_
    · rintro j x G6 H6 σ6 hx ⟨xs, es, a6, w6, r6, pm⟩ v7 G7 H7 st7 p7
      have a7 := (a6.step0 st7).re ((a6.step0 st7).env.set 3 p7)
      have hlen : xs.length = j := by
        rw [r6.length, pm.length_eq, List.length_take]
        have := (List.getElem?_eq_some_iff.mp hx).1
        omega
      have hj : j < ds.length := (List.getElem?_eq_some_iff.mp hx).1
      refine s_ins a7 (w6.step0 st7) hl0 nb rfl rfl rfl (by omega) fun v r G8 H8 hr8 st8 p8 a8 w8 => ?_
      have r8 := (r6.mono (st7.g.trans st8.g))
      refine ⟨G8, st7.g.trans st8.g, _, es.take r ++ [x] ++ es.drop r, a8.re (a8.env.sub (by repeat' constructor)), w8, ((r8.take r).append (.cons p8 .nil)).append (r8.drop r), ?_⟩
      rw [take_snoc hx]
      exact (perm_ins r).trans (pm.append_right [x])
    · rintro G6 H6 σ6 ⟨xs, es, a6, w6, r6, pm⟩
      rw [List.take_length] at pm
      refine ⟨_, a6.own (i := 2) rfl, ?_⟩
      obtain ⟨a7, s7⟩ := a6.seal w6 hl0 nb
      exact k _ _ _ a7.stp a7.j ⟨es, pm, .lst upd_same (r6.mono s7)⟩
end
end Ls
/-! Ex -/
set_option maxHeartbeats 1000000
/-! Rules for values that are one of several. -/
namespace Ls
open PySem PySem.Spec PyProof.Rows L2
section
variable {A : Amb} {ρ : Env} {te ta tb tc : TE} {tt tu : TT} {φ ψ χ : SP} {K : PySem.W.Frag} {G0 H0 G H : Hp} {σ : L2.St} {D : Ends} {t u tz tw : TS} {r : R2}
theorem xc_ex2 {α β : Type} {rc : List V → Hp → VK → Prop} {P : α → Prop} {f : α → SP} {P2 : β → Prop} {g : β → SP} (h : ∀ x, P x → ∃ y, P2 y ∧ XC A rc [φ, f x] (g y)) : XC A rc [φ, ex P f] (ex P2 g) := fun G H vs Q s j hv k => by
  obtain ⟨v, w, rfl, p, x, hx, q⟩ := ps_two hv
  obtain ⟨y, hy, c⟩ := h x hx
  exact c G H [v, w] Q s j (.cons p (.cons q .nil)) fun v2 G2 H2 t j2 p2 => k v2 G2 H2 t j2 ⟨y, hy, p2⟩
theorem xe_slLX {α : Type} {P : α → Prop} {f : α → List PyData} {tl th : TO} {lo hi : Option Int} (h : XE A te ρ (ex P fun x => dat (.list (f x)))) (h1 : XO A tl ρ lo) (h2 : XO A th ρ hi) : XE A (tSl (rSlL K) te tl th) ρ (ex P fun x => dat (.list (cutD (f x) lo hi))) := fun G H σ Q E s j k =>
  h G H σ _ E s j fun v G1 H1 t1 j1 p1 => h1 G1 H1 σ _ (E.mono t1.g) t1.s j1 fun G2 H2 t2 j2 => h2 G2 H2 σ _ ((E.mono t1.g).mono t2.g) t2.s j2 fun G3 H3 t3 j3 => by
    obtain ⟨x, hx, p1⟩ := p1
    have p1 : Rp G1 v (.list (f x)) := p1
    obtain ⟨a, xs, rfl, ha, r⟩ := Rp.list_inv ((p1.mono t2.g).mono t3.g)
    refine ⟨a, xs, rfl, SqL.of (t3.s _ _ ha), fun p hp => ?_⟩
    have t4 := Stp.new (o := .lst (cutV xs lo hi)) t3.s hp
    exact k _ _ _ (((t1.trans t2).trans t3).trans t4.up) (t4.j j3) ⟨x, hx, .lst upd_same ((cut_rp r lo hi).mono t4.g)⟩
theorem xe_lstX {ta : TA} {φs : List SP} {α : Type} {P : α → Prop} {f : α → List PyData} (h : XA A ta ρ φs) (hl : φs.length ≤ 1000) (g : ∀ G vs, Ps G vs φs → ∃ x, P x ∧ RpAll G vs (f x)) : XE A (tLst ta) ρ (ex P fun x => dat (.list (f x))) := fun G H σ Q E s j k =>
  h G H σ _ E s j fun vs G1 H1 t1 j1 p1 => by
    obtain ⟨x, hx, r⟩ := g G1 vs p1
    refine ⟨by rw [p1.length]; exact Nat.le_trans hl (by decide), fun p hp => ?_⟩
    have t2 := Stp.new (o := .lst vs) t1.s hp
    exact k _ _ _ (t1.trans t2.up) (t2.j j1) ⟨x, hx, .lst upd_same (r.mono t2.g)⟩
theorem xe_tupX {ta : TA} {φs : List SP} {α : Type} {P : α → Prop} {f : α → List PyData} (h : XA A ta ρ φs) (hl : φs.length ≤ 1000) (g : ∀ G vs, Ps G vs φs → ∃ x, P x ∧ RpAll G vs (f x)) : XE A (tTup ta) ρ (ex P fun x => dat (.tuple (f x))) := fun G H σ Q E s j k =>
  h G H σ _ E s j fun vs G1 H1 t1 j1 p1 => by
    obtain ⟨x, hx, r⟩ := g G1 vs p1
    refine ⟨by rw [p1.length]; exact Nat.le_trans hl (by decide), fun p hp => ?_⟩
    have t2 := Stp.new (o := .tup vs) t1.s hp
    exact k _ _ _ (t1.trans t2.up) (t2.j j1) ⟨x, hx, .tup upd_same (r.mono t2.g)⟩
theorem xe_joinX {P : List Nat → Prop} (h : XE A te ρ (ex P fun l => dat (.list (l.map fun c => .str (sg c))))) (hl : ∀ l, P l → l.length ≤ 10000000) : XE A (tM1 (rJoinQ K) (tC (.str "")) te) ρ (ex P fun l => dat (.str (aS l))) := fun G H σ Q E s j k => by
  refine ⟨⟨_, rfl⟩, h G H σ _ E s j fun v G1 H1 t1 j1 p1 => ?_⟩
  obtain ⟨l, hP, p1⟩ := p1
  have ρc : XE A (tM1 (rJoinQ K) (tC (.str "")) (tVar 0)) [some (dat (.list (l.map fun c => .str (sg c))))] (dat (.str (aS l))) := xe_joinSg (xe_var rfl) (hl l hP)
  obtain ⟨_, u, hu, z⟩ := ρc G1 H1 [some v] Q (EnvOk.nil.cons p1) t1.s j1 fun v2 G2 H2 t2 j2 p2 => k v2 G2 H2 (t1.trans t2) j2 ⟨l, hP, p2⟩
  have e : u = v := (Option.some.inj (Option.some.inj hu)).symm
  rw [e] at z
  exact z
theorem xr_exl {α : Type} {P : α → Prop} {f : α → SP} (h : ∀ x, P x → XR A r (f x) ψ χ) : XR A r (ex P f) ψ χ := fun G H x y Q s j hx hy k => by
  obtain ⟨z, hz, p⟩ := hx
  exact h z hz G H x y Q s j p hy k
theorem xe_ifX {P : Bool → Prop} (h : XE A te ρ (ex P fun b => dat (.bool b))) (h1 : P true → XE A ta ρ φ) (h2 : P false → XE A tb ρ φ) : XE A (tIf (tTest te) ta tb) ρ φ := fun G H σ Q E s j k => h G H σ _ E s j fun v G1 H1 t1 j1 p => by
  obtain ⟨b, hb, p⟩ := p
  have e : v = .bl b := Rp.bl_inv p
  subst e
  refine ⟨b, rfl, ?_⟩
  cases b with
  | true =>
    rw [if_pos rfl]
    exact h1 hb G1 H1 σ Q (E.mono t1.g) t1.s j1 fun v G2 H2 t2 j2 p2 => k v G2 H2 (t1.trans t2) j2 p2
  | false =>
    rw [if_neg Bool.false_ne_true]
    exact h2 hb G1 H1 σ Q (E.mono t1.g) t1.s j1 fun v G2 H2 t2 j2 p2 => k v G2 H2 (t1.trans t2) j2 p2
theorem xe_rg {n : Nat} (h : XE A te ρ (dat (.int (n : Int)))) (hn : n ≤ 1000) : XE A (tLstRg (tRg1 te)) ρ (dat (.list ((List.range n).map fun i : Nat => .int (i : Int)))) := fun G H σ Q E s j k => h G H σ _ E s j fun v G1 H1 t1 j1 p => by
  refine ⟨(n : Int), Rp.int_inv p, RgOk.of_le (by decide) (by omega) (by decide) (by omega), fun q hq => ?_⟩
  have t2 := Stp.new (o := .lst (rgV 0 (n : Int))) t1.s hq
  exact k _ _ _ (t1.trans t2.up) (t2.j j1) (.lst upd_same rp_rg)
theorem cutD_take (ds : List PyData) (n : Nat) : cutD ds none (some (n : Int)) = ds.take n := by
  unfold cutD
  rw [HT.sIx_none, HT.sIx_nat, List.drop_zero, Nat.sub_zero]
  by_cases h : n ≤ ds.length
  · rw [Nat.min_eq_left h]
  · rw [Nat.min_eq_right (by omega), List.take_of_length_le (Nat.le_refl _), List.take_of_length_le (by omega)]
theorem perm_unmap {α β : Type} {f : α → β} {es ms : List β} (h : es.Perm ms) : ∀ l : List α, ms = l.map f → ∃ l2 : List α, l2.Perm l ∧ es = l2.map f := by
  induction h with
  | nil =>
    intro l e
    exact ⟨l, .refl _, e⟩
  | cons x h ih =>
    intro l e
    cases l with
    | nil => cases e
    | cons a r =>
      rw [List.map_cons] at e
      obtain ⟨e1, e2⟩ := List.cons.inj e
      obtain ⟨l2, p, e3⟩ := ih r e2
      exact ⟨a :: l2, p.cons a, by rw [List.map_cons, e1, e3]⟩
  | swap x y l0 =>
    intro l e
    cases l with
    | nil => cases e
    | cons a r =>
      cases r with
      | nil => cases e
      | cons b r =>
        rw [List.map_cons, List.map_cons] at e
        obtain ⟨e1, e2⟩ := List.cons.inj e
        obtain ⟨e3, e4⟩ := List.cons.inj e2
        exact ⟨b :: a :: r, .swap _ _ _, by rw [List.map_cons, List.map_cons, e1, e3, e4]⟩
  | trans h1 h2 ih1 ih2 =>
    intro l e
    obtain ⟨l2, p2, e2⟩ := ih2 l e
    obtain ⟨l3, p3, e3⟩ := ih1 l2 e2
    exact ⟨l3, p3.trans p2, e3⟩
/-- any fact of an int, as a number of several -/
theorem rp_ex_nat {G : Hp} {v : V} {P : Nat → Prop} (h : (ex P fun n : Nat => dat (.int (n : Int))).p G v) : ∃ n : Nat, P n ∧ v = .int (n : Int) := by
  obtain ⟨n, hn, p⟩ := h
  exact ⟨n, hn, Rp.int_inv p⟩
end
end Ls
/-! F19 -/
set_option maxHeartbeats 1000000
namespace Ls
open PySem PySem.Spec PyProof.Rows L2
section
variable {P : Program} {w : World} {K : PySem.W.Frag} {mg : Str → Option Value} {base : Heap}
/-! ### _law_alphabet -/
def sp_l_alphabet : Sp := fun vs H Q E => ∃ (bag L : Addr) (ns : List Int), spA (bagA bag L ns) [isV (.ref bag), dat (.int 3)] (ex AlOk fun cs => dat (.str (aS cs))) vs H Q E
abbrev N_l_alphabet : List Str := ["_law_bag", "_law_most", "_law_abc", "_law_many", "_law_first", "_law_second", "_law_at"]
theorem sc_l_alphabet : FnScope ["_law_bag", "_law_most", "_law_abc", "_law_many", "_law_first", "_law_second", "_law_at"] ["_law_bag", "_law_most"] (defScope s_l_alphabet) := ⟨rfl, rfl, rfl, by decide +kernel, rfl, by decide +kernel, by decide +kernel⟩
/-- one pull -/
theorem xe_pull {bag L : Addr} {ns : List Int} {ρ : Env} {te : TE} {E : XK} {m i : Nat} (hi : ρ[i]? = some (some (isV (.ref bag)))) (h0 : 0 < m) (h1 : m ≤ 1000000) (h : XE (bagA bag L ns) te ρ (dat (.int (m : Int)))) : XE (bagA bag L ns) (tCall sp_l_pull [] E (tCons (tVar i) (tCons te tNil))) ρ (ex (fun r : Nat => r < m) fun r => dat (.int (r : Int))) :=
  xe_call (φ := ex (fun r : Nat => r < m) fun r => dat (.int (r : Int))) (xa_cons (xe_var hi) (xa_cons h xa_nil)) fun vs H Q h => ⟨bag, L, ns, m, h0, h1, h⟩
def Sub3 (a b : Nat) (many : Nat) (l : List Nat) : Prop := ∃ c, b < c ∧ c ≤ b + 2 ∧ l = [a, b, c].take many
theorem ok_l_alphabet {f : Addr} {fd : FuncData} (F : FnP K "_law_alphabet" "_law_alphabet" s_l_alphabet [] [] f fd) (T : Fx K mg) (F_l_pull : Fn P w K mg base "_law_pull" 1 ["_law_bag", "_law_sides"] [] sp_l_pull) (F_l_any : Fn P w K mg base "_law_any" 2 ["_law_bag", "_law_rows_here"] [] sp_l_any) : FnOk P w K mg base CX0 3 f fd ["_law_bag", "_law_most"] sp_l_alphabet := by
  refine F.ok sc_l_alphabet (fun vs H Q E h => ?_) (fun cdv A outer st H vs Q E hr h => ?_)
  · obtain ⟨_, _, _, h⟩ := h
    exact spA_len h
  · obtain ⟨bag, L, ns, G, sG, jG, ps, k⟩ := h
    obtain ⟨v1, v2, rfl, p1, p2⟩ := ps_two ps
    refine ⟨_, PSs.nox (pss_cons (ps_set (i := 2) sc_l_alphabet.nd rfl (Or.inr rfl) pe_str)
  (pss_cons (ps_set (i := 3) sc_l_alphabet.nd rfl (Or.inl rfl) (pe_callB (call_min2Q rfl) (by rfl) T.b_min bt_min (pa_cons (pv 1) (pa_cons (pe_fn F_l_any (hr.mono (by decide)) rfl (pa_cons (pv 0) (pa_cons (pe_lst (pa_cons pe_int (pa_cons pe_int (pa_cons pe_int (pa_cons pe_int (pa_cons pe_int (pa_cons pe_int pa_nil))))))) pa_nil))) pa_nil))))
  (pss_cons (ps_set (i := 4) sc_l_alphabet.nd rfl (Or.inl rfl) (pe_fn F_l_pull (hr.mono (by decide)) rfl (pa_cons (pv 0) (pa_cons pe_int pa_nil))))
  (pss_cons (ps_set (i := 5) sc_l_alphabet.nd rfl (Or.inl rfl) (pe_op op_add (pe_op op_add (pv 4) pe_int) (pe_fn F_l_pull (hr.mono (by decide)) rfl (pa_cons (pv 0) (pa_cons pe_int pa_nil)))))
  (pss_one (ps_ret (pe_joinK K pe_str (pe_lc (own := [("_law_at", 6)]) (by rfl) sc_l_alphabet.nd (pi_listK K (pe_slice (sl_listK K) (pe_lst (pa_cons (pv 4) (pa_cons (pv 5) (pa_cons (pe_op op_add (pe_op op_add (pv 5) pe_int) (pe_fn F_l_pull (hr.mono (by decide)) rfl (pa_cons (pv 0) (pa_cons pe_int pa_nil)))) pa_nil)))) po_none (po_some (pv 3)))) (blkOk_by (by kernel_rfl)) (fun _ _ _ _ _ => (pg_name (i := 6) sc_l_alphabet.nd rfl (Or.inl rfl))) (fun _ _ _ _ _ => pts_nil) (fun _ _ _ _ _ => (pe_ix ix_str (pv 2) (pv 6) (fun _ _ => rfl))))))))))), ?_⟩
    have a : At (bagA bag L ns) G H G H _ [some (isV (.ref bag)), some (dat (.int 3)), none, none, none, none, none] := At.begin (vs := [v1, v2]) (N := N_l_alphabet) ((EnvOk.nil.skip.skip.skip.skip.skip.cons p2).cons p1) sG jG
    refine q_asg a xe_str fun v G1 H1 st1 _ a1 => ?_
    refine q_asgEx (P := fun m : Nat => 1 ≤ m ∧ m ≤ 3) (f := fun m => dat (.int (m : Int))) a1 (xe_cb (xa_cons (xe_var rfl) (xa_cons (xe_call (φ := ex (fun d => d ∈ [PyData.int 2, .int 1, .int 2, .int 3, .int 2, .int 3]) fun d => dat d) (xa_cons (xe_var rfl) (xa_cons (xe_lst (ds := [.int 2, .int 1, .int 2, .int 3, .int 2, .int 3]) (xa_cons xe_int (xa_cons xe_int (xa_cons xe_int (xa_cons xe_int (xa_cons xe_int (xa_cons xe_int xa_nil)))))) (by show 6 ≤ 1000; decide)) xa_nil)) fun vs H Q h => ⟨bag, L, ns, .inl ⟨_, by decide, by decide, h⟩⟩) xa_nil)) (xc_ex2 fun d hd => ?_)) (fun m _ => xg_name (List.mem_singleton.mpr rfl)) fun many hm σ2 G2 H2 st2 a2 => ?_
    · simp only [List.mem_cons, List.not_mem_nil, or_false] at hd
      rcases hd with rfl | rfl | rfl | rfl | rfl | rfl
      · exact ⟨2, by decide, xc_min (a := 3) (b := 2)⟩
      · exact ⟨1, by decide, xc_min (a := 3) (b := 1)⟩
      · exact ⟨2, by decide, xc_min (a := 3) (b := 2)⟩
      · exact ⟨3, by decide, xc_min (a := 3) (b := 3)⟩
      · exact ⟨2, by decide, xc_min (a := 3) (b := 2)⟩
      · exact ⟨3, by decide, xc_min (a := 3) (b := 3)⟩
    refine q_asgEx (P := fun m : Nat => m < 20) (f := fun m => dat (.int (m : Int))) a2 (xe_pull (m := 20) rfl (by decide) (by decide) xe_int) (fun m _ => xg_name (List.mem_singleton.mpr rfl)) fun x hx σ3 G3 H3 st3 a3 => ?_
    refine q_asgEx (P := fun m : Nat => x < m ∧ m ≤ x + 3) (f := fun m => dat (.int (m : Int))) a3 (xe_op (xe_op (xe_var rfl) xe_int xr_add) (xe_pull (m := 3) rfl (by decide) (by decide) xe_int) (xr_ex0 fun r hr => ⟨x + 1 + r, by omega, xr_add⟩)) (fun m _ => xg_name (List.mem_singleton.mpr rfl)) fun y hy σ4 G4 H4 st4 a4 => ?_
    refine s_ret (φ := ex AlOk fun cs => dat (.str (aS cs))) a4 (xe_joinX (xe_exm (xe_lcX (α := Nat) (β := Nat) (P := Sub3 x y many) (ψ := fun n => dat (.int (n : Int))) (E := fun n c => c = 97 + n) (e := fun c => .str (sg c)) (ρx := fun n : Nat => [some (isV (.ref bag)), some (dat (.int 3)), some (dat (.str LET)), some (dat (.int (many : Int))), some (dat (.int (x : Int))), some (dat (.int (y : Int))), some (dat (.int (n : Int)))]) (js := [6]) bag_nf (xix_list (e := fun n : Nat => .int (n : Int)) (xe_exm (xe_slLX (α := Nat) (P := fun c => y < c ∧ c ≤ y + 2) (f := fun c : Nat => [.int (x : Int), .int (y : Int), .int (c : Int)]) (lo := none) (hi := some (many : Int)) (xe_lstX (φs := [dat (.int (x : Int)), dat (.int (y : Int)), ex (fun c : Nat => y < c ∧ c ≤ y + 2) fun c => dat (.int (c : Int))]) (xa_cons (xe_var rfl) (xa_cons (xe_var rfl) (xa_cons (xe_op (xe_op (xe_var rfl) xe_int xr_add) (xe_pull (m := 2) rfl (by decide) (by decide) xe_int) (xr_ex0 fun r hr => ⟨y + 1 + r, by omega, xr_add⟩)) xa_nil))) (by show 3 ≤ 1000; decide) fun G vs h => ?_) xo_none (xo_some (xe_var rfl))) fun c hc G v p => ?_)) ?_ ?_ ?_) fun l hl G v p => ?_) ?_) fun v G5 H5 st5 j5 p5 => k v G5 H5 st5 j5 p5
    · cases h with
      | cons q1 h =>
        cases h with
        | cons q2 h =>
          cases h with
          | cons q3 h =>
            cases h
            obtain ⟨c, hc, q3⟩ := q3
            exact ⟨c, hc, .cons q1 (.cons q2 (.cons q3 .nil))⟩
    · refine ⟨[x, y, c].take many, ⟨c, hc.1, hc.2, rfl⟩, ?_⟩
      have em : many = 1 ∨ many = 2 ∨ many = 3 := by omega
      rcases em with rfl | rfl | rfl <;> exact p
    · rintro l ⟨c, h1, h2, rfl⟩
      rw [List.length_take]
      exact Nat.le_trans (Nat.min_le_right _ _) (by show 3 ≤ 100000; decide)
    · exact fun j hj => hj
    · rintro l ⟨c, h1, h2, rfl⟩ n hn
      refine ⟨xg_name (List.mem_singleton.mpr rfl), ?_⟩
      have hn2 : n < 26 := by
        have := List.mem_of_mem_take hn
        simp only [List.mem_cons, List.not_mem_nil, or_false] at this
        omega
      have hs : LET.cps.toList[((n : Nat) : Int).toNat]? = some (97 + n) := by
        have q : ∀ i : _root_.Fin 26, LET.cps.toList[(i.val : Int).toNat]? = some (97 + i.val) := by decide +kernel
        exact q ⟨n, hn2⟩
      exact xe_toEx (97 + n) rfl (xe_op (xe_var rfl) (xe_var rfl) (xr_ixS (by decide +kernel) (by omega) hs))
    · obtain ⟨l0, ⟨c, h1, h2, rfl⟩, hl, he⟩ := hl
      have e : l = ([x, y, c].take many).map fun n => 97 + n := by
        refine List.ext_getElem? fun i => ?_
        rw [List.getElem?_map]
        by_cases hi : i < l.length
        · have e1 : l[i]? = some l[i] := List.getElem?_eq_getElem hi
          have e2 : ([x, y, c].take many)[i]? = some (([x, y, c].take many)[i]'(by omega)) := List.getElem?_eq_getElem _
          have := he i _ _ e2 e1
          rw [e1, e2, this]
          rfl
        · rw [List.getElem?_eq_none (by omega), List.getElem?_eq_none (by omega)]
          rfl
      refine ⟨l, ?_, p⟩
      rw [e]
      have em : many = 1 ∨ many = 2 ∨ many = 3 := by omega
      rcases em with rfl | rfl | rfl
      · refine ⟨by simp, by simp, fun c hc => ?_, by simp⟩
        simp at hc
        omega
      · refine ⟨by simp, by simp, fun c hc => ?_, by simp; omega⟩
        simp at hc
        omega
      · refine ⟨by simp, by simp, fun c hc => ?_, by simp; omega⟩
        simp at hc
        omega
    · exact fun l h => Nat.le_trans h.three (by decide)
end
end Ls
/-! Rs -/
set_option maxHeartbeats 1000000
namespace Ls
open PySem PySem.Spec PyProof.Rows L2
/-! ### _law_rows: the plain side -/
structure RsAt (n : Nat) (cs : List Nat) (i j : Nat) (trs : List Tr) : Prop where
  ok : ∀ t ∈ trs, TrOk n cs t ∧ (t.1 < i ∨ (t.1 = i ∧ ∃ j', j' < j ∧ cs[j']? = some t.2.1))
  nd : (trs.map fun t => kT3 t.1 t.2.1 t.2.2.1).Nodup
  all : ∀ s c, (s < i ∧ c ∈ cs) ∨ (s = i ∧ ∃ j', j' < j ∧ cs[j']? = some c) → mvs trs s c ≠ []
  len : trs.length ≤ (i * cs.length + j) * 3
structure PartOf (s c : Nat) (gs : List Nat) (part : List Tr) : Prop where
  len : part.length = gs.length
  at_ : ∀ (k : Nat) g t, gs[k]? = some g → part[k]? = some t → ∃ b, t = (s, c, g, b)
theorem PartOf.mem {s c : Nat} {gs : List Nat} {part : List Tr} (h : PartOf s c gs part) {t : Tr} (m : t ∈ part) : t.1 = s ∧ t.2.1 = c ∧ t.2.2.1 ∈ gs := by
  obtain ⟨k, hk⟩ := List.mem_iff_getElem?.mp m
  have hlt := (List.getElem?_eq_some_iff.mp hk).1
  have hg : gs[k]? = some (gs[k]'(by have := h.len; omega)) := List.getElem?_eq_getElem _
  obtain ⟨b, e⟩ := h.at_ k _ t hg hk
  rw [e]
  exact ⟨rfl, rfl, List.getElem_mem _⟩
theorem PartOf.goals {s c : Nat} {gs : List Nat} {part : List Tr} (h : PartOf s c gs part) : part.map (fun t => t.2.2.1) = gs := by
  refine List.ext_getElem? fun k => ?_
  rw [List.getElem?_map]
  by_cases hk : k < gs.length
  · have hg : gs[k]? = some gs[k] := List.getElem?_eq_getElem hk
    have hp : part[k]? = some (part[k]'(by have := h.len; omega)) := List.getElem?_eq_getElem _
    obtain ⟨b, e⟩ := h.at_ k _ _ hg hp
    rw [hg, hp, e]
    rfl
  · have hl := h.len
    rw [List.getElem?_eq_none (l := part) (by omega), List.getElem?_eq_none (by omega)]
    rfl
theorem PartOf.nd {s c : Nat} {gs : List Nat} {part : List Tr} (h : PartOf s c gs part) (n : gs.Nodup) : (part.map fun t => kT3 t.1 t.2.1 t.2.2.1).Nodup := by
  rw [← h.goals] at n
  unfold List.Nodup at *
  rw [List.pairwise_map] at *
  exact n.imp fun hne e => hne (kT3_inj.mp e).2.2
theorem mvs_app (l m : List Tr) (s c : Nat) : mvs (l ++ m) s c = mvs l s c ++ mvs m s c := by
  unfold mvs
  rw [List.filter_append, List.map_append]
theorem mvs_ne {l : List Tr} {s c : Nat} : mvs l s c ≠ [] ↔ ∃ t ∈ l, t.1 = s ∧ t.2.1 = c := by
  unfold mvs
  constructor
  · intro h
    obtain ⟨x, hx⟩ := List.exists_mem_of_ne_nil _ h
    obtain ⟨t, ht, _⟩ := List.mem_map.mp hx
    obtain ⟨h1, h2⟩ := List.mem_filter.mp ht
    obtain ⟨h3, h4⟩ := Bool.and_eq_true_iff.mp h2
    exact ⟨t, h1, of_decide_eq_true h3, of_decide_eq_true h4⟩
  · rintro ⟨t, ht, h1, h2⟩ e
    have m : t ∈ l.filter fun t => decide (t.1 = s) && decide (t.2.1 = c) := List.mem_filter.mpr ⟨ht, by rw [decide_eq_true h1, decide_eq_true h2]; rfl⟩
    have : t.2.2 ∈ ([] : List (Nat × Bool)) := by
      rw [← e]
      exact List.mem_map.mpr ⟨t, m, rfl⟩
    cases this
theorem RsAt.zero {n : Nat} {cs : List Nat} : RsAt n cs 0 0 [] := by
  refine ⟨fun t h => ?_, List.Pairwise.nil, fun s c h => ?_, Nat.zero_le _⟩
  · cases h
  · rcases h with ⟨h, _⟩ | ⟨_, j, h, _⟩
    · exact absurd h (Nat.not_lt_zero _)
    · exact absurd h (Nat.not_lt_zero _)
theorem RsAt.next {n : Nat} {cs : List Nat} {i : Nat} {trs : List Tr} (h : RsAt n cs i cs.length trs) : RsAt n cs (i + 1) 0 trs := ⟨fun t ht => ⟨(h.ok t ht).1, .inl (by
  rcases (h.ok t ht).2 with z | z <;> omega)⟩, h.nd, fun s c q => by
    rcases q with ⟨q, m⟩ | ⟨_, _, q, _⟩
    · by_cases e : s = i
      · obtain ⟨k, hk⟩ := List.mem_iff_getElem?.mp m
        exact h.all s c (.inr ⟨e, k, (List.getElem?_eq_some_iff.mp hk).1, hk⟩)
      · exact h.all s c (.inl ⟨by omega, m⟩)
    · omega, by
    have := h.len
    have e : (i + 1) * cs.length + 0 = i * cs.length + cs.length := by rw [Nat.succ_mul]; rfl
    rw [e]
    exact this⟩
theorem RsAt.step {n : Nat} {cs : List Nat} {i j c : Nat} {trs part : List Tr} {gs : List Nat} (A : AlOk cs) (hi : i < n) (hc : cs[j]? = some c) (h : RsAt n cs i j trs) (p : PartOf i c gs part) (g1 : gs.Nodup) (g2 : ∀ g ∈ gs, g < n) (g3 : gs ≠ []) (g4 : gs.length ≤ 3) : RsAt n cs i (j + 1) (trs ++ part) := by
  refine ⟨fun t ht => ?_, ?_, fun s d q => ?_, ?_⟩
  · rcases List.mem_append.mp ht with z | z
    · refine ⟨(h.ok t z).1, ?_⟩
      rcases (h.ok t z).2 with y | ⟨y, j', hj, e⟩
      · exact .inl y
      · exact .inr ⟨y, j', by omega, e⟩
    · obtain ⟨e1, e2, e3⟩ := p.mem z
      exact ⟨⟨by rw [e1]; exact hi, by rw [e2]; exact List.mem_of_getElem? hc, g2 _ e3⟩, .inr ⟨e1, j, Nat.lt_succ_self _, by rw [e2]; exact hc⟩⟩
  · rw [List.map_append]
    refine List.nodup_append.mpr ⟨h.nd, p.nd g1, fun a ha b hb e => ?_⟩
    obtain ⟨t, ht, rfl⟩ := List.mem_map.mp ha
    obtain ⟨u, hu, rfl⟩ := List.mem_map.mp hb
    obtain ⟨e1, e2, _⟩ := kT3_inj.mp e
    obtain ⟨u1, u2, _⟩ := p.mem hu
    rcases (h.ok t ht).2 with y | ⟨y, j', hj, e3⟩
    · omega
    · rw [e2, u2] at e3
      obtain ⟨l1, m1⟩ := List.getElem?_eq_some_iff.mp e3
      obtain ⟨l2, m2⟩ := List.getElem?_eq_some_iff.mp hc
      have := List.pairwise_iff_getElem.mp A.up j' j l1 l2 hj
      omega
  · rw [mvs_app]
    intro e
    obtain ⟨e1, e2⟩ := List.append_eq_nil_iff.mp e
    rcases q with q | ⟨q, j', hj, e3⟩
    · exact h.all s d (.inl q) e1
    · by_cases z : j' = j
      · subst z
        rw [hc] at e3
        have ed : c = d := Option.some.inj e3
        refine mvs_ne.mpr ?_ e2
        obtain ⟨g, hg⟩ := List.exists_mem_of_ne_nil _ g3
        rw [← p.goals] at hg
        obtain ⟨t, ht, _⟩ := List.mem_map.mp hg
        exact ⟨t, ht, (p.mem ht).1.trans q.symm, (p.mem ht).2.1.trans ed⟩
      · exact h.all s d (.inr ⟨q, j', by omega, e3⟩) e1
  · rw [List.length_append, p.len]
    have := h.len
    omega
structure RsOk (n : Nat) (cs : List Nat) (trs : List Tr) : Prop where
  ok : ∀ t ∈ trs, TrOk n cs t
  nd : (trs.map fun t => kT3 t.1 t.2.1 t.2.2.1).Nodup
  all : ∀ s c, s < n → c ∈ cs → mvs trs s c ≠ []
  len : trs.length ≤ n * cs.length * 3
theorem RsAt.done {n : Nat} {cs : List Nat} {trs : List Tr} (h : RsAt n cs n 0 trs) : RsOk n cs trs := ⟨fun t ht => (h.ok t ht).1, h.nd, fun s c h1 h2 => h.all s c (.inl ⟨h1, h2⟩), by
  have := h.len
  rw [Nat.add_zero] at this
  exact this⟩
end Ls
/-! F20 -/
set_option maxHeartbeats 1000000
namespace Ls
open PySem PySem.Spec PyProof.Rows L2
section
variable {A : Amb} {ρ : Env} {te ta tb tc : TE} {tt tu : TT} {φ ψ χ : SP} {K : PySem.W.Frag} {G0 H0 G H : Hp} {σ : L2.St} {D : Ends} {t u tz tw : TS} {r : R2}
theorem s_asgEx {α : Type} {P : α → Prop} {f : α → SP} {g : TG} {js : List Nat} {ρ2 : α → Env} (a : At A G0 H0 G H σ ρ) (h : XE A te ρ (ex P f)) (hg : ∀ x, P x → XG g (f x) js ρ (ρ2 x)) (k : ∀ x, P x → ∀ σ2 G2 H2, Stp A G H G2 H2 → At A G0 H0 G2 H2 σ2 (ρ2 x) → D.nx σ2 H2) : tAsg te g D σ H := by
  show te σ H _
  refine a.e h fun v G2 H2 s a2 p => ?_
  obtain ⟨x, hx, p⟩ := p
  exact hg x hx G2 H2 σ v _ a2.env a2.s p fun σ2 E2 o => k x hx σ2 G2 H2 s (a2.re E2)
theorem ps_five {φ ψ χ ω ξ : SP} {G : Hp} {vs : List V} (h : Ps G vs [φ, ψ, χ, ω, ξ]) : ∃ v w u z y, vs = [v, w, u, z, y] ∧ φ.p G v ∧ ψ.p G w ∧ χ.p G u ∧ ω.p G z ∧ ξ.p G y := by
  cases h with
  | cons h r =>
    obtain ⟨w, u, z, y, e, h2, h3, h4, h5⟩ := ps_four r
    subst e
    exact ⟨_, _, _, _, _, rfl, h, h2, h3, h4, h5⟩
end
section
variable {P : Program} {w : World} {K : PySem.W.Frag} {mg : Str → Option Value} {base : Heap}
/-! ### _law_rows -/
def sp_l_rows : Sp := fun vs H Q E => ∃ (bag L : Addr) (ns : List Int) (cs : List Nat) (n safe : Nat) (g : Bool), AlOk cs ∧ 0 < n ∧ n ≤ 10 ∧ 0 < safe ∧ safe ≤ 1000 ∧ spA (bagA bag L ns) [isV (.ref bag), dat (.str (aS cs)), dat (.int (n : Int)), dat (.bool g), dat (.int (safe : Int))] (ex (RsOk n cs) fun trs => dat (.list (trs.map eTr))) vs H Q E
abbrev N_l_rows : List Str := ["_law_bag", "_law_alphabet_here", "_law_size", "_law_guesses", "_law_safe", "_law_rows_here", "_law_state", "_law_letter", "_law_many", "_law_goals", "_law_goal"]
theorem sc_l_rows : FnScope ["_law_bag", "_law_alphabet_here", "_law_size", "_law_guesses", "_law_safe", "_law_rows_here", "_law_state", "_law_letter", "_law_many", "_law_goals", "_law_goal"] ["_law_bag", "_law_alphabet_here", "_law_size", "_law_guesses", "_law_safe"] (defScope s_l_rows) := ⟨rfl, rfl, rfl, by decide +kernel, rfl, by decide +kernel, by decide +kernel⟩
theorem ok_l_rows {f : Addr} {fd : FuncData} (F : FnP K "_law_rows" "_law_rows" s_l_rows [] [] f fd) (T : Fx K mg) (F_l_pull : Fn P w K mg base "_law_pull" 1 ["_law_bag", "_law_sides"] [] sp_l_pull) (F_l_mixed : Fn P w K mg base "_law_mixed" 2 ["_law_bag", "_law_rows_here"] [] sp_l_mixed) : FnOk P w K mg base CX0 3 f fd ["_law_bag", "_law_alphabet_here", "_law_size", "_law_guesses", "_law_safe"] sp_l_rows := by
  refine F.ok sc_l_rows (fun vs H Q E h => ?_) (fun cdv A outer st H vs Q E hr h => ?_)
  · obtain ⟨_, _, _, _, _, _, _, _, _, _, _, _, h⟩ := h
    exact spA_len h
  · obtain ⟨bag, L, ns, cs, n, safe, g, al, hn0, hn, hs0, hs, G, sG, jG, ps, k⟩ := h
    obtain ⟨v1, v2, v3, v4, v5, rfl, p1, p2, p3, p4, p5⟩ := ps_five ps
    refine ⟨_, PSs.nox (pss_cons (ps_set (i := 5) sc_l_rows.nd rfl (Or.inl rfl) (pe_lst pa_nil))
  (pss_cons (ps_for PassesOwn.never (by rfl) (pi_range1 (by rfl) T.b_range (pa_cons (pv 2) pa_nil)) (pg_name (i := 6) sc_l_rows.nd rfl (Or.inr rfl)) (pss_one (ps_for PassesOwn.never (by rfl) (pi_str (pv 1)) (pg_name (i := 7) sc_l_rows.nd rfl (Or.inr rfl)) (pss_cons (ps_set (i := 8) sc_l_rows.nd rfl (Or.inl rfl) (pe_op op_add pe_int (pe_ifExp (pt_val (pv 3)) (pe_op op_mul (pe_fn F_l_pull (hr.mono (by decide)) rfl (pa_cons (pv 0) (pa_cons pe_int pa_nil))) (pe_fn F_l_pull (hr.mono (by decide)) rfl (pa_cons (pv 0) (pa_cons pe_int pa_nil)))) pe_int)))
  (pss_cons (ps_set (i := 9) sc_l_rows.nd rfl (Or.inl rfl) (pe_slice (sl_listK K) (pe_fn F_l_mixed (hr.mono (by decide)) rfl (pa_cons (pv 0) (pa_cons (pe_listRg rfl rfl T.b_list (prg_1 rfl T.b_range (pv 2))) pa_nil))) po_none (po_some (pv 8))))
  (pss_one (ps_set (i := 5) sc_l_rows.nd rfl (Or.inl rfl) (pe_op op_cat (pv 5) (pe_lc (own := [("_law_goal", 10)]) (by rfl) sc_l_rows.nd (pi_listK K (pv 9)) (blkOk_by (by kernel_rfl)) (fun _ _ _ _ _ => (pg_name (i := 10) sc_l_rows.nd rfl (Or.inl rfl))) (fun _ _ _ _ _ => pts_nil) (fun _ _ _ _ _ => (pe_tup (pa_cons (pv 6) (pa_cons (pv 7) (pa_cons (pv 10) (pa_cons (pe_ifExp (pt_cmpR op_eq (pe_fn F_l_pull (hr.mono (by decide)) rfl (pa_cons (pv 0) (pa_cons (pv 4) pa_nil))) pe_int (nomark _)) pe_str pe_str) pa_nil)))))))))))))))
  (pss_one (ps_ret (pv 5))))), ?_⟩
    have a : At (bagA bag L ns) G H G H _ [some (isV (.ref bag)), some (dat (.str (aS cs))), some (dat (.int (n : Int))), some (dat (.bool g)), some (dat (.int (safe : Int))), none, none, none, none, none, none] := At.begin (vs := [v1, v2, v3, v4, v5]) (N := N_l_rows) ((((((EnvOk.nil.skip.skip.skip.skip.skip.skip.cons p5).cons p4).cons p3).cons p2).cons p1)) sG jG
    refine q_asg (φ := dat (.list (([] : List Tr).map eTr))) a xe_lst0 fun v G1 H1 st1 _ a1 => ?_
    refine q_for (l := List.range n) a1 (xi_rangeT (xa_cons (xe_var rfl) xa_nil) (by omega))
      (fun i G' H' σ' => ∃ trs, RsAt n cs i 0 trs ∧ At (bagA bag L ns) G H G' H' σ' [some (isV (.ref bag)), some (dat (.str (aS cs))), some (dat (.int (n : Int))), some (dat (.bool g)), some (dat (.int (safe : Int))), some (dat (.list (trs.map eTr))), none, none, none, none, none]) (fun j G1 H1 σ1 ⟨_, _, h⟩ => h.s) (fun G6 H6 st6 => ⟨[], RsAt.zero, a1.step0 st6⟩) ?_ ?_
    · rintro i x G6 H6 σ6 hx ⟨trs0, R0, a6⟩ v7 G7 H7 st7 p7
      obtain ⟨hi, ex⟩ := List.getElem?_eq_some_iff.mp hx
      rw [List.length_range] at hi
      rw [List.getElem_range] at ex
      subst ex
      have a7 := (a6.step0 st7).re ((a6.step0 st7).env.set 6 p7)
      have xiS : ∀ {ρ : Env}, ρ[1]? = some (some (dat (.str (aS cs)))) → XI (iStr (tVar 1)) ρ (cs.map fun c => dat (.str (sg c))) := fun {ρ} h => by
        have := xi_strT (z := aS cs) (xe_var (A := A0) h)
        rw [aS_list] at this
        exact this
      refine s_for (l := cs) a7 (xiS rfl)
        (fun j G' H' σ' => ∃ trs, Same G6 G' ∧ RsAt n cs i j trs ∧ At (bagA bag L ns) G H G' H' σ' [some (isV (.ref bag)), some (dat (.str (aS cs))), some (dat (.int (n : Int))), some (dat (.bool g)), some (dat (.int (safe : Int))), some (dat (.list (trs.map eTr))), some (dat (.int (i : Int))), none, none, none, none]) (fun j G1 H1 σ1 ⟨_, _, _, h⟩ => h.s) (fun G8 H8 st8 => ⟨trs0, st7.g.trans st8.g, R0, a7.step0 st8⟩) ?_ ?_
      · rintro j c G8 H8 σ8 hc ⟨trs, s8, R, a8⟩ v9 G9 H9 st9 p9
        have a9 := (a8.step0 st9).re ((a8.step0 st9).env.set 7 p9)
        have hcs : cs.length ≤ 3 := al.three
        have hj : j < cs.length := (List.getElem?_eq_some_iff.mp hc).1
        -- many
        refine q_asgEx (P := fun m : Nat => 1 ≤ m ∧ m ≤ 3) (f := fun m => dat (.int (m : Int))) a9 (xe_op xe_int (xe_if (φ := ex (fun m : Nat => m ≤ 2) fun m => dat (.int (m : Int))) (xt_test (xe_var rfl)) (fun _ => xe_op (xe_pull (m := 2) rfl (by decide) (by decide) xe_int) (xe_pull (m := 3) rfl (by decide) (by decide) xe_int) (xr_exl fun x hx => xr_ex0 fun y hy => ⟨x * y, Nat.le_trans (Nat.mul_le_mul (Nat.le_of_lt_succ hx) (Nat.le_of_lt_succ hy)) (by decide), xr_I (fun _ => .int _) (.inl (by omega))⟩)) fun _ => xe_toEx 0 (by decide) xe_int) (xr_ex0 fun m hm => ⟨1 + m, by omega, xr_add⟩)) (fun m _ => xg_name (List.mem_singleton.mpr rfl)) fun many hm σ2 G2 H2 st2 a2 => ?_
        -- goals
        refine q_asgEx (P := fun gs : List Nat => gs.Nodup ∧ (∀ g ∈ gs, g < n) ∧ gs ≠ [] ∧ gs.length ≤ 3) (f := fun gs => dat (.list (gs.map fun g : Nat => .int (g : Int)))) a2 (xe_exm (xe_slLX (P := fun es : List PyData => es.Perm ((List.range n).map fun i : Nat => PyData.int (i : Int))) (f := fun es => es) (lo := none) (hi := some (many : Int)) (xe_call (φ := ex (fun es : List PyData => es.Perm ((List.range n).map fun i : Nat => PyData.int (i : Int))) fun es => dat (.list es)) (xa_cons (xe_var rfl) (xa_cons (xe_rg (xe_var rfl) (by omega)) xa_nil)) fun vs H Q h => ⟨bag, L, ns, _, by rw [List.length_map, List.length_range]; omega, h⟩) xo_none (xo_some (xe_var rfl))) fun es hes G v p => ?_) (fun m _ => xg_name (List.mem_singleton.mpr rfl)) fun gs hgs σ3 G3 H3 st3 a3 => ?_
        · obtain ⟨l2, pm, rfl⟩ := perm_unmap hes _ rfl
          refine ⟨l2.take many, ⟨?_, fun g hg => ?_, fun e => ?_, ?_⟩, ?_⟩
          · exact ((pm.nodup_iff).mpr List.nodup_range).sublist (List.take_sublist _ _)
          · exact List.mem_range.mp (pm.mem_iff.mp (List.mem_of_mem_take hg))
          · have h1 := congrArg List.length e
            rw [List.length_take, pm.length_eq, List.length_range] at h1
            simp at h1
            omega
          · rw [List.length_take]
            omega
          · rw [cutD_take, ← List.map_take] at p
            exact p
        -- rows
        refine s_asgEx (P := RsAt n cs i (j + 1)) (f := fun trs => dat (.list (trs.map eTr))) a3 (xe_op (xe_var rfl) (xe_lcX (α := Nat) (β := Tr) (P := fun l => l = gs) (ψ := fun g => dat (.int (g : Int))) (E := fun g t => ∃ b, t = (i, c, g, b)) (e := eTr) (ρx := fun g : Nat => [some (isV (.ref bag)), some (dat (.str (aS cs))), some (dat (.int (n : Int))), some (dat (.bool _)), some (dat (.int (safe : Int))), some (dat (.list (trs.map eTr))), some (dat (.int (i : Int))), some (dat (.str (sg c))), some (dat (.int (many : Int))), some (dat (.list (gs.map fun g : Nat => .int (g : Int)))), some (dat (.int (g : Int)))]) (js := [10]) bag_nf (XI.x (xi_listT (xe_var rfl))) (fun l h => ?_) (fun j hj => hj) (fun l h y hy => ⟨xg_name (List.mem_singleton.mpr rfl), ?_⟩)) (xr_ex0 fun part hp => ⟨trs ++ part, ?_, ?_⟩)) (fun m _ => xg_name (List.mem_singleton.mpr rfl)) fun trs2 R2 σ4 G4 H4 st4 a4 => ?_
        · subst h
          have := hgs.2.2.2
          omega
        · have hps : ∀ (ρ : Env), ρ[6]? = some (some (dat (.int (i : Int)))) → ρ[7]? = some (some (dat (.str (sg c)))) → ρ[10]? = some (some (dat (.int (y : Int)))) → ρ[0]? = some (some (isV (.ref bag))) → ρ[4]? = some (some (dat (.int (safe : Int)))) →
              XE (bagA bag L ns) (tTup (tCons (tVar 6) (tCons (tVar 7) (tCons (tVar 10) (tCons (tIf (tTest (tOp rEq (tCall sp_l_pull [] E0 (tCons (tVar 0) (tCons (tVar 4) tNil))) (tC (.int 0)))) (tC (.str "slip")) (tC (.str "safe"))) tNil))))) ρ (ex (fun t : Tr => ∃ b, t = (i, c, y, b)) fun t => dat (eTr t)) := fun ρ h6 h7 h10 h0 h4 => by
            refine xe_tupX (φs := [dat (.int (i : Int)), dat (.str (sg c)), dat (.int (y : Int)), ex (fun b : Bool => True) fun b => dat (.str (wS b))]) (xa_cons (xe_var h6) (xa_cons (xe_var h7) (xa_cons (xe_var h10) (xa_cons (xe_ifX (P := fun _ => True) (xe_op (xe_pull h0 hs0 (by omega) (xe_var h4)) xe_int (xr_exl fun r hr => ?_)) (fun _ => xe_toEx true trivial xe_str) fun _ => xe_toEx false trivial xe_str) xa_nil)))) (by show 4 ≤ 1000; decide) fun G vs h => ?_
            · exact fun G H x y Q s j hx hy k => xr_eqI G H x y Q s j hx hy fun v G2 H2 t j2 p => k v G2 H2 t j2 ⟨_, trivial, p⟩
            · obtain ⟨v1, v2, v3, v4, rfl, q1, q2, q3, b, _, q4⟩ := ps_four h
              exact ⟨(i, c, y, b), ⟨b, rfl⟩, .cons q1 (.cons q2 (.cons q3 (.cons q4 .nil)))⟩
          exact hps _ rfl rfl rfl rfl rfl
        · obtain ⟨l, rfl, hl, he⟩ := hp
          exact R.step al hi hc ⟨hl, fun k g t => he k g t⟩ hgs.1 hgs.2.1 hgs.2.2.1 hgs.2.2.2
        · obtain ⟨l, rfl, hl, he⟩ := hp
          have h1 := R.len
          have h2 := hgs.2.2.2
          have h3 : i * cs.length ≤ 10 * 3 := Nat.mul_le_mul (by omega) hcs
          have := xr_cat (A := bagA bag L ns) (ds := trs.map eTr) (es := part.map eTr) (by rw [List.length_map, List.length_map]; omega)
          rw [← List.map_append] at this
          exact this
        · exact ⟨G4, ((st9.g.trans st2.g).trans st3.g).trans st4.g, trs2, ((((s8.trans st9.g).trans st2.g).trans st3.g).trans st4.g), R2, a4.re (a4.env.sub (by repeat' constructor))⟩
      · rintro G8 H8 σ8 ⟨trs, s8, R, a8⟩
        exact ⟨G8, s8, trs, R.next, a8.re (a8.env.sub (by repeat' constructor))⟩
    · rintro G6 H6 σ6 ⟨trs, R, a6⟩
      rw [List.length_range] at R
      exact s_ret a6 (xe_toEx trs R.done (xe_var rfl)) fun v G7 H7 st7 j7 p7 => k v G7 H7 st7 j7 p7
end
end Ls
/-! F11 -/
set_option maxHeartbeats 4000000
namespace Ls
open PySem PySem.Spec PyProof.Rows L2
section
variable {P : Program} {w : World} {K : PySem.W.Frag} {mg : Str → Option Value} {base : Heap}
theorem nice_sg : Nice (fun c : Nat => 97 ≤ c ∧ c ≤ 122) (fun c => .str (sg c)) 0 := ⟨fun c h => let_sign h, fun _ _ => Nat.le_refl _, fun a b h h' => by
  rw [nice_str.eqv (sg a) (sg b) (let_sign h) (let_sign h')]
  by_cases e : a = b
  · rw [e]
    simp
  · rw [decide_eq_false e, decide_eq_false fun z => e (sg_inj.mp z)]⟩
theorem nice_lt : Nice (fun m : Nat × Nat => 97 ≤ m.1 ∧ m.1 ≤ 122) eLt 1 := (nice_tup2 nice_sg nice_nat).weak fun _ h => ⟨h, trivial⟩
theorem nice_lts : Nice (fun l : List (Nat × Nat) => ∀ m ∈ l, 97 ≤ m.1 ∧ m.1 ≤ 122) (fun l => .list (l.map eLt)) 2 := nice_lt.list
theorem sortable_lt (l : List (Nat × Nat)) (h : ∀ m ∈ l, 97 ≤ m.1 ∧ m.1 ≤ 122) : PySem.W.AllAlike (l.map eLt) ∧ PySem.W.Sortable (l.map eLt) ∧ ∀ d ∈ l.map eLt, d.depth ≤ 60 := by
  refine ⟨PySem.W.AllAlike.of fun b b' => by unfold eLt; simp [PySem.W.alike, PySem.W.alikeAll], PySem.W.Sortable.tuples fun b => ⟨_, _, rfl⟩, fun d hd => ?_⟩
  obtain ⟨b, hb, rfl⟩ := List.mem_map.mp hd
  exact Nat.le_trans (nice_lt.dep b (h b hb)) (by decide)
theorem bmvs_low {b : Brd} (ok : BrdOk b) (n : Nat) : ∀ m ∈ bmvs b.ms n, 97 ≤ m.1 ∧ m.1 ≤ 122 := fun m hm => by
  unfold bmvs at hm
  obtain ⟨t, ht, rfl⟩ := List.mem_map.mp hm
  exact (ok.ok t (List.mem_filter.mp ht).1).c
theorem q_fldLc {wi : TI} {g : TG} {tt : TT} {te ta : TE} {vs : List Nat} {f : Str} {tz : TS} {D : Ends} {σ : L2.St} {H : Hp}
    (h : wi σ H fun J H1 => ∀ L, H1 L = none → ∃ W : Nat → Nat → Hp → Prop, (∃ m, W 0 m (upd H1 L (.lst []))) ∧ ∀ i m H, W i m H → (J.stop i H ∧ (fun H3 => ta σ H3 fun x H2 => ∃ a C dx fs, x = .ref a ∧ H2 a = some (.ins C dx fs) ∧ Cls K C ∧ NoAttr K C f ∧ fs.length < 1000 ∧ tz D σ (upd H2 a (.ins C dx (L2.putF f (.ref L) fs)))) H) ∨
      (J.go i H ∧ ∃ Nx : Hp → Prop, (∀ H', Nx H' → ∃ m', m' < m ∧ W (i + 1) m' H') ∧ ∀ x H', J.yld i H x H' → g x (wipe σ vs) H' fun σ2 H2 => wipe σ2 vs = wipe σ vs ∧ tt σ2 H2 fun b H3 => if b = true then te σ2 H3 fun y H4 => ∃ acc, H4 L = some (.lst acc) ∧ acc.length < sizeLine ∧ Nx (upd H4 L (.lst (acc ++ [y]))) else Nx H3)) :
    tSeq (sFld K ta (tLc wi g tt te vs) f) tz D σ H := h
def sp_b_init (K : PySem.W.Frag) : Sp := fun vs H Q E => ∃ b : Brd, BrdOk b ∧ spI (He.ga K "Board") [dat (eNs b.ow), dat (.list (b.ms.map eBm))] (boardS K b) vs H Q E
abbrev N_b_init : List Str := ["self", "owners", "moves", "at", "owner", "seen", "row", "node", "_"]
theorem sc_b_init : FnScope ["self", "owners", "moves", "at", "owner", "seen", "row", "node", "_"] ["self", "owners", "moves"] (defScope s_b_init) := ⟨rfl, rfl, rfl, by decide +kernel, rfl, by decide +kernel, by decide +kernel⟩
theorem ok_b_init {f : Addr} {fd : FuncData} (F : FnP K "__init__" "Board.__init__" s_b_init [] [] f fd) (T : Fx K mg) (F_is_number : Fn P w K mg base "is_number" 1 ["value", "least", "most"] [] sp_is_number)
    (M_b_is_move : Md P w K mg base (He.ga K "Board") "is_move" 2 ["self", "row"] (sp_b_is_move K)) : FnOk P w K mg base CX0 3 f fd ["self", "owners", "moves"] (sp_b_init K) := by
  refine F.ok sc_b_init (fun vs H Q E h => ?_) (fun cdv A outer st H vs Q E hr h => ?_)
  · obtain ⟨_, _, h⟩ := h
    exact spI_len h
  · obtain ⟨b, ok, G, Hb, x, dx, us, hx, hdx, hne, rfl, rfl, sG, ps, k⟩ := h
    obtain ⟨v1, v2, rfl, p1, p2⟩ := ps_two ps
    refine ⟨_, PSs.nox (pss_cons (ps_if (PW.pt (pw_or (pt_not (pt_val (pe_callB (call_isiTK K) (by rfl) T.b_isinstance bt_isinstance (pa_cons (pv 1) (pa_cons (pe_tup (pa_cons (pe_bty "list" (by rfl) T.b_list bt_list) (pa_cons (pe_bty "tuple" (by rfl) T.b_tuple bt_tuple) pa_nil))) pa_nil))))) (pw_or1 (pt_not (pt_chain op_le op_le pe_int (pe_callB (call_lenK K) (by rfl) T.b_len PySem.boot_len (pa_cons (pv 1) pa_nil)) (pe_gint rfl T.mMN)))))) (pss_one ps_never) pss_nil)
  (pss_cons (ps_for PassesOwn.never (by rfl) (pi_enumK K (by rfl) T.b_enumerate (pa_cons (pv 1) pa_nil)) (pg_tupK K (n := 2) (by rfl) (pgs_cons (pg_name (i := 3) sc_b_init.nd rfl (Or.inl rfl)) (pgs_cons (pg_name (i := 4) sc_b_init.nd rfl (Or.inl rfl)) pgs_nil))) (pss_one (ps_if (pt_not (pt_val (pe_fn F_is_number (hr.mono (by decide)) rfl (pa_cons (pv 4) (pa_cons pe_int (pa_cons pe_int pa_nil)))))) (pss_one ps_never) pss_nil)))
  (pss_cons (ps_if (pt_not (pt_val (pe_callB (call_isiTK K) (by rfl) T.b_isinstance bt_isinstance (pa_cons (pv 2) (pa_cons (pe_tup (pa_cons (pe_bty "list" (by rfl) T.b_list bt_list) (pa_cons (pe_bty "tuple" (by rfl) T.b_tuple bt_tuple) pa_nil))) pa_nil))))) (pss_one ps_never) pss_nil)
  (pss_cons (ps_fld (pv 0) (pe_callTy (call_listK K) (by rfl) T.b_list bt_list (pa_cons (pv 1) pa_nil)) rfl)
  (pss_cons (ps_fld (pv 0) (pe_lc (own := [("_", 8)]) (by rfl) sc_b_init.nd (pi_listK K (pv 1)) (blkOk_by (by kernel_rfl)) (fun _ _ _ _ _ => (pg_name (i := 8) sc_b_init.nd rfl (Or.inl rfl))) (fun _ _ _ _ _ => pts_nil) (fun _ _ _ _ _ => (pe_lst pa_nil))) rfl)
  (pss_cons (ps_set (i := 5) sc_b_init.nd rfl (Or.inl rfl) pe_dnewT)
  (pss_cons (ps_for PassesOwn.never (by rfl) (pi_enumK K (by rfl) T.b_enumerate (pa_cons (pv 2) pa_nil)) (pg_tupK K (n := 2) (by rfl) (pgs_cons (pg_name (i := 3) sc_b_init.nd rfl (Or.inl rfl)) (pgs_cons (pg_name (i := 6) sc_b_init.nd rfl (Or.inl rfl)) pgs_nil))) (pss_cons (ps_if (PW.pt (pw_or (pt_not (pt_val (pe_md (pv 0) T.c_Board M_b_is_move (hr.mono (by decide)) (pa_cons (pv 6) pa_nil)))) (pw_or1 (pt_cmp (pc_din (hu_of hr) (pv 6) (pv 5)) rfl)))) (pss_one ps_never) pss_nil)
  (pss_cons (ps_dput (hu_of hr) (pv 5) (pv 6) pe_bl rfl)
  (pss_one (ps_expr (pe_bm PySem.F.plainAttrs_list PySem.F.slot_list_append PySem.F.type_list_append mt_append (pe_ix (ix_listK K) (pe_fldK K (pv 0) rfl) (pe_ix (ix_tupK K) (pv 6) pe_int (fun _ _ => rfl)) (fun _ _ => rfl)) (pa_cons (pe_slice (sl_tupK K) (pv 6) (po_some pe_int) po_none) pa_nil)))))))
  (pss_one (ps_for PassesOwn.never (by rfl) (pi_range1 (by rfl) T.b_range (pa_cons (pe_callB (call_lenK K) (by rfl) T.b_len PySem.boot_len (pa_cons (pv 1) pa_nil)) pa_nil)) (pg_name (i := 7) sc_b_init.nd rfl (Or.inl rfl)) (pss_cons (ps_if (pt_cmpR (op_eqDK K hr.units) (pe_ix (ix_listK K) (pe_fldK K (pv 0) rfl) (pv 7) (fun _ _ => rfl)) (pe_lst pa_nil) (nomark _)) (pss_one ps_never) pss_nil)
  (pss_one (ps_asg (pe_callB (cr_sortedDK K hr) (by rfl) T.b_sorted bt_sorted (pa_cons (pe_ix (ix_listK K) (pe_fldK K (pv 0) rfl) (pv 7) (fun _ _ => rfl)) pa_nil)) (pg_sub (pe_fldK K (pv 0) rfl) (pv 7) set_list))))))))))))), ?_⟩
    obtain ⟨a, m⟩ := init_begin (C := He.ga K "Board") (vs := [.ref x, v1, v2]) (N := N_b_init) (ρ := [some (isV (.ref x)), some (dat (eNs b.ow)), some (dat (.list (b.ms.map eBm))), none, none, none, none, none, none]) sG hx hdx hne (((EnvOk.nil.skip.skip.skip.skip.skip.skip.cons p2).cons p1).cons rfl)
    have one := ok.one
    have most := ok.most
    have sm := ok.sm
    -- the tests of owners
    refine q_no a (XT.to (xt_or (a := false) (xt_not (b := true) (xt_B (XE.to (xe_cb (xa_cons (xe_var (φ := dat (eNs b.ow)) rfl) (xa_cons (xe_tupV (cs := [.ty "list", .ty "tuple"]) (xa_cons xe_cv (xa_cons xe_cv xa_nil)) (by show 2 ≤ 1000; decide)) xa_nil)) (xc_isiT (d := eNs b.ow) (by simp [eNs]) kit_same kit_list_tuple)) rfl))) fun _ => xt_not (b := true) (xt_test ((xe_chain xe_int (xe_cb (xa_cons (xe_var rfl) xa_nil) xc_lenL) xr_le (fun _ => xe_int) (fun _ => xr_le)).to (by rw [List.length_map, decide_eq_true (by omega), decide_eq_true (by omega)]; rfl)))) rfl) fun G1 H1 st1 a1 => ?_
    refine q_for (l := b.ow.zipIdx) a1 (xi_enumT (e := fun i : Nat => .int (i : Int)) (xa_cons (xe_var rfl) xa_nil))
      (fun i G' H' σ' => At A0 G Hb G' H' σ' [some (isV (.ref x)), some (dat (eNs b.ow)), some (dat (.list (b.ms.map eBm))), none, none, none, none, none, none] ∧ Mkg G' H' (He.ga K "Board") x dx [] []) (fun i G1 H1 σ1 h => h.1.s) (fun G2 H2 st2 => ⟨a1.step0 st2, (m.step st1).step st2⟩) ?_ ?_
    · rintro i q G2 H2 σ2 hq ⟨a2, m2⟩ v3 G3 H3 st3 p3
      obtain ⟨o, i2⟩ := q
      obtain ⟨e1, ho⟩ := zipL_get hq
      have ho2 : o ≤ 1 := ok.ow o (List.mem_of_getElem? (show b.ow[i]? = some o from ho))
      have a3 := a2.step0 st3
      refine (xg_tup2 (by simp) (by simp) : XG _ _ [3, 4] _ _) G3 H3 σ2 v3 _ a3.env a3.s p3 fun σ4 E4 _ => ?_
      have a4 := a3.re E4
      refine s_no a4 (XT.to (xt_not (b := true) (xt_B (XE.to (xe_call (φ := dat (.bool (decide ((0 : Int) ≤ (o : Int)) && decide ((o : Int) ≤ 1)))) (xa_cons (xe_var rfl) (xa_cons xe_int (xa_cons xe_int xa_nil))) fun vs H Q h => ⟨_, _, _, h⟩) (by rw [decide_eq_true (by omega), decide_eq_true (by omega)]; rfl)))) rfl) fun G5 H5 st5 a5 => ?_
      exact ⟨G5, st3.g.trans st5.g, a5.sub (by repeat' constructor), (m2.step st3).step st5⟩
    · rintro G2 H2 σ2 ⟨a2, m2⟩
      refine q_no a2 (XT.to (xt_not (b := true) (xt_B (XE.to (xe_cb (xa_cons (xe_var rfl) (xa_cons (xe_tupV (cs := [.ty "list", .ty "tuple"]) (xa_cons xe_cv (xa_cons xe_cv xa_nil)) (by show 2 ≤ 1000; decide)) xa_nil)) (xc_isiT (by simp) kit_same kit_list_tuple)) rfl))) rfl) fun G3 H3 st3 a3 => ?_
      have m3 := m2.step st3
      -- self.own_owners = list(owners)
      refine q_fld a3 m3 hx rfl T.c_Board T.n_b1 (by decide +kernel) (by decide) (xe_cb (χ := dat (eNs b.ow)) (xa_cons (xe_var rfl) xa_nil) xc_list) fun u1 G4 H4 H4' st4 q4 e4 a4 m4 => ?_
      -- self.own_moves = [[] for _ in owners]
      refine q_fldLc ?_
      refine (xi_list (ds := b.ow.map fun i : Nat => .int (i : Int)) (xe_var (i := 1) rfl)) G4 H4' _ _ a4.env a4.s fun J G5 H5 st5 wk => ?_
      intro L hL
      have hlen : ((b.ow.map fun i : Nat => PyData.int (i : Int)).map dat).length = b.ow.length := by rw [List.length_map, List.length_map]
      rw [hlen] at wk
      have a5 := a4.step0 st5
      have m5 := m4.step st5
      obtain ⟨a6, w6, fL⟩ := a5.fresh (o := .lst []) hL
      have st6 : Stp A0 G5 H5 G5 (upd H5 L (.lst [])) := Stp.only a5.s (same_new hL)
      refine lc_it wk (fun i H' => ∃ (G' : Hp) (ls : List Addr), ls.length = i ∧ At A0 G Hb G' H' _ _ ∧ Same G5 G' ∧ Mkg G' H' (He.ga K "Board") x dx _ _ ∧ Fam Hb G' H' ls (List.replicate i []) ∧ L ∉ ls ∧ Own G' H' L (.lst (ls.map V.ref)))
        ⟨G5, [], rfl, a6, Same.refl _, m5.step st6, ⟨rfl, List.nodup_nil, fun i l xs h => by simp at h, fun l h => by simp at h⟩, by simp, w6⟩ (fun i H' _ ⟨G', ls, _, a', s', _⟩ => s'.trans a'.s) ?_ ?_
      · rintro i z H7 H8 hi ⟨G7, ls, hls, a7, s7, m7, f7, nL, w7⟩ y
        obtain ⟨φ, hφ⟩ : ∃ φ, ((b.ow.map fun i : Nat => PyData.int (i : Int)).map dat)[i]? = some φ := ⟨_, List.getElem?_eq_getElem (by rw [hlen]; exact hi)⟩
        obtain ⟨G8, st8, p8⟩ := y G7 φ s7 a7.s hφ
        refine ⟨(Off.set (js := [8]) (by simp)).wipe (by simp), tYes_if ⟨Nat.zero_le _, fun p hp => ?_⟩⟩
        have a8 := a7.step0 st8
        have w8 := w7.step0 st8
        have f8 := f7.step st8
        have neL : L ≠ p := fun e => by
          rw [← e, w8.h] at hp
          cases hp
        have pls : p ∉ ls := fun hm => by
          obtain ⟨j, hj⟩ := List.mem_iff_getElem?.mp hm
          obtain ⟨xs, _, w⟩ := f8.at_ hj
          rw [w.h] at hp
          cases hp
        obtain ⟨a9, w9, fp⟩ := a8.fresh (o := .lst []) hp
        have st9 : Stp A0 G8 H8 G8 (upd H8 p (.lst [])) := Stp.only a8.s (same_new hp)
        have wL9 := w8.step0 st9
        refine ⟨ls.map V.ref, wL9.h, Nat.lt_of_le_of_lt (show (ls.map V.ref).length ≤ 1000 by rw [List.length_map, hls]; omega) (by decide), G8, ls ++ [p], by simp [hls], ?_⟩
        obtain ⟨a10, w10⟩ := a9.mut (o' := .lst (ls.map V.ref ++ [.ref p])) wL9 fL nb0
        have f9 := (f8.step st9).snoc w9 pls fp
        have e10 : List.replicate i ([] : List V) ++ [[]] = List.replicate (i + 1) [] := by rw [List.replicate_succ']
        rw [e10] at f9
        have nL2 : L ∉ ls ++ [p] := by
          rw [List.mem_append]
          rintro (h | h)
          · exact nL h
          · exact neL (List.mem_singleton.mp h)
        refine ⟨a10, s7.trans st8.g, ((m7.step st8).step st9).mut wL9 (fun fs e => by cases e) (fun e => by cases e), f9.mut nL2, nL2, ?_⟩
        rw [List.map_append]
        exact w10
      · rintro H7 ⟨G7, ls, hls, a7, s7, m7, f7, nL, w7⟩
        -- the field is set
        refine ⟨_, a7.own (i := 0) rfl, x, _, dx, _, rfl, m7.o.h, T.c_Board, T.n_b2, Nat.lt_of_le_of_lt zip_le (by decide), ?_⟩
        rw [putF_zip m7.l (by decide +kernel), show (([] : List Str) ++ (["own_owners"] : List Str) ++ (["own_moves"] : List Str)) = (["own_owners", "own_moves"] : List Str) from rfl, show (([] : List V) ++ [u1] ++ [V.ref L]) = [u1, .ref L] from rfl]
        obtain ⟨a8, w8⟩ := a7.mut (o' := .ins (He.ga K "Board") dx ((["own_owners", "own_moves"] : List Str).zip [u1, .ref L])) m7.o hx nb0
        have m8 : Mkg G7 (upd H7 x (.ins (He.ga K "Board") dx ((["own_owners", "own_moves"] : List Str).zip [u1, .ref L]))) (He.ga K "Board") x dx ["own_owners", "own_moves"] [u1, .ref L] := ⟨w8, m7.d.mut m7.ne, rfl⟩
        have neLx : L ≠ x := fun e => by
          have h := w7.h
          rw [e, m7.o.h] at h
          cases h
        have wL8 := w7.mut (l := x) (o' := .ins (He.ga K "Board") dx ((["own_owners", "own_moves"] : List Str).zip [u1, .ref L])) neLx
        have f8 : Fam Hb G7 (upd H7 x (.ins (He.ga K "Board") dx ((["own_owners", "own_moves"] : List Str).zip [u1, .ref L]))) ls _ := f7.mut (f7.out m7.o.h fun xs e => by cases e)
        have pu1 : Rp G7 u1 (eNs b.ow) := q4.mono (st5.g.trans s7)
        generalize upd H7 x (.ins (He.ga K "Board") dx ((["own_owners", "own_moves"] : List Str).zip [u1, .ref L])) = H8 at a8 m8 wL8 f8
        -- seen = {}
        refine q_dnew a8 fun Sn H9 nSn fSn w9 st9 a9 => ?_
        have neS : L ≠ Sn := fun e => by
          rw [← e, wL8.h] at nSn
          cases nSn
        -- for at, row in enumerate(moves)
        refine q_for (l := b.ms.zipIdx) a9 (xi_enumT (e := eBm) (xa_cons (xe_var rfl) xa_nil))
          (fun i G' H' σ' => At A0 G Hb G' H' σ' [some (isV (.ref x)), some (dat (eNs b.ow)), some (dat (.list (b.ms.map eBm))), none, none, some (isV (.ref Sn)), none, none, none] ∧ Mkg G' H' (He.ga K "Board") x dx ["own_owners", "own_moves"] [u1, .ref L] ∧ Own G' H' L (.lst (ls.map V.ref)) ∧ Same G7 G' ∧
            (∃ xss, Fam Hb G' H' ls xss ∧ ∀ (n : Nat) xs, xss[n]? = some xs → RpAll G' xs ((bmvs (b.ms.take i) n).map eLt)) ∧ ∃ kvs, Own G' H' Sn (.dT kvs) ∧ DF G' kvs (setF ((b.ms.take i).map fun t => kT3 t.1 t.2.1 t.2.2)) ∧ kvs.length ≤ i)
          (fun i G1 H1 σ1 h => h.1.s) (fun G10 H10 st10 => ⟨(a9.step0 st10).sub (by repeat' constructor), (m8.step st9).step st10, (wL8.step0 st9).step0 st10, st10.g, ⟨_, (f8.step st9).step st10, fun n xs hn => ?_⟩, [], w9.step0 st10, by rw [List.take_zero, List.map_nil, ← setF_nil]; exact DF.nil, Nat.zero_le _⟩) ?_ ?_
        · obtain ⟨h1, h2⟩ := List.getElem?_eq_some_iff.mp hn
          rw [List.getElem_replicate] at h2
          subst h2
          exact .nil
        · rintro i q G10 H10 σ10 hq ⟨a10, m10, wL10, s10, ⟨xss, f10, r10⟩, kvs, wS10, df10, hl10⟩ v11 G11 H11 st11 p11
          obtain ⟨t, i2⟩ := q
          obtain ⟨e1, ht⟩ := zipL_get hq
          have e1 : i2 = i := e1
          subst e1
          have ht : b.ms[i2]? = some t := ht
          have htm : t ∈ b.ms := List.mem_of_getElem? ht
          have hto := ok.ok t htm
          have hil : i2 < b.ms.length := (List.getElem?_eq_some_iff.mp ht).1
          have a11 := a10.step0 st11
          refine (xg_tup2 (by simp) (by simp) : XG _ _ [3, 6] _ _) G11 H11 σ10 v11 _ a11.env a11.s p11 fun σ12 E12 _ => ?_
          have a12 := a11.re E12
          have m12 := m10.step st11
          have wL12 := wL10.step0 st11
          have wS12 := wS10.step0 st11
          have f12 := f10.step st11
          have rowv : ∀ {ρ' : Env}, ρ'[6]? = some (some (dat (eBm t))) → XE A0 (tVar 6) ρ' (dat (.tuple [.int (t.1 : Int), .str (sg t.2.1), .int (t.2.2 : Int)])) := fun h => xe_var h
          have no : kT3 t.1 t.2.1 t.2.2 ∉ (b.ms.take i2).map fun t => kT3 t.1 t.2.1 t.2.2 := by
            intro hmem
            obtain ⟨t', ht', e⟩ := List.mem_map.mp hmem
            obtain ⟨j, hj⟩ := List.mem_iff_getElem?.mp ht'
            have hj2 := (List.getElem?_eq_some_iff.mp hj).1
            rw [List.length_take] at hj2
            rw [List.getElem?_take_of_lt (by omega)] at hj
            obtain ⟨e1, e2, e3⟩ := kT3_inj.mp e
            have et : t' = t := by
              obtain ⟨a1, b1, c1⟩ := t'
              obtain ⟨a2, b2, c2⟩ := t
              simp at e1 e2 e3
              rw [e1, e2, e3]
            rw [et] at hj
            obtain ⟨b1, c1⟩ := List.getElem?_eq_some_iff.mp hj
            obtain ⟨b2, c2⟩ := List.getElem?_eq_some_iff.mp ht
            have := (List.getElem_inj ok.nd).mp (c1.trans c2.symm)
            omega
          -- the test, over the object and the dict as they stand
          have sx : Same G11 (upd G11 x (.ins (He.ga K "Board") dx ((["own_owners", "own_moves"] : List Str).zip [u1, .ref L]))) := same_new m12.o.g
          have gS : (upd G11 x (.ins (He.ga K "Board") dx ((["own_owners", "own_moves"] : List Str).zip [u1, .ref L]))) Sn = none := by
            rw [upd_ne (fun e => by
              have h := wS12.h
              rw [e, m12.o.h] at h
              cases h)]
            exact wS12.g
          have sS := same_new (o := .dT kvs) gS
          have Ev := ((a12.env.mono sx).mono sS).put (j := 5) (a12.own (i := 5) rfl) (φ := dicS (setF ((b.ms.take i2).map fun t => kT3 t.1 t.2.1 t.2.2))) ⟨Sn, kvs, rfl, .inl upd_same, (df10.mono st11.g).mono (sx.trans sS)⟩
          have Ew := Ev.put (j := 0) (a12.own (i := 0) rfl) (φ := boardX K b anyS) ⟨x, dx, [u1, .ref L], rfl, sS _ _ upd_same, rfl, .cons ((pu1.mono (s10.trans st11.g)).mono (sx.trans sS)) (.cons trivial .nil)⟩
          refine q_noG a12 Ew (same_in (same_in a12.s m12.o.h) wS12.h) (XT.to (xt_or (a := false) (xt_not (b := true) (xt_B (xe_meth (φ := dat (.bool true)) (xe_var (i := 0) rfl) (by decide +kernel) (xa_cons (xe_var (φ := dat (eBm t)) rfl) xa_nil) fun vs H Q h => ⟨b, t, hto, most, h⟩))) fun _ => xt_B ((xe_din (k := kT3 t.1 t.2.1 t.2.2) (rowv rfl) (xe_var (i := 5) rfl)).to (by rw [setF_no no]))) rfl) fun H13 st13 a13 => ?_
          -- seen[row] = True
          refine q_dput (i := 5) (k := kT3 t.1 t.2.1 t.2.2) a13 (wS12.step0 st13) fSn rfl ((df10.mono st11.g).mono st13.g) (by omega) xe_bl (rowv rfl) fun G14 H14 kvs14 st14 hl14 df14 a14 wS14 => ?_
          have wL14 := ((wL12.step0 st13).step0 st14).mut (l := Sn) (o' := .dT kvs14) neS
          have wS0 := ((wS12.step0 st13).step0 st14)
          have m14 := ((m12.step st13).step st14).mut (o' := .dT kvs14) wS0 (fun fs e => by cases e) fun e => by cases e
          have f14 := ((f12.step st13).step st14).mut (l := Sn) (o := .dT kvs14) (((f12.step st13).step st14).out wS0.h fun xs e => by cases e)
          have r14 := fun (n : Nat) xs h => ((r10 n xs h).mono st11.g).mono (st13.g.trans st14.g)
          -- self.own_moves[row[0]].append(row[1:])
          obtain ⟨l, hl⟩ : ∃ l, ls[t.1]? = some l := ⟨ls[t.1]'(by rw [hls]; exact hto.a), List.getElem?_eq_getElem _⟩
          refine fld_item a14 m14 rfl T.c_Board T.n_b2 (f := "own_moves") (j := 1) (by decide +kernel) rfl wL14 (xe_op (rowv rfl) xe_int (xr_ixTn (n := 0) rfl)) (map_get hl) fun G15 H15 st15 a15 => ?_
          obtain ⟨xs15, hx15, w15⟩ := (f14.step st15).at_ hl
          refine ⟨.inl ⟨rfl, xs15, SqL.of w15.h⟩, ?_⟩
          refine a15.e (xe_slT (rowv rfl) (xo_some xe_int) xo_none (by show ¬ (HT.sIx 3 0 (some 1) = 0 ∧ HT.sIx 3 3 none = 3); decide)) fun v16 G16 H16 st16 a16 p16 => ?_
          have f16 := (f14.step st15).step st16
          obtain ⟨xs16, hx16, w16⟩ := f16.at_ hl
          have p16 : Rp G16 v16 (eLt t.2) := p16
          have ex : xs16 = xs15 := Option.some.inj (hx16.symm.trans hx15)
          subst ex
          have r16 := (r14 t.1 xs16 hx16).mono (st15.g.trans st16.g)
          have hlx : xs16.length ≤ 1000 := by
            rw [r16.length, List.length_map]
            unfold bmvs
            rw [List.length_map]
            exact Nat.le_trans (List.length_filter_le _ _) (by rw [List.length_take]; omega)
          refine ⟨l, xs16, v16, rfl, rfl, w16.h, Nat.lt_of_le_of_lt hlx (by decide), ?_⟩
          obtain ⟨a17, w17⟩ := a16.mut (o' := .lst (xs16 ++ [v16])) w16 (f16.fr l (List.mem_of_getElem? hl)) nb0
          have lL : L ≠ l := fun e => nL (by rw [e]; exact List.mem_of_getElem? hl)
          have lS : Sn ≠ l := fun e => by
            have h := ((wS14.step0 st15).step0 st16).h
            rw [e, w16.h] at h
            cases h
          refine ⟨G16, (((st11.g.trans st13.g).trans st14.g).trans st15.g).trans st16.g, a17.sub (by repeat' constructor), ((m14.step st15).step st16).mut w16 (fun fs e => by cases e) (fun e => by cases e), ((wL14.step0 st15).step0 st16).mut lL, ((((s10.trans st11.g).trans st13.g).trans st14.g).trans st15.g).trans st16.g, ⟨_, f16.set hl, fun n xs hn => ?_⟩, kvs14, ((wS14.step0 st15).step0 st16).mut lS, ?_, by omega⟩
          · rw [bmvs_next ht]
            by_cases q : n = t.1
            · subst q
              rw [List.getElem?_set_self (by rw [← f16.len]; exact (List.getElem?_eq_some_iff.mp hl).1)] at hn
              obtain rfl := Option.some.inj hn
              rw [if_pos rfl, List.map_append]
              exact r16.append (.cons p16 .nil)
            · rw [List.getElem?_set_ne (Ne.symm q)] at hn
              rw [if_neg q, List.append_nil]
              exact (r14 n xs hn).mono (st15.g.trans st16.g)
          · rw [setF_put] at df14
            rw [take_map_next ht]
            exact df14.mono (st15.g.trans st16.g)
        · rintro G10 H10 σ10 ⟨a10, m10, wL10, s10, ⟨xss, f10, r10⟩, _⟩
          rw [List.length_zipIdx, List.take_length] at r10
          -- for node in range(len(owners))
          refine s_for (l := List.range b.ow.length) a10 (xi_rangeT (xa_cons ((xe_cb (xa_cons (xe_var rfl) xa_nil) xc_lenL).to (by rw [List.length_map])) xa_nil) (by omega))
            (fun i G' H' σ' => At A0 G Hb G' H' σ' [some (isV (.ref x)), some (dat (eNs b.ow)), some (dat (.list (b.ms.map eBm))), none, none, some (isV (.ref Sn)), none, none, none] ∧ Mkg G' H' (He.ga K "Board") x dx ["own_owners", "own_moves"] [u1, .ref L] ∧ Same G7 G' ∧
              ∃ vs, vs.length = i ∧ Own G' H' L (.lst (vs ++ (ls.drop i).map V.ref)) ∧ RpAll G' vs ((List.range i).map (bmvD b.ms)) ∧ ∃ xs2, Fam Hb G' H' (ls.drop i) xs2 ∧ ∀ (n : Nat) xs, xs2[n]? = some xs → RpAll G' xs ((bmvs b.ms (i + n)).map eLt))
            (fun i G1 H1 σ1 h => h.1.s) (fun G11 H11 st11 => ⟨a10.step0 st11, m10.step st11, s10.trans st11.g, [], rfl, wL10.step0 st11, .nil, xss, f10.step st11, fun n xs h => by rw [Nat.zero_add]; exact (r10 n xs h).mono st11.g⟩) ?_ ?_
          · rintro i xi G11 H11 σ11 hxi ⟨a11, m11, s11, vs, hvs, wL11, rv11, xs2, f11, r11⟩ v12 G12 H12 st12 p12
            obtain ⟨hi, rfl⟩ := range_get hxi
            have a12 := (a11.step0 st12).re ((a11.step0 st12).env.set 7 p12)
            have hil : xi < ls.length := by rw [hls]; exact hi
            have hdr : ls.drop xi = ls[xi] :: ls.drop (xi + 1) := List.drop_eq_getElem_cons hil
            have wL12 := wL11.step0 st12
            have f12 := f11.step st12
            rw [hdr] at wL12 f12
            obtain ⟨xs0, xs2', rfl⟩ : ∃ a b, xs2 = a :: b := by
              cases xs2 with
              | nil =>
                have := f12.len
                rw [List.length_cons, List.length_nil] at this
                omega
              | cons a b => exact ⟨a, b, rfl⟩
            obtain ⟨fT, wl, nl⟩ := f12.tail
            -- the list of this node stands from now on
            obtain ⟨a13, s13⟩ := a12.seal wl (f12.fr _ List.mem_cons_self) nb0
            have m13 := (m11.step st12).seal wl (fun fs e => by cases e) fun e => by cases e
            have lL : L ≠ ls[xi] := fun e => nL (by rw [e]; exact List.getElem_mem hil)
            have wL13 := wL12.seal (l := ls[xi]) (o := .lst xs0) lL
            have fT13 := fT.seal (l := ls[xi]) (o := .lst xs0) nl
            have p13 : Rp (upd G12 ls[xi] (.lst xs0)) (.ref ls[xi]) (.list ((bmvs b.ms xi).map eLt)) := .lst upd_same (((r11 0 xs0 rfl).mono st12.g).mono s13)
            have hat : (vs ++ V.ref ls[xi] :: (ls.drop (xi + 1)).map V.ref)[xi]? = some (.ref ls[xi]) := by
              rw [List.getElem?_append_right (by omega), hvs, Nat.sub_self]
              rfl
            rw [List.map_cons] at wL13
            have low := bmvs_low ok xi
            generalize upd G12 ls[xi] (.lst xs0) = G13 at a13 s13 m13 wL13 fT13 p13
            -- if self.own_moves[node] == []
            have tst : ∀ {Q : Bool → Hp → Prop}, (∀ G2 H2, Stp A0 G13 H12 G2 H2 → Q false H2) → tTest (tOp (rEqD K) (tOp (rIxL K) (tFld K (tVar 0) "own_moves") (tVar 7)) (tLst tNil)) _ H12 Q := fun {Q} kk =>
              fld_item a13 m13 rfl T.c_Board T.n_b2 (f := "own_moves") (j := 1) (by decide +kernel) rfl wL13 (xe_var rfl) hat fun G14 H14 st14 a14 => xe_lst0 (A := A0) G14 H14 _ _ a14.env a14.s trivial fun y G15 H15 st15 _ p15 =>
                xr_eqD (A := A0) (nice_lts.shaped (by decide) low) (nice_lts.shaped (a := []) (by decide) (fun m hm => by cases hm)) G15 H15 _ y _ st15.s trivial ((p13.mono st14.g).mono st15.g) p15 fun v16 G16 H16 st16 _ p16 => ⟨false, by
                  have e := nice_lts.eqv (bmvs b.ms xi) [] low (fun m hm => by cases hm)
                  have e : PyData.eqv (.list ((bmvs b.ms xi).map eLt)) (.list (([] : List (Nat × Nat)).map eLt)) = false := e.trans (decide_eq_false (ok.all xi hi))
                  have p16 : Rp G16 v16 (.bool (PyData.eqv (.list ((bmvs b.ms xi).map eLt)) (.list (([] : List (Nat × Nat)).map eLt)))) := p16
                  rw [e] at p16
                  exact p16.bl_inv, kk G16 H16 ((st14.trans st15).trans st16)⟩
            refine tst fun G14 H14 st14 => ?_
            rw [if_neg Bool.false_ne_true]
            have a14 := a13.step0 st14
            have m14 := m13.step st14
            have wL14 := wL13.step0 st14
            have fT14 := fT13.step st14
            have p14 := p13.mono st14.g
            -- self.own_moves[node] = sorted(self.own_moves[node])
            obtain ⟨sa, sb, sc⟩ := sortable_lt (bmvs b.ms xi) low
            refine fld_item a14 m14 rfl T.c_Board T.n_b2 (f := "own_moves") (j := 1) (by decide +kernel) rfl wL14 (xe_var rfl) hat fun G15 H15 st15 a15 => ?_
            refine tNil_of ?_
            refine xc_sorted (A := A0) sa sb sc G15 H15 [.ref ls[xi]] _ a15.s trivial (.cons (p14.mono st15.g) .nil) fun z G16 H16 st16 _ p16 => ?_
            have a16 := a15.step0 st16
            have m16 := (m14.step st15).step st16
            have wL16 := (wL14.step0 st15).step0 st16
            have fT16 := (fT14.step st15).step st16
            refine fld_own a16 m16 rfl T.c_Board T.n_b2 (f := "own_moves") (j := 1) (by decide +kernel) rfl ?_
            refine a16.e (xe_var (φ := dat (.int (xi : Int))) rfl) fun y17 G17 H17 st17 a17 p17 => ?_
            have wL17 := wL16.step0 st17
            have hlen2 : (vs ++ V.ref ls[xi] :: (ls.drop (xi + 1)).map V.ref).length = ls.length := by
              rw [List.length_append, List.length_cons, List.length_map, List.length_drop, hvs]
              omega
            refine ⟨L, _, (xi : Int), xi, rfl, p17.int_inv, wL17.h, ixN_at (by rw [hlen2]; exact hil), ?_⟩
            have eset : (vs ++ V.ref ls[xi] :: (ls.drop (xi + 1)).map V.ref).set xi z = (vs ++ [z]) ++ (ls.drop (xi + 1)).map V.ref := by
              rw [List.set_append_right _ _ (by omega), hvs, Nat.sub_self, List.append_assoc]
              rfl
            rw [eset]
            obtain ⟨a18, wL18⟩ := a17.mut (o' := .lst ((vs ++ [z]) ++ (ls.drop (xi + 1)).map V.ref)) wL17 fL nb0
            have gg : Same G12 G17 := s13.trans (((st14.g.trans st15.g).trans st16.g).trans st17.g)
            refine ⟨G17, st12.g.trans gg, a18.sub (by repeat' constructor), (m16.step st17).mut wL17 (fun fs e => by cases e) (fun e => by cases e), (s11.trans st12.g).trans gg, vs ++ [z], by simp [hvs], wL18, ?_, xs2', (fT16.step st17).mut (fun h => nL (List.mem_of_mem_drop h)), fun n xs h => ?_⟩
            · rw [List.range_succ, List.map_append]
              exact (rv11.mono (st12.g.trans gg)).append (.cons (p16.mono st17.g) .nil)
            · rw [show xi + 1 + n = xi + (n + 1) by omega]
              exact (r11 (n + 1) xs h).mono (st12.g.trans gg)
          · rintro G11 H11 σ11 ⟨a11, m11, s11, vs, hvs, wL11, rv11, xs2, f11, r11⟩
            rw [List.length_range] at hvs wL11 rv11
            rw [← hls, List.drop_length, List.map_nil, List.append_nil] at wL11
            obtain ⟨a12, s12⟩ := a11.seal wL11 fL nb0
            have m12 := m11.seal wL11 (fun fs e => by cases e) fun e => by cases e
            obtain ⟨G13, st13, p13⟩ := m12.done (φs := [dat (eNs b.ow), dat (.list ((List.range b.ow.length).map (bmvD b.ms)))]) a12 hx hdx (.cons ((pu1.mono s11).mono s12) (.cons (.lst upd_same (rv11.mono s12)) .nil))
            exact k G13 _ st13 p13
end
end Ls
/-! F21 -/
set_option maxHeartbeats 1000000
namespace Ls
open PySem PySem.Spec PyProof.Rows L2
/-- an automaton as the law tells it -/
def specD (a : Aut) : PyData := .list [.str (aS a.cs), .int (a.n : Int), .list (a.trs.map eTr), .int (a.ini : Int)]
structure SpecOk (a : Aut) : Prop where
  ok : AutOk a
  n : a.n ≤ 4
theorem RsOk.perm {n : Nat} {cs : List Nat} {trs l : List Tr} (h : RsOk n cs trs) (p : l.Perm trs) : RsOk n cs l := ⟨fun t ht => h.ok t (p.mem_iff.mp ht), ((p.map _).nodup_iff).mpr h.nd, fun s c h1 h2 => by
  obtain ⟨t, ht, q⟩ := mvs_ne.mp (h.all s c h1 h2)
  exact mvs_ne.mpr ⟨t, p.mem_iff.mpr ht, q⟩, by rw [p.length_eq]; exact h.len⟩
theorem RsOk.aut {n ini : Nat} {cs : List Nat} {trs : List Tr} (al : AlOk cs) (h0 : 0 < n) (h1 : n ≤ 4) (hi : ini < n) (h : RsOk n cs trs) : SpecOk ⟨cs, n, trs, ini⟩ := by
  refine ⟨⟨al, h0, by show n ≤ 65; omega, hi, h.ok, h.nd, h.all, ?_⟩, h1⟩
  have h2 := h.len
  have h3 : n * cs.length ≤ 4 * 3 := Nat.mul_le_mul h1 al.three
  show trs.length ≤ 1000
  omega
section
variable {P : Program} {w : World} {K : PySem.W.Frag} {mg : Str → Option Value} {base : Heap}
/-! ### _law_spec -/
def sp_l_spec : Sp := fun vs H Q E => ∃ (bag L : Addr) (ns : List Int) (g : Bool), spA (bagA bag L ns) [isV (.ref bag), dat (.int 3), dat (.bool g)] (ex SpecOk fun a => dat (specD a)) vs H Q E
abbrev N_l_spec : List Str := ["_law_bag", "_law_most", "_law_guesses", "_law_alphabet_here", "_law_size", "_law_rows_here"]
theorem sc_l_spec : FnScope ["_law_bag", "_law_most", "_law_guesses", "_law_alphabet_here", "_law_size", "_law_rows_here"] ["_law_bag", "_law_most", "_law_guesses"] (defScope s_l_spec) := ⟨rfl, rfl, rfl, by decide +kernel, rfl, by decide +kernel, by decide +kernel⟩
theorem ok_l_spec {f : Addr} {fd : FuncData} (F : FnP K "_law_spec" "_law_spec" s_l_spec [] [] f fd) (T : Fx K mg) (F_l_pull : Fn P w K mg base "_law_pull" 1 ["_law_bag", "_law_sides"] [] sp_l_pull) (F_l_any : Fn P w K mg base "_law_any" 2 ["_law_bag", "_law_rows_here"] [] sp_l_any) (F_l_mixed : Fn P w K mg base "_law_mixed" 2 ["_law_bag", "_law_rows_here"] [] sp_l_mixed)
    (F_l_alphabet : Fn P w K mg base "_law_alphabet" 3 ["_law_bag", "_law_most"] [] sp_l_alphabet) (F_l_rows : Fn P w K mg base "_law_rows" 3 ["_law_bag", "_law_alphabet_here", "_law_size", "_law_guesses", "_law_safe"] [] sp_l_rows) : FnOk P w K mg base CX0 4 f fd ["_law_bag", "_law_most", "_law_guesses"] sp_l_spec := by
  refine F.ok sc_l_spec (fun vs H Q E h => ?_) (fun cdv A outer st H vs Q E hr h => ?_)
  · obtain ⟨_, _, _, _, h⟩ := h
    exact spA_len h
  · obtain ⟨bag, L, ns, g, G, sG, jG, ps, k⟩ := h
    obtain ⟨v1, v2, v3, rfl, p1, p2, p3⟩ := ps_three ps
    refine ⟨_, PSs.nox (pss_cons (ps_set (i := 3) sc_l_spec.nd rfl (Or.inl rfl) (pe_fn F_l_alphabet (hr.mono (by decide)) rfl (pa_cons (pv 0) (pa_cons pe_int pa_nil))))
  (pss_cons (ps_set (i := 4) sc_l_spec.nd rfl (Or.inl rfl) (pe_op op_add pe_int (pe_fn F_l_pull (hr.mono (by decide)) rfl (pa_cons (pv 0) (pa_cons (pv 1) pa_nil)))))
  (pss_cons (ps_set (i := 5) sc_l_spec.nd rfl (Or.inl rfl) (pe_fn F_l_rows (hr.mono (by decide)) rfl (pa_cons (pv 0) (pa_cons (pv 3) (pa_cons (pv 4) (pa_cons (pv 2) (pa_cons (pe_fn F_l_any (hr.mono (by decide)) rfl (pa_cons (pv 0) (pa_cons (pe_lst (pa_cons pe_int (pa_cons pe_int (pa_cons pe_int (pa_cons pe_int pa_nil))))) pa_nil))) pa_nil)))))))
  (pss_one (ps_ret (pe_lst (pa_cons (pv 3) (pa_cons (pv 4) (pa_cons (pe_fn F_l_mixed (hr.mono (by decide)) rfl (pa_cons (pv 0) (pa_cons (pv 5) pa_nil))) (pa_cons (pe_fn F_l_pull (hr.mono (by decide)) rfl (pa_cons (pv 0) (pa_cons (pv 4) pa_nil))) pa_nil)))))))))), ?_⟩
    have a : At (bagA bag L ns) G H G H _ [some (isV (.ref bag)), some (dat (.int 3)), some (dat (.bool g)), none, none, none] := At.begin (vs := [v1, v2, v3]) (N := N_l_spec) ((((EnvOk.nil.skip.skip.skip.cons p3).cons p2).cons p1)) sG jG
    refine q_asgEx (P := AlOk) (f := fun cs => dat (.str (aS cs))) a (xe_call (φ := ex AlOk fun cs => dat (.str (aS cs))) (xa_cons (xe_var rfl) (xa_cons xe_int xa_nil)) fun vs H Q h => ⟨bag, L, ns, h⟩) (fun m _ => xg_name (List.mem_singleton.mpr rfl)) fun cs al σ2 G2 H2 st2 a2 => ?_
    refine q_asgEx (P := fun m : Nat => 1 ≤ m ∧ m ≤ 3) (f := fun m => dat (.int (m : Int))) a2 (xe_op xe_int (xe_pull (m := 3) rfl (by decide) (by decide) (xe_var rfl)) (xr_ex0 fun r hr => ⟨1 + r, by omega, xr_add⟩)) (fun m _ => xg_name (List.mem_singleton.mpr rfl)) fun n hn σ3 G3 H3 st3 a3 => ?_
    refine q_asgEx (P := RsOk n cs) (f := fun trs => dat (.list (trs.map eTr))) a3 (xe_call (φ := ex (RsOk n cs) fun trs => dat (.list (trs.map eTr))) (xa_cons (xe_var rfl) (xa_cons (xe_var rfl) (xa_cons (xe_var rfl) (xa_cons (xe_var rfl) (xa_cons (xe_call (φ := ex (fun d => d ∈ [PyData.int 2, .int 3, .int 2, .int 4]) fun d => dat d) (xa_cons (xe_var rfl) (xa_cons (xe_lst (ds := [.int 2, .int 3, .int 2, .int 4]) (xa_cons xe_int (xa_cons xe_int (xa_cons xe_int (xa_cons xe_int xa_nil)))) (by show 4 ≤ 1000; decide)) xa_nil)) fun vs H Q h => ⟨bag, L, ns, .inl ⟨_, by decide, by decide, h⟩⟩) xa_nil))))) fun vs H Q h => ?_) (fun m _ => xg_name (List.mem_singleton.mpr rfl)) fun trs hR σ4 G4 H4 st4 a4 => ?_
    · obtain ⟨Gz, sz, jz, pz, kz⟩ := h
      obtain ⟨u1, u2, u3, u4, u5, rfl, q1, q2, q3, q4, d, hd, q5⟩ := ps_five pz
      have fin : ∀ safe : Nat, 0 < safe → safe ≤ 1000 → d = .int (safe : Int) → sp_l_rows [u1, u2, u3, u4, u5] H Q E0 := fun safe h1 h2 e => ⟨bag, L, ns, cs, n, safe, g, al, by omega, by omega, h1, h2, Gz, sz, jz, .cons q1 (.cons q2 (.cons q3 (.cons q4 (.cons (e ▸ q5) .nil)))), kz⟩
      simp only [List.mem_cons, List.not_mem_nil, or_false] at hd
      rcases hd with e | e | e | e
      · exact fin 2 (by decide) (by decide) e
      · exact fin 3 (by decide) (by decide) e
      · exact fin 2 (by decide) (by decide) e
      · exact fin 4 (by decide) (by decide) e
    have hlen : trs.length ≤ 100 := by
      have h2 := hR.len
      have h3 : n * cs.length ≤ 3 * 3 := Nat.mul_le_mul hn.2 al.three
      omega
    refine s_ret a4 (xe_exm (xe_lstX (α := List Tr × Nat) (P := fun x => x.1.Perm trs ∧ x.2 < n) (f := fun x => [.str (aS cs), .int (n : Int), .list (x.1.map eTr), .int (x.2 : Int)]) (φs := [dat (.str (aS cs)), dat (.int (n : Int)), ex (fun es : List PyData => es.Perm (trs.map eTr)) fun es => dat (.list es), ex (fun r : Nat => r < n) fun r => dat (.int (r : Int))]) (xa_cons (xe_var rfl) (xa_cons (xe_var rfl) (xa_cons (xe_call (φ := ex (fun es : List PyData => es.Perm (trs.map eTr)) fun es => dat (.list es)) (xa_cons (xe_var rfl) (xa_cons (xe_var rfl) xa_nil)) fun vs H Q h => ⟨bag, L, ns, _, by rw [List.length_map]; omega, h⟩) (xa_cons (xe_pull rfl (by omega) (by omega) (xe_var rfl)) xa_nil)))) (by show 4 ≤ 1000; decide) fun G vs h => ?_) fun x hx G v p => ?_) fun v G5 H5 st5 j5 p5 => k v G5 H5 st5 j5 p5
    · obtain ⟨u1, u2, u3, u4, rfl, q1, q2, ⟨es, hes, q3⟩, ⟨r, hr4, q4⟩⟩ := ps_four h
      obtain ⟨l, pl, rfl⟩ := perm_unmap hes _ rfl
      exact ⟨(l, r), ⟨pl, hr4⟩, .cons q1 (.cons q2 (.cons q3 (.cons q4 .nil)))⟩
    · exact ⟨⟨cs, n, x.1, x.2⟩, (hR.perm hx.1).aut al (by omega) (by omega) hx.2, p⟩
/-! ### _law_made -/
def sp_l_made (K : PySem.W.Frag) : Sp := fun vs H Q E => ∃ a : Aut, AutOk a ∧ spA A0 [dat (specD a)] (autS K a) vs H Q E
theorem sc_l_made : FnScope ["_law_spec_here"] ["_law_spec_here"] (defScope s_l_made) := ⟨rfl, rfl, rfl, by decide +kernel, rfl, by decide +kernel, by decide +kernel⟩
theorem ok_l_made {f : Addr} {fd : FuncData} (F : FnP K "_law_made" "_law_made" s_l_made [] [] f fd) (T : Fx K mg) (M_Automaton : Mck P w K mg base "Automaton" (He.ga K "Automaton") 3 3 ["initial"] ["self", "alphabet", "size", "transitions", "initial"] (sp_a_init K)) : FnOk P w K mg base CX0 5 f fd ["_law_spec_here"] (sp_l_made K) := by
  refine F.ok sc_l_made (fun vs H Q E h => ?_) (fun cdv A outer st H vs Q E hr h => ?_)
  · obtain ⟨_, _, h⟩ := h
    exact spA_len h
  · obtain ⟨a, ok, G, sG, _, ps, k⟩ := h
    obtain ⟨v1, rfl, p1⟩ := ps_one ps
    refine ⟨_, PSs.nox (pss_one (ps_ret (pe_mkK M_Automaton (hr.mono (by decide)) rfl (pa_cons (pe_ix (ix_listK K) (pv 0) pe_int (fun _ _ => rfl)) (pa_cons (pe_ix (ix_listK K) (pv 0) pe_int (fun _ _ => rfl)) (pa_cons (pe_callTy (call_listK K) (by rfl) T.b_list bt_list (pa_cons (pe_ix (ix_listK K) (pv 0) pe_int (fun _ _ => rfl)) pa_nil)) pa_nil))) (pk_cons (pe_ix (ix_listK K) (pv 0) pe_int (fun _ _ => rfl)) pk_nil)))), ?_⟩
    have a0 : At A0 G H G H _ [some (dat (specD a))] := At.begin (vs := [v1]) (N := ["_law_spec_here"]) (EnvOk.nil.cons p1) sG trivial
    exact s_ret (φ := autS K a) a0 (xe_makeK (xa_cons (xe_op (xe_var rfl) xe_int (xr_ixLn (n := 0) rfl)) (xa_cons (xe_op (xe_var rfl) xe_int (xr_ixLn (n := 1) rfl)) (xa_cons (xe_cb (xa_cons (xe_op (xe_var rfl) xe_int (xr_ixLn (n := 2) rfl)) xa_nil) xc_list) xa_nil))) (xa_cons (xe_op (xe_var rfl) xe_int (xr_ixLn (n := 3) rfl)) xa_nil) rfl rfl (fun x vs zs h1 h2 => rfl) fun vs H Q h => ⟨a, ok, h⟩) fun v G5 H5 st5 j5 p5 => k v G5 H5 st5 j5 p5
end
end Ls
/-! F22 -/
set_option maxHeartbeats 1000000
namespace Ls
open PySem PySem.Spec PyProof.Rows L2
/-! ### _law_board: the plain side -/
theorem nice_bm : Nice (fun m : Bm => 97 ≤ m.2.1 ∧ m.2.1 ≤ 122) eBm 1 := (nice_tup3 nice_nat nice_sg nice_nat).weak fun _ h => ⟨trivial, h, trivial⟩
theorem Nice.anyIn {α : Type} [DecidableEq α] {P : α → Prop} {e : α → PyData} {n : Nat} (N : Nice P e n) {a : α} (h : P a) : ∀ l : List α, (∀ x ∈ l, P x) → ((l.map e).any fun z => PyData.eqv z (e a)) = decide (a ∈ l)
  | [], _ => by simp
  | b :: l, hl => by
    rw [List.map_cons, List.any_cons, N.anyIn h l fun x m => hl x (List.mem_cons_of_mem _ m), N.eqv b a (hl b List.mem_cons_self) h]
    by_cases q : b = a
    · subst q
      simp
    · have q2 : ¬ a = b := fun z => q z.symm
      simp [q, q2]
theorem filter_all_z {α : Type} {p : α → Bool} {l : List α} (h : ∀ x ∈ l, p x = true) : l.filter p = l := List.filter_eq_self.mpr h
structure BdAt (n : Nat) (cs : List Nat) (i j : Nat) (ms : List Bm) : Prop where
  ok : ∀ m ∈ ms, m.1 < n ∧ m.2.1 ∈ cs ∧ m.2.2 < n
  nd : ms.Nodup
  all : ∀ x, x < i → bmvs ms x ≠ []
  cur : 0 < j → bmvs ms i ≠ []
  len : ms.length ≤ i * 3 + j
  th : ∀ x, (bmvs ms x).length ≤ if x < i then 3 else if x = i then j else 0
theorem bmvs_ne {l : List Bm} {x : Nat} : bmvs l x ≠ [] ↔ ∃ m ∈ l, m.1 = x := by
  unfold bmvs
  constructor
  · intro h
    obtain ⟨y, hy⟩ := List.exists_mem_of_ne_nil _ h
    obtain ⟨m, hm, _⟩ := List.mem_map.mp hy
    obtain ⟨h1, h2⟩ := List.mem_filter.mp hm
    exact ⟨m, h1, of_decide_eq_true h2⟩
  · rintro ⟨m, hm, h1⟩ e
    have : m.2 ∈ ([] : List (Nat × Nat)) := by
      rw [← e]
      exact List.mem_map.mpr ⟨m, List.mem_filter.mpr ⟨hm, decide_eq_true h1⟩, rfl⟩
    cases this
theorem BdAt.zero {n : Nat} {cs : List Nat} : BdAt n cs 0 0 [] := by
  refine ⟨fun m h => ?_, List.Pairwise.nil, fun x h => absurd h (Nat.not_lt_zero _), fun h => absurd h (Nat.not_lt_zero _), Nat.zero_le _, fun x => Nat.zero_le _⟩
  cases h
theorem BdAt.next {n j : Nat} {cs : List Nat} {i : Nat} {ms : List Bm} (h : BdAt n cs i j ms) (h1 : 1 ≤ j) (h3 : j ≤ 3) : BdAt n cs (i + 1) 0 ms := by
  refine ⟨h.ok, h.nd, fun x hx => ?_, fun h => absurd h (Nat.not_lt_zero _), ?_, fun x => ?_⟩
  · by_cases e : x = i
    · rw [e]
      exact h.cur h1
    · exact h.all x (by omega)
  · have := h.len
    omega
  · have := h.th x
    split at this <;> split <;> (try split) <;> (try split at this) <;> omega
theorem BdAt.step {n i j c y : Nat} {cs : List Nat} {ms : List Bm} (h : BdAt n cs i j ms) (hi : i < n) (hc : c ∈ cs) (hy : y < n) : BdAt n cs i (j + 1) (ms ++ if (i, c, y) ∈ ms then [] else [(i, c, y)]) := by
  by_cases q : (i, c, y) ∈ ms
  · rw [if_pos q, List.append_nil]
    exact ⟨h.ok, h.nd, h.all, fun _ => bmvs_ne.mpr ⟨_, q, rfl⟩, by have := h.len; omega, fun x => by
      have := h.th x
      split at this <;> split <;> (try split) <;> (try split at this) <;> omega⟩
  · rw [if_neg q]
    refine ⟨fun m hm => ?_, List.nodup_append.mpr ⟨h.nd, by simp, fun a ha b hb e => ?_⟩, fun x hx => ?_, fun _ => bmvs_ne.mpr ⟨(i, c, y), by simp, rfl⟩, ?_, fun x => ?_⟩
    · rcases List.mem_append.mp hm with z | z
      · exact h.ok m z
      · rw [List.mem_singleton.mp z]
        exact ⟨hi, hc, hy⟩
    · rw [e, List.mem_singleton.mp hb] at ha
      exact q ha
    · obtain ⟨m, hm, e⟩ := bmvs_ne.mp (h.all x hx)
      exact bmvs_ne.mpr ⟨m, List.mem_append_left _ hm, e⟩
    · rw [List.length_append, List.length_singleton]
      have := h.len
      omega
    · have h2 := h.th x
      have h3 : (bmvs (ms ++ [(i, c, y)]) x).length = (bmvs ms x).length + if x = i then 1 else 0 := by
        unfold bmvs
        rw [List.filter_append, List.map_append, List.length_append]
        by_cases e : x = i
        · have e2 : (([(i, c, y)] : List Bm).filter fun m => decide (m.1 = x)) = [(i, c, y)] := filter_all_z fun m hm => decide_eq_true (by rw [List.mem_singleton.mp hm]; exact e.symm)
          rw [if_pos e, e2]
          rfl
        · have e2 : (([(i, c, y)] : List Bm).filter fun m => decide (m.1 = x)) = [] := List.filter_eq_nil_iff.mpr fun m hm z => e (by rw [List.mem_singleton.mp hm] at z; exact (of_decide_eq_true z).symm)
          rw [if_neg e, e2]
          rfl
      rw [h3]
      split at h2 <;> split <;> (try split) <;> (try split at h2) <;> omega
structure BoardOk (cs : List Nat) (b : Brd) : Prop where
  ok : BrdOk b
  o : b.ow.length ≤ 5
  m : b.ms.length ≤ 15
  c : ∀ m ∈ b.ms, m.2.1 ∈ cs
  th : ∀ x, (bmvs b.ms x).length ≤ 3
theorem BdAt.done {n : Nat} {cs ow : List Nat} {ms : List Bm} (al : AlOk cs) (h : BdAt n cs n 0 ms) (ho : ow.length = n) (h1 : 1 ≤ n) (h5 : n ≤ 5) (hw : ∀ o ∈ ow, o < 2) : BoardOk cs ⟨ow, ms⟩ := by
  have hl : ms.length ≤ 15 := by
    have := h.len
    omega
  refine ⟨⟨by show 1 ≤ ow.length; omega, by show ow.length ≤ 1000; omega, fun o m => by have := hw o m; omega, fun m hm => ?_, h.nd, fun x hx => h.all x (by rw [← ho]; exact hx), by show ms.length ≤ 1000; omega⟩, by show ow.length ≤ 5; omega, hl, fun m hm => (h.ok m hm).2.1, fun x => by
    have := h.th x
    split at this
    · exact this
    · split at this <;> exact Nat.le_trans this (by decide)⟩
  obtain ⟨q1, q2, q3⟩ := h.ok m hm
  exact ⟨by show m.1 < ow.length; omega, al.low _ q2, by show m.2.2 < ow.length; omega⟩
def brdD (b : Brd) : PyData := .list [.list (b.ow.map fun o : Nat => .int (o : Int)), .list (b.ms.map eBm)]
section
variable {A : Amb} {ρ : Env} {te ta tb tc : TE} {tt tu : TT} {φ ψ χ : SP} {K : PySem.W.Frag} {G0 H0 G H : Hp} {σ : L2.St} {D : Ends} {t u tz tw : TS} {r : R2}
theorem s_forRgEx {P : Nat → Prop} {g : TG} {tb : TS} (a : At A G0 H0 G H σ ρ) (h : XE A te ρ (ex P fun n : Nat => dat (.int (n : Int)))) (k : ∀ n, P n → ∀ G2 H2, Stp A G H G2 H2 → At A G0 H0 G2 H2 σ ρ → tFor (iRng1 (tCons (tC (.int (n : Int))) tNil)) g tb D σ H2) : tFor (iRng1 (tCons te tNil)) g tb D σ H := by
  show te σ H _
  refine a.e h fun v G2 H2 st a2 p => ?_
  obtain ⟨x, hx, p⟩ := p
  have e : v = .int (x : Int) := Rp.int_inv p
  subst e
  exact k x hx G2 H2 st a2
theorem q_parEx {α : Type} {P : α → Prop} {f : α → SP} {i j : Nat} {ta2 : TA} (a : At A G0 H0 G H σ ρ) (h : XA A ta2 ρ [ex P f, ψ]) (k : ∀ x, P x → ∀ σ2 G2 H2, Stp A G H G2 H2 → At A G0 H0 G2 H2 σ2 ((ρ.set i (some (f x))).set j (some ψ)) → tz D σ2 H2) : tSeq (tPar i j ta2) tz D σ H :=
  q_par a h fun v w G2 H2 st p1 p2 a2 => by
    obtain ⟨x, hx, p⟩ := p1
    exact k x hx _ G2 H2 st (a2.re (((a.env.mono st.g).set i p).set j p2))
end
section
variable {P : Program} {w : World} {K : PySem.W.Frag} {mg : Str → Option Value} {base : Heap}
def sp_l_board : Sp := fun vs H Q E => ∃ (bag L : Addr) (ns : List Int) (cs : List Nat), AlOk cs ∧ spA (bagA bag L ns) [isV (.ref bag), dat (.str (aS cs)), dat (.int 5)] (ex (BoardOk cs) fun b => dat (brdD b)) vs H Q E
abbrev N_l_board : List Str := ["_law_bag", "_law_alphabet_here", "_law_most", "_law_size", "_law_owners", "_law_rows_here", "_law_node", "_law_again", "_law_row", "_law_k"]
theorem sc_l_board : FnScope ["_law_bag", "_law_alphabet_here", "_law_most", "_law_size", "_law_owners", "_law_rows_here", "_law_node", "_law_again", "_law_row", "_law_k"] ["_law_bag", "_law_alphabet_here", "_law_most"] (defScope s_l_board) := ⟨rfl, rfl, rfl, by decide +kernel, rfl, by decide +kernel, by decide +kernel⟩
theorem ok_l_board {f : Addr} {fd : FuncData} (F : FnP K "_law_board" "_law_board" s_l_board [] [] f fd) (T : Fx K mg) (F_l_pull : Fn P w K mg base "_law_pull" 1 ["_law_bag", "_law_sides"] [] sp_l_pull) (F_l_any : Fn P w K mg base "_law_any" 2 ["_law_bag", "_law_rows_here"] [] sp_l_any) : FnOk P w K mg base CX0 3 f fd ["_law_bag", "_law_alphabet_here", "_law_most"] sp_l_board := by
  refine F.ok sc_l_board (fun vs H Q E h => ?_) (fun cdv A outer st H vs Q E hr h => ?_)
  · obtain ⟨_, _, _, _, _, h⟩ := h
    exact spA_len h
  · obtain ⟨bag, L, ns, cs, al, G, sG, jG, ps, k⟩ := h
    obtain ⟨v1, v2, v3, rfl, p1, p2, p3⟩ := ps_three ps
    refine ⟨_, PSs.nox (pss_cons (ps_set (i := 3) sc_l_board.nd rfl (Or.inl rfl) (pe_op op_add pe_int (pe_fn F_l_pull (hr.mono (by decide)) rfl (pa_cons (pv 0) (pa_cons (pv 2) pa_nil)))))
  (pss_cons (ps_par (i := 4) (j := 5) (by rfl) sc_l_board.nd rfl rfl (by decide) rfl rfl (pa_cons (pe_lc (own := [("_law_k", 9)]) (by rfl) sc_l_board.nd (pi_range1 (by rfl) T.b_range (pa_cons (pv 3) pa_nil)) (blkOk_by (by kernel_rfl)) (fun _ _ _ _ _ => (pg_name (i := 9) sc_l_board.nd rfl (Or.inl rfl))) (fun _ _ _ _ _ => pts_nil) (fun _ _ _ _ _ => (pe_fn F_l_pull (hr.mono (by decide)) rfl (pa_cons (pv 0) (pa_cons pe_int pa_nil))))) (pa_cons (pe_lst pa_nil) pa_nil)) (by rfl))
  (pss_cons (ps_for PassesOwn.never (by rfl) (pi_range1 (by rfl) T.b_range (pa_cons (pv 3) pa_nil)) (pg_name (i := 6) sc_l_board.nd rfl (Or.inl rfl)) (pss_one (ps_for PassesOwn.never (by rfl) (pi_range1 (by rfl) T.b_range (pa_cons (pe_op op_add pe_int (pe_fn F_l_pull (hr.mono (by decide)) rfl (pa_cons (pv 0) (pa_cons pe_int pa_nil)))) pa_nil)) (pg_name (i := 7) sc_l_board.nd rfl (Or.inl rfl)) (pss_cons (ps_set (i := 8) sc_l_board.nd rfl (Or.inl rfl) (pe_tup (pa_cons (pv 6) (pa_cons (pe_fn F_l_any (hr.mono (by decide)) rfl (pa_cons (pv 0) (pa_cons (pv 1) pa_nil))) (pa_cons (pe_fn F_l_pull (hr.mono (by decide)) rfl (pa_cons (pv 0) (pa_cons (pv 3) pa_nil))) pa_nil)))))
  (pss_one (ps_set (i := 5) sc_l_board.nd rfl (Or.inl rfl) (pe_op op_cat (pv 5) (pe_ifExp (pt_cmpR (op_notInDK K (room65 hr)) (pv 8) (pv 5) (by rfl)) (pe_lst (pa_cons (pv 8) pa_nil)) (pe_lst pa_nil)))))))))
  (pss_one (ps_ret (pe_lst (pa_cons (pv 4) (pa_cons (pv 5) pa_nil)))))))), ?_⟩
    have a : At (bagA bag L ns) G H G H _ [some (isV (.ref bag)), some (dat (.str (aS cs))), some (dat (.int 5)), none, none, none, none, none, none, none] := At.begin (vs := [v1, v2, v3]) (N := N_l_board) ((((EnvOk.nil.skip.skip.skip.skip.skip.skip.skip.cons p3).cons p2).cons p1)) sG jG
    refine q_asgEx (P := fun m : Nat => 1 ≤ m ∧ m ≤ 5) (f := fun m => dat (.int (m : Int))) a (xe_op xe_int (xe_pull (m := 5) rfl (by decide) (by decide) (xe_var rfl)) (xr_ex0 fun r hr => ⟨1 + r, by omega, xr_add⟩)) (fun m _ => xg_name (List.mem_singleton.mpr rfl)) fun n hn σ1 G1 H1 st1 a1 => ?_
    refine q_parEx (P := fun ow : List Nat => ow.length = n ∧ ∀ o ∈ ow, o < 2) (f := fun ow => dat (.list (ow.map fun o : Nat => .int (o : Int)))) (ψ := dat (.list (([] : List Bm).map eBm))) a1 (xa_cons (xe_exm (xe_lcX (α := Nat) (β := Nat) (P := fun l => l = List.range n) (ψ := fun g : Nat => dat (.int (g : Int))) (E := fun _ o => o < 2) (e := fun o : Nat => .int (o : Int)) (ρx := fun g : Nat => [some (isV (.ref bag)), some (dat (.str (aS cs))), some (dat (.int 5)), some (dat (.int (n : Int))), none, none, none, none, none, some (dat (.int (g : Int)))]) (js := [9]) bag_nf (XI.x (xi_rangeT (xa_cons (xe_var rfl) xa_nil) (by omega))) (fun l h => by rw [h, List.length_range]; omega) (fun j hj => hj) fun l h y hy => ⟨xg_name (List.mem_singleton.mpr rfl), xe_pull (m := 2) rfl (by decide) (by decide) xe_int⟩) fun ow how G v p => ⟨ow, ?_, p⟩) (xa_cons xe_lst0 xa_nil)) fun ow how σ2 G2 H2 st2 a2 => ?_
    · obtain ⟨l, rfl, hl, he⟩ := how
      rw [List.length_range] at hl
      refine ⟨hl, fun o ho => ?_⟩
      obtain ⟨q, hq⟩ := List.mem_iff_getElem?.mp ho
      have hlt := (List.getElem?_eq_some_iff.mp hq).1
      exact he q q o (by rw [List.getElem?_range (by omega)]) hq
    refine q_for (l := List.range n) a2 (xi_rangeT (xa_cons (xe_var rfl) xa_nil) (by omega))
      (fun i G' H' σ' => ∃ ms, BdAt n cs i 0 ms ∧ At (bagA bag L ns) G H G' H' σ' [some (isV (.ref bag)), some (dat (.str (aS cs))), some (dat (.int 5)), some (dat (.int (n : Int))), some (dat (.list (ow.map fun o : Nat => .int (o : Int)))), some (dat (.list (ms.map eBm))), none, none, none, none]) (fun j G1 H1 σ1 ⟨_, _, h⟩ => h.s) (fun G6 H6 st6 => ⟨[], BdAt.zero, a2.step0 st6⟩) ?_ ?_
    · rintro i x G6 H6 σ6 hx ⟨ms0, B0, a6⟩ v7 G7 H7 st7 p7
      obtain ⟨hi, ex⟩ := List.getElem?_eq_some_iff.mp hx
      rw [List.length_range] at hi
      rw [List.getElem_range] at ex
      subst ex
      have a7 := (a6.step0 st7).re ((a6.step0 st7).env.set 6 p7)
      refine s_forRgEx (P := fun m : Nat => 1 ≤ m ∧ m ≤ 3) a7 (xe_op xe_int (xe_pull (m := 3) rfl (by decide) (by decide) xe_int) (xr_ex0 fun r hr => ⟨1 + r, by omega, xr_add⟩)) fun z hz G8 H8 st8 a8 => ?_
      refine s_for (l := List.range z) a8 (xi_rangeT (xa_cons xe_int xa_nil) (by omega))
        (fun j G' H' σ' => ∃ ms, Same G6 G' ∧ BdAt n cs i j ms ∧ At (bagA bag L ns) G H G' H' σ' [some (isV (.ref bag)), some (dat (.str (aS cs))), some (dat (.int 5)), some (dat (.int (n : Int))), some (dat (.list (ow.map fun o : Nat => .int (o : Int)))), some (dat (.list (ms.map eBm))), some (dat (.int (i : Int))), none, none, none]) (fun j G1 H1 σ1 ⟨_, _, _, h⟩ => h.s) (fun G9 H9 st9 => ⟨ms0, (st7.g.trans st8.g).trans st9.g, B0, a8.step0 st9⟩) ?_ ?_
      · rintro j y G9 H9 σ9 hy ⟨ms, s9, B, a9⟩ v10 G10 H10 st10 p10
        have hj : j < z := by
          have := (List.getElem?_eq_some_iff.mp hy).1
          rw [List.length_range] at this
          exact this
        have a10 := (a9.step0 st10).re ((a9.step0 st10).env.set 7 p10)
        refine q_asgEx (P := fun m : Bm => m.1 = i ∧ m.2.1 ∈ cs ∧ m.2.2 < n) (f := fun m => dat (eBm m)) a10 (xe_tupX (φs := [dat (.int (i : Int)), ex (fun c => c ∈ (aS cs).cps.toList) fun c => dat (.str (sg c)), ex (fun r : Nat => r < n) fun r => dat (.int (r : Int))]) (xa_cons (xe_var rfl) (xa_cons (xe_call (φ := ex (fun c => c ∈ (aS cs).cps.toList) fun c => dat (.str (sg c))) (xa_cons (xe_var rfl) (xa_cons (xe_var rfl) xa_nil)) fun vs H Q h => ⟨bag, L, ns, .inr ⟨aS cs, by rw [aS_len]; exact al.one, by rw [aS_len]; have := al.three; omega, h⟩⟩) (xa_cons (xe_pull rfl (by omega) (by omega) (xe_var rfl)) xa_nil))) (by show 3 ≤ 1000; decide) fun G vs h => ?_) (fun m _ => xg_name (List.mem_singleton.mpr rfl)) fun m hm σ11 G11 H11 st11 a11 => ?_
        · obtain ⟨u1, u2, u3, rfl, q1, ⟨c, hc, q2⟩, ⟨r, hr3, q3⟩⟩ := ps_three h
          rw [aS_list] at hc
          exact ⟨(i, c, r), ⟨rfl, hc, hr3⟩, .cons q1 (.cons q2 (.cons q3 .nil))⟩
        obtain ⟨mi, mc, my⟩ := m
        obtain ⟨e1, hc, hy2⟩ := hm
        have e1 : mi = i := e1
        subst e1
        have low : ∀ m ∈ ms, 97 ≤ m.2.1 ∧ m.2.1 ≤ 122 := fun m hm => al.low _ (B.ok m hm).2.1
        have hml : ms.length ≤ 100 := by
          have := B.len
          omega
        refine s_asg (φ := dat (.list ((ms ++ if (mi, mc, my) ∈ ms then [] else [(mi, mc, my)]).map eBm))) a11 (XE.to (xe_op (xe_var rfl) (xe_if (φ := dat (.list ((if (mi, mc, my) ∈ ms then [] else [(mi, mc, my)]).map eBm))) (b := !decide ((mi, mc, my) ∈ ms)) (xt_test (XE.to (xe_op (xe_var rfl) (xe_var rfl) (xr_notInD (nice_bm.shaped (by decide) (al.low _ hc)) (nice_bm.list.shaped (by decide) low))) (by rw [nice_bm.anyIn (a := (mi, mc, my)) (al.low _ hc) ms low]; congr))) (fun e => XE.to (xe_lst1 (xe_var rfl)) (by rw [if_neg (by simpa using e)]; rfl)) (fun e => XE.to xe_lst0 (by rw [if_pos (by simpa using e)]; rfl))) (xr_cat (by rw [List.length_map, List.length_map]; split <;> simp <;> omega))) (by rw [← List.map_append])) fun v12 G12 H12 st12 p12 a12 => ?_
        exact ⟨G12, (st10.g.trans st11.g).trans st12.g, _, ((s9.trans st10.g).trans st11.g).trans st12.g, B.step hi hc hy2, a12.re (a12.env.sub (by repeat' constructor))⟩
      · rintro G9 H9 σ9 ⟨ms, s9, B, a9⟩
        rw [List.length_range] at B
        exact ⟨G9, s9, ms, B.next hz.1 hz.2, a9.re (a9.env.sub (by repeat' constructor))⟩
    · rintro G6 H6 σ6 ⟨ms, B, a6⟩
      rw [List.length_range] at B
      exact s_ret a6 (xe_toEx ⟨ow, ms⟩ (B.done al how.1 hn.1 hn.2 how.2) (xe_lst (ds := [.list (ow.map fun o : Nat => .int (o : Int)), .list (ms.map eBm)]) (xa_cons (xe_var rfl) (xa_cons (xe_var rfl) xa_nil)) (by show 2 ≤ 1000; decide))) fun v G7 H7 st7 j7 p7 => k v G7 H7 st7 j7 p7
end
end Ls
/-! F23 -/
set_option maxHeartbeats 1000000
namespace Ls
open PySem PySem.Spec PyProof.Rows L2
/-! ### _law_steps -/
/-- the law's own table of steps, rows in the told order -/
def stG (trs : List Tr) (s c : Nat) : PyData := .list ((mvs trs s c).map eMv)
def stF (a : Aut) : DFn := mapG (inDom a.n a.cs) (stG a.trs)
/-- while the keys are laid: all of the states below i, of state i the first j letters -/
def domAt (cs : List Nat) (i j : Nat) (s c : Nat) : Bool := (decide (s < i) && decide (c ∈ cs)) || (decide (s = i) && decide (c ∈ cs.take j))
theorem domAt_step {cs : List Nat} {i j c : Nat} (h : cs[j]? = some c) (s d : Nat) : (domAt cs i j s d || (decide (s = i) && decide (d = c))) = domAt cs i (j + 1) s d := by
  unfold domAt
  rw [take_snoc h]
  by_cases e : s = i
  · simp [e]
  · simp [e]
theorem domAt_next {cs : List Nat} {i : Nat} (s d : Nat) : domAt cs i cs.length s d = domAt cs (i + 1) 0 s d := by
  unfold domAt
  rw [List.take_length]
  by_cases e : s = i
  · subst e
    simp
  · by_cases e2 : s < i
    · simp [e, e2, Nat.lt_succ_of_lt e2]
    · have e3 : ¬ s < i + 1 := by omega
      simp [e, e2, e3]
theorem domAt_done {cs : List Nat} {n : Nat} (s d : Nat) : domAt cs n 0 s d = inDom n cs s d := by
  unfold domAt inDom
  simp
theorem stG_step {trs : List Tr} {i : Nat} {t : Tr} (h : trs[i]? = some t) (s c : Nat) : (if s = t.1 ∧ c = t.2.1 then PyData.list ((mvs (trs.take i) t.1 t.2.1).map eMv ++ [eMv t.2.2]) else stG (trs.take i) s c) = stG (trs.take (i + 1)) s c := by
  unfold stG
  rw [take_snoc h, mvs_app]
  by_cases e : s = t.1 ∧ c = t.2.1
  · rw [if_pos e, e.1, e.2]
    have : mvs [t] t.1 t.2.1 = [t.2.2] := by simp [mvs]
    rw [this, List.map_append]
    rfl
  · rw [if_neg e]
    have : mvs [t] s c = [] := by
      unfold mvs
      rw [List.filter_cons_of_neg]
      · rfl
      · intro z
        obtain ⟨z1, z2⟩ := Bool.and_eq_true_iff.mp z
        exact e ⟨(of_decide_eq_true z1).symm, (of_decide_eq_true z2).symm⟩
    rw [this, List.append_nil]
section
variable {P : Program} {w : World} {K : PySem.W.Frag} {mg : Str → Option Value} {base : Heap}
def sp_l_steps : Sp := fun vs H Q E => ∃ a : Aut, SpecOk a ∧ spA A0 [dat (specD a)] (dicS (stF a)) vs H Q E
abbrev N_l_steps : List Str := ["_law_spec_here", "_law_steps_here", "_law_state", "_law_letter", "_law_row"]
theorem sc_l_steps : FnScope ["_law_spec_here", "_law_steps_here", "_law_state", "_law_letter", "_law_row"] ["_law_spec_here"] (defScope s_l_steps) := ⟨rfl, rfl, rfl, by decide +kernel, rfl, by decide +kernel, by decide +kernel⟩
theorem ok_l_steps {f : Addr} {fd : FuncData} (F : FnP K "_law_steps" "_law_steps" s_l_steps [] [] f fd) (T : Fx K mg) : FnOk P w K mg base CX0 1 f fd ["_law_spec_here"] sp_l_steps := by
  refine F.ok sc_l_steps (fun vs H Q E h => ?_) (fun cdv A outer st H vs Q E hr h => ?_)
  · obtain ⟨_, _, h⟩ := h
    exact spA_len h
  · obtain ⟨a, sp, G, sG, _, ps, k⟩ := h
    obtain ⟨v1, rfl, p1⟩ := ps_one ps
    refine ⟨_, PSs.nox (pss_cons (ps_set (i := 1) sc_l_steps.nd rfl (Or.inl rfl) pe_dnewT)
  (pss_cons (ps_for PassesOwn.never (by rfl) (pi_range1 (by rfl) T.b_range (pa_cons (pe_ix (ix_listK K) (pv 0) pe_int (fun _ _ => rfl)) pa_nil)) (pg_name (i := 2) sc_l_steps.nd rfl (Or.inl rfl)) (pss_one (ps_for PassesOwn.never (by rfl) (pi_str (pe_ix (ix_listK K) (pv 0) pe_int (fun _ _ => rfl))) (pg_name (i := 3) sc_l_steps.nd rfl (Or.inl rfl)) (pss_one (ps_dput (hu_of hr) (pv 1) (pe_tup (pa_cons (pv 2) (pa_cons (pv 3) pa_nil))) (pe_lst pa_nil) rfl)))))
  (pss_cons (ps_for PassesOwn.never (by rfl) (pi_listK K (pe_ix (ix_listK K) (pv 0) pe_int (fun _ _ => rfl))) (pg_name (i := 4) sc_l_steps.nd rfl (Or.inl rfl)) (pss_one (ps_dput (hu_of hr) (pv 1) (pe_slice (sl_tupK K) (pv 4) po_none (po_some pe_int)) (pe_op op_cat (pe_dget (hu_of hr) (pv 1) (pe_slice (sl_tupK K) (pv 4) po_none (po_some pe_int)) (fun _ _ => rfl)) (pe_lst (pa_cons (pe_slice (sl_tupK K) (pv 4) (po_some pe_int) po_none) pa_nil))) rfl)))
  (pss_one (ps_ret (pv 1)))))), ?_⟩
    have ok := sp.ok
    have hn : a.n ≤ 4 := sp.n
    have hcs : a.cs.length ≤ 3 := ok.al.three
    have a0 : At A0 G H G H _ [some (dat (specD a)), none, none, none, none] := At.begin (vs := [v1]) (N := N_l_steps) (EnvOk.nil.skip.skip.skip.skip.cons p1) sG trivial
    refine q_dnew a0 fun l H1 hl1 hl0 w1 st1 a1 => ?_
    refine q_for (l := List.range a.n) a1 (xi_rangeT (xa_cons (xe_op (xe_var rfl) xe_int (xr_ixLn (n := 1) rfl)) xa_nil) (by omega))
      (fun i G' H' σ' => ∃ kvs, kvs.length ≤ i * 3 ∧ Own G' H' l (.dT kvs) ∧ DF G' kvs (mapG (domAt a.cs i 0) fun _ _ => .list []) ∧ At A0 G H G' H' σ' [some (dat (specD a)), some (isV (.ref l)), none, none, none]) (fun j G1 H1 σ1 ⟨_, _, _, _, h⟩ => h.s) (fun G6 H6 st6 => ⟨[], Nat.zero_le _, w1.step0 st6, ?_, a1.step0 st6⟩) ?_ ?_
    · have e : (fun _ => none : DFn) = mapG (domAt a.cs 0 0) fun _ _ => .list [] := by
        funext k
        cases e : mapG (domAt a.cs 0 0) (fun _ _ => .list []) k with
        | none => rfl
        | some d =>
          obtain ⟨s, c, _, h2, _⟩ := mapG_key e
          simp [domAt] at h2
      rw [← e]
      exact DF.nil
    · rintro i x G6 H6 σ6 hx ⟨kvs0, z0, w6, d6, a6⟩ v7 G7 H7 st7 p7
      obtain ⟨hi, rfl⟩ := range_get hx
      have a7 := (a6.step0 st7).re ((a6.step0 st7).env.set 2 p7)
      have xiS : ∀ {ρ : Env}, ρ[0]? = some (some (dat (specD a))) → XI (iStr (tOp (rIxL K) (tVar 0) (tC (.int 0)))) ρ (a.cs.map fun c => dat (.str (sg c))) := fun {ρ} h => by
        have := xi_strT (z := aS a.cs) (xe_op (A := A0) (xe_var h) (xe_int (i := 0)) (xr_ixLn (K := K) (n := 0) rfl))
        rw [aS_list] at this
        exact this
      refine s_for (l := a.cs) a7 (xiS rfl)
        (fun j G' H' σ' => ∃ kvs, Same G6 G' ∧ kvs.length ≤ x * 3 + j ∧ Own G' H' l (.dT kvs) ∧ DF G' kvs (mapG (domAt a.cs x j) fun _ _ => .list []) ∧ At A0 G H G' H' σ' [some (dat (specD a)), some (isV (.ref l)), some (dat (.int (x : Int))), none, none]) (fun j G1 H1 σ1 ⟨_, _, _, _, _, h⟩ => h.s) (fun G8 H8 st8 => ⟨kvs0, st7.g.trans st8.g, z0, (w6.step0 st7).step0 st8, d6.mono (st7.g.trans st8.g), a7.step0 st8⟩) ?_ ?_
      · rintro j c G8 H8 σ8 hc ⟨kvs, s8, z8, w8, d8, a8⟩ v9 G9 H9 st9 p9
        have a9 := (a8.step0 st9).re ((a8.step0 st9).env.set 3 p9)
        have hj : j < a.cs.length := (List.getElem?_eq_some_iff.mp hc).1
        refine s_dput (k := kSC x c) (d := .list []) a9 (w8.step0 st9) hl0 rfl (d8.mono st9.g) (by omega) xe_lst0 (xe_tup2 (xe_var rfl) (xe_var rfl)) fun G10 H10 kvs2 st10 z10 d10 a10 w10 => ?_
        refine ⟨G10, st9.g.trans st10.g, kvs2, (s8.trans st9.g).trans st10.g, by omega, w10, ?_, a10.re (a10.env.sub (by repeat' constructor))⟩
        rw [mapG_put, mapG_ext (dom' := domAt a.cs x (j + 1)) (g' := fun _ _ => .list []) (fun s d => domAt_step hc s d) (fun s d _ => by split <;> rfl)] at d10
        exact d10
      · rintro G8 H8 σ8 ⟨kvs, s8, z8, w8, d8, a8⟩
        refine ⟨G8, s8, kvs, by omega, w8, ?_, a8.re (a8.env.sub (by repeat' constructor))⟩
        rw [mapG_ext (dom' := domAt a.cs (x + 1) 0) (g' := fun _ _ => .list []) (fun s d => domAt_next s d) (fun s d _ => rfl)] at d8
        exact d8
    · rintro G6 H6 σ6 ⟨kvs0, z0, w6, d6, a6⟩
      rw [List.length_range] at d6 z0
      refine q_for (l := a.trs) a6 (xi_listT (e := eTr) (xe_op (xe_var rfl) xe_int (xr_ixLn (n := 2) rfl)))
        (fun i G' H' σ' => ∃ kvs, kvs.length ≤ 100 + i ∧ Own G' H' l (.dT kvs) ∧ DF G' kvs (mapG (inDom a.n a.cs) (stG (a.trs.take i))) ∧ At A0 G H G' H' σ' [some (dat (specD a)), some (isV (.ref l)), none, none, none]) (fun j G1 H1 σ1 ⟨_, _, _, _, h⟩ => h.s) (fun G7 H7 st7 => ⟨kvs0, by omega, w6.step0 st7, ?_, a6.step0 st7⟩) ?_ ?_
      · have := d6.mono st7.g
        rw [mapG_ext (dom := domAt a.cs a.n 0) (g := fun _ _ => .list []) (dom' := inDom a.n a.cs) (g' := stG (a.trs.take 0)) (fun s d => domAt_done s d) (fun s d _ => rfl)] at this
        exact this
      · rintro i t G7 H7 σ7 ht ⟨kvs, z7, w7, d7, a7⟩ v8 G8 H8 st8 p8
        have a8 := (a7.step0 st8).re ((a7.step0 st8).env.set 4 p8)
        have hti : i < a.trs.length := (List.getElem?_eq_some_iff.mp ht).1
        have hsm := ok.sm
        have tok := ok.ok t (List.mem_of_getElem? ht)
        have hml : (mvs (a.trs.take i) t.1 t.2.1).length ≤ 1000 := by
          unfold mvs
          rw [List.length_map]
          refine Nat.le_trans (List.length_filter_le _ _) ?_
          rw [List.length_take]
          omega
        have hdom : inDom a.n a.cs t.1 t.2.1 = true := by
          unfold inDom
          rw [decide_eq_true tok.s, decide_eq_true tok.c]
          rfl
        refine s_dput (k := kSC t.1 t.2.1) (d := .list ((mvs (a.trs.take i) t.1 t.2.1).map eMv ++ [eMv t.2.2])) a8 (w7.step0 st8) hl0 rfl (d7.mono st8.g) (by omega)
          (xe_op (xe_dget (k := kSC t.1 t.2.1) (d := stG (a.trs.take i) t.1 t.2.1) (xe_var rfl) (XE.to (xe_slT (ds := [.int (t.1 : Int), .str (sg t.2.1), .int (t.2.2.1 : Int), .str (wS t.2.2.2)]) (xe_var rfl) xo_none (xo_some xe_int) (by show ¬ (HT.sIx 4 0 none = 0 ∧ HT.sIx 4 4 (some 2) = 4); decide)) rfl) (by rw [mapG_at, if_pos hdom])) (xe_lst1 (d := eMv t.2.2) (XE.to (xe_slT (ds := [.int (t.1 : Int), .str (sg t.2.1), .int (t.2.2.1 : Int), .str (wS t.2.2.2)]) (xe_var rfl) (xo_some xe_int) xo_none (by show ¬ (HT.sIx 4 0 (some 2) = 0 ∧ HT.sIx 4 4 none = 4); decide)) rfl)) (xr_cat (by rw [List.length_map, List.length_singleton]; omega)))
          (XE.to (xe_slT (ds := [.int (t.1 : Int), .str (sg t.2.1), .int (t.2.2.1 : Int), .str (wS t.2.2.2)]) (xe_var rfl) xo_none (xo_some xe_int) (by show ¬ (HT.sIx 4 0 none = 0 ∧ HT.sIx 4 4 (some 2) = 4); decide)) rfl) fun G10 H10 kvs2 st10 z10 d10 a10 w10 => ?_
        refine ⟨G10, st8.g.trans st10.g, kvs2, by omega, w10, ?_, a10.re (a10.env.sub (by repeat' constructor))⟩
        rw [mapG_put, mapG_ext (dom' := inDom a.n a.cs) (g' := stG (a.trs.take (i + 1))) (fun s d => ?_) (fun s d _ => stG_step ht s d)] at d10
        · exact d10
        · by_cases e : s = t.1 ∧ d = t.2.1
          · rw [e.1, e.2, hdom]
            rfl
          · have : (decide (s = t.1) && decide (d = t.2.1)) = false := by
              rw [← Bool.decide_and]
              exact decide_eq_false e
            rw [this, Bool.or_false]
      · rintro G7 H7 σ7 ⟨kvs, z7, w7, d7, a7⟩
        rw [List.take_length] at d7
        refine ⟨_, a7.own (i := 1) rfl, ?_⟩
        obtain ⟨a8, s8⟩ := a7.seal w7 hl0 nb0
        exact k _ _ _ a8.stp trivial ⟨l, kvs, rfl, (IsDT.rd (.inl rfl) upd_same), d7.mono s8⟩
end
end Ls
/-! Hf -/
set_option maxHeartbeats 1000000
namespace Ls
open PySem PySem.Spec PyProof.Rows L2
/-! ### _law_harmful: the plain side -/
def shT (k : Nat) (t : Tr) : Tr := (t.1 + 1 + k, t.2.1, t.2.2.1 + 1 + k, t.2.2.2)
def hmL (one : List Tr) : List Tr := one.map (shT 0)
def hmR (n : Nat) (two : List Tr) : List Tr := two.map (shT n)
def hmQ (n : Nat) (t : Tr) : Bool := decide (t.1 = 1) || decide (t.1 = 1 + n)
def hmF (n : Nat) (l : List Tr) : List Tr := (l.filter (hmQ n)).map fun t => (0, t.2)
def hmA (n : Nat) (one two : List Tr) : List Tr := (hmL one ++ hmR n two) ++ hmF n (hmL one ++ hmR n two)
def K3 (t : Tr) : TKey := kT3 t.1 t.2.1 t.2.2.1
theorem sh_nd {k : Nat} {l : List Tr} (h : (l.map K3).Nodup) : ((l.map (shT k)).map K3).Nodup := by
  unfold List.Nodup at *
  rw [List.pairwise_map] at h
  rw [List.pairwise_map, List.pairwise_map]
  refine h.imp fun {a b} ne e => ne ?_
  obtain ⟨e1, e2, e3⟩ := kT3_inj.mp e
  have e1 : a.1 + 1 + k = b.1 + 1 + k := e1
  have e3 : a.2.2.1 + 1 + k = b.2.2.1 + 1 + k := e3
  exact kT3_inj.mpr ⟨by omega, e2, by omega⟩
section
variable {n : Nat} {cs : List Nat} {one two : List Tr}
theorem hm_mem (h1 : RsOk n cs one) (h2 : RsOk 1 cs two) {t : Tr} (m : t ∈ hmL one ++ hmR n two) : t.2.1 ∈ cs ∧ ((1 ≤ t.1 ∧ t.1 ≤ n ∧ 1 ≤ t.2.2.1 ∧ t.2.2.1 ≤ n) ∨ (t.1 = n + 1 ∧ t.2.2.1 = n + 1)) := by
  rcases List.mem_append.mp m with z | z
  · obtain ⟨u, hu, rfl⟩ := List.mem_map.mp z
    have o := h1.ok u hu
    have a := o.s
    have b := o.t
    exact ⟨o.c, .inl ⟨by show 1 ≤ u.1 + 1 + 0; omega, by show u.1 + 1 + 0 ≤ n; omega, by show 1 ≤ u.2.2.1 + 1 + 0; omega, by show u.2.2.1 + 1 + 0 ≤ n; omega⟩⟩
  · obtain ⟨u, hu, rfl⟩ := List.mem_map.mp z
    have o := h2.ok u hu
    have a := o.s
    have b := o.t
    exact ⟨o.c, .inr ⟨by show u.1 + 1 + n = n + 1; omega, by show u.2.2.1 + 1 + n = n + 1; omega⟩⟩
theorem hm_nd0 (h1 : RsOk n cs one) (h2 : RsOk 1 cs two) : ((hmL one ++ hmR n two).map K3).Nodup := by
  rw [List.map_append]
  refine List.nodup_append.mpr ⟨sh_nd h1.nd, sh_nd h2.nd, fun a ha b hb e => ?_⟩
  obtain ⟨t, ht, rfl⟩ := List.mem_map.mp ha
  obtain ⟨u, hu, rfl⟩ := List.mem_map.mp hb
  obtain ⟨t0, ht0, rfl⟩ := List.mem_map.mp ht
  obtain ⟨u0, hu0, rfl⟩ := List.mem_map.mp hu
  obtain ⟨e1, _, _⟩ := kT3_inj.mp e
  have e1 : t0.1 + 1 + 0 = u0.1 + 1 + n := e1
  have := (h1.ok t0 ht0).s
  omega
theorem hm_ndF (h1 : RsOk n cs one) (h2 : RsOk 1 cs two) : ((hmF n (hmL one ++ hmR n two)).map K3).Nodup := by
  have h := hm_nd0 h1 h2
  unfold hmF
  unfold List.Nodup at *
  rw [List.pairwise_map] at h
  rw [List.pairwise_map, List.pairwise_map]
  refine (h.filter _).imp_of_mem fun {a b} ha hb ne e => ne ?_
  obtain ⟨ma, qa⟩ := List.mem_filter.mp ha
  obtain ⟨mb, qb⟩ := List.mem_filter.mp hb
  obtain ⟨_, e2, e3⟩ := kT3_inj.mp e
  have e3 : a.2.2.1 = b.2.2.1 := e3
  have pa := (hm_mem h1 h2 ma).2
  have pb := (hm_mem h1 h2 mb).2
  have sa : a.1 = 1 ∨ a.1 = 1 + n := by simpa [hmQ] using qa
  have sb : b.1 = 1 ∨ b.1 = 1 + n := by simpa [hmQ] using qb
  exact kT3_inj.mpr ⟨by omega, e2, e3⟩
theorem hm_ok (al : AlOk cs) (hn : 1 ≤ n) (hn2 : n ≤ 2) (h1 : RsOk n cs one) (h2 : RsOk 1 cs two) {l : List Tr} (p : l.Perm (hmA n one two)) : SpecOk ⟨cs, 2 + n, l, 0⟩ := by
  have hl : (hmA n one two).length ≤ 100 := by
    have a1 := h1.len
    have a2 := h2.len
    have a3 : n * cs.length ≤ 2 * 3 := Nat.mul_le_mul hn2 al.three
    have a4 := al.three
    have a5 : (hmL one ++ hmR n two).length ≤ 27 := by
      unfold hmL hmR
      rw [List.length_append, List.length_map, List.length_map]
      omega
    unfold hmA hmF
    rw [List.length_append, List.length_map]
    have := List.length_filter_le (hmQ n) (hmL one ++ hmR n two)
    omega
  refine ⟨⟨al, by show 1 ≤ 2 + n; omega, by show 2 + n ≤ 65; omega, by show 0 < 2 + n; omega, fun t ht => ?_, ?_, fun s c hs hc => ?_, by show l.length ≤ 1000; rw [p.length_eq]; omega⟩, by show 2 + n ≤ 4; omega⟩
  · have m := p.mem_iff.mp ht
    unfold hmA at m
    rcases List.mem_append.mp m with z | z
    · obtain ⟨q1, q2⟩ := hm_mem h1 h2 z
      exact ⟨by show t.1 < 2 + n; omega, q1, by show t.2.2.1 < 2 + n; omega⟩
    · unfold hmF at z
      obtain ⟨u, hu, rfl⟩ := List.mem_map.mp z
      obtain ⟨q1, q2⟩ := hm_mem h1 h2 (List.mem_filter.mp hu).1
      exact ⟨by show 0 < 2 + n; omega, q1, by show u.2.2.1 < 2 + n; omega⟩
  · refine ((p.map _).nodup_iff).mpr ?_
    show ((hmA n one two).map K3).Nodup
    unfold hmA
    rw [List.map_append]
    refine List.nodup_append.mpr ⟨hm_nd0 h1 h2, hm_ndF h1 h2, fun a ha b hb e => ?_⟩
    obtain ⟨t, ht, rfl⟩ := List.mem_map.mp ha
    obtain ⟨u, hu, rfl⟩ := List.mem_map.mp hb
    obtain ⟨u0, hu0, rfl⟩ := List.mem_map.mp hu
    obtain ⟨e1, _, _⟩ := kT3_inj.mp e
    have e1 : t.1 = 0 := e1
    have := (hm_mem h1 h2 ht).2
    omega
  · have key : ∀ x d, 1 ≤ x → x < 2 + n → d ∈ cs → ∃ t ∈ hmL one ++ hmR n two, t.1 = x ∧ t.2.1 = d := fun x d hx0 hx hd => by
      by_cases q : x ≤ n
      · obtain ⟨t, ht, e1, e2⟩ := mvs_ne.mp (h1.all (x - 1) d (by omega) hd)
        exact ⟨shT 0 t, List.mem_append_left _ (List.mem_map.mpr ⟨t, ht, rfl⟩), by show t.1 + 1 + 0 = x; omega, e2⟩
      · obtain ⟨t, ht, e1, e2⟩ := mvs_ne.mp (h2.all 0 d (by omega) hd)
        exact ⟨shT n t, List.mem_append_right _ (List.mem_map.mpr ⟨t, ht, rfl⟩), by show t.1 + 1 + n = x; omega, e2⟩
    refine mvs_ne.mpr ?_
    by_cases q : s = 0
    · obtain ⟨t, ht, e1, e2⟩ := key 1 c (by omega) (by omega) hc
      refine ⟨(0, t.2), p.mem_iff.mpr (List.mem_append_right _ (List.mem_map.mpr ⟨t, List.mem_filter.mpr ⟨ht, ?_⟩, rfl⟩)), q.symm, e2⟩
      unfold hmQ
      rw [decide_eq_true e1]
      rfl
    · have hs2 : s < 2 + n := hs
      obtain ⟨t, ht, e1, e2⟩ := key s c (by omega) hs2 hc
      exact ⟨t, p.mem_iff.mpr (List.mem_append_left _ ht), e1, e2⟩
end
end Ls
/-! F12 -/
set_option maxHeartbeats 4000000
namespace Ls
open PySem PySem.Spec PyProof.Rows L2
section
variable {P : Program} {w : World} {K : PySem.W.Frag} {mg : Str → Option Value} {base : Heap}
/-- the letters of a board's moves -/
def LetOf (b : Brd) (c : Nat) : Prop := ∃ t ∈ b.ms, t.2.1 = c
theorem dput_dk {H : Hp} {a : Addr} {kvs : List (Key × V)} {z : Str} {v : V} (e : H a = some (.dK kvs)) (hl : kvs.length < sizeLine) : DPut H a (.str z) v (upd H a (.dK (L2.putK kvs (.inr z) v))) := .inl ⟨kvs, .inr z, e, rfl, hl, rfl⟩
theorem putK_mem {kvs : List (Key × V)} {k : Key} {v : V} {P : Key → Prop} (h : ∀ kv ∈ kvs, P kv.1) (hk : P k) : ∀ kv ∈ L2.putK kvs k v, P kv.1 := by
  intro kv hm
  unfold L2.putK at hm
  split at hm
  · obtain ⟨q, hq, e⟩ := List.mem_map.mp hm
    split at e
    · rw [← e]
      exact h q hq
    · rw [← e]
      exact h q hq
  · rcases List.mem_append.mp hm with z | z
    · exact h kv z
    · rw [List.mem_singleton.mp z]
      exact hk
theorem keys_sg {P : Nat → Prop} : ∀ {kvs : List (Key × V)}, (∀ kv ∈ kvs, ∃ c, kv.1 = .inr (sg c) ∧ P c) → ∃ cs : List Nat, cs.length = kvs.length ∧ (kvs.map fun kv => kD kv.1) = cs.map (fun c => PyData.str (sg c)) ∧ ∀ c ∈ cs, P c
  | [], _ => ⟨[], rfl, rfl, fun c h => by cases h⟩
  | kv :: r, h => by
    obtain ⟨c, e, pc⟩ := h kv List.mem_cons_self
    obtain ⟨cs, hl, e2, hp⟩ := keys_sg fun q hq => h q (List.mem_cons_of_mem _ hq)
    refine ⟨c :: cs, by simp [hl], ?_, fun d hd => ?_⟩
    · rw [List.map_cons, List.map_cons, e2, e]
      rfl
    · rcases List.mem_cons.mp hd with z | z
      · rw [z]
        exact pc
      · exact hp d z
theorem sortable_sg (l : List Nat) : PySem.W.AllAlike (l.map fun c => PyData.str (sg c)) ∧ PySem.W.Sortable (l.map fun c => PyData.str (sg c)) ∧ ∀ d ∈ l.map (fun c => PyData.str (sg c)), d.depth ≤ 60 := by
  refine ⟨PySem.W.AllAlike.of (enc := fun c => PyData.str (sg c)) fun b b' => by simp [PySem.W.alike], PySem.W.Sortable.others (enc := fun c => PyData.str (sg c)) fun b => ⟨(by simp), fun xs h => by cases h⟩, fun d hd => ?_⟩
  obtain ⟨b, hb, rfl⟩ := List.mem_map.mp hd
  exact Nat.zero_le _
def sp_b_letters (K : PySem.W.Frag) : Sp := fun vs H Q E => ∃ b : Brd, BrdOk b ∧ spA A0 [boardS K b] (ex (fun l : List Nat => l.length ≤ 10000000 ∧ ∀ c ∈ l, LetOf b c) fun l => dat (.str (aS l))) vs H Q E
abbrev N_b_letters : List Str := ["self", "found", "row", "letter", "_"]
theorem sc_b_letters : FnScope ["self", "found", "row", "letter", "_"] ["self"] (defScope s_b_letters) := ⟨rfl, rfl, rfl, by decide +kernel, rfl, by decide +kernel, by decide +kernel⟩
theorem ok_b_letters {f : Addr} {fd : FuncData} (F : FnP K "letters" "Board.letters" s_b_letters [] [] f fd) (T : Fx K mg) : FnOk P w K mg base CX0 1 f fd ["self"] (sp_b_letters K) := by
  refine F.ok sc_b_letters (fun vs H Q E h => ?_) (fun cdv A outer st H vs Q E hr h => ?_)
  · obtain ⟨_, _, h⟩ := h
    exact spA_len h
  · obtain ⟨b, ok, G, sG, _, ps, k⟩ := h
    obtain ⟨v1, rfl, p1⟩ := ps_one ps
    refine ⟨_, PSs.nox (pss_cons (ps_setDc2 (i := 1) (emp := .dK []) (own := [("row", 2), ("letter", 3), ("_", 4)]) (vs1 := [3, 4]) (Or.inl rfl) (by rfl) (hu_of hr) sc_b_letters.nd rfl rfl (sw_trueD rfl rfl rfl (by decide +kernel)) (pi_listK K (pe_fldK K (pv 0) rfl)) (blkOk_by (by kernel_rfl)) (by decide) (fun _ _ _ _ _ => (pg_name (i := 2) sc_b_letters.nd rfl (Or.inl rfl))) (fun _ _ _ _ _ => pts_nil) (fun _ _ _ _ _ => (pi_listK K (pv 2))) (fun _ _ _ _ _ => (pg_tupK K (n := 2) (by rfl) (pgs_cons (pg_name (i := 3) sc_b_letters.nd rfl (Or.inl rfl)) (pgs_cons (pg_name (i := 4) sc_b_letters.nd rfl (Or.inl rfl)) pgs_nil)))) (fun _ _ _ _ _ => pts_nil) (fun _ _ _ _ _ => (pv 3)) (fun _ _ _ _ _ => pe_bl))
  (pss_one (ps_ret (pe_joinK K pe_str (pe_callB (cr_sortedDK K hr) (by rfl) T.b_sorted bt_sorted (pa_cons (pe_callTy (call_listDQ rfl) (by rfl) T.b_list bt_list (pa_cons (pv 1) pa_nil)) pa_nil)))))), ?_⟩
    have a : At A0 G H G H _ [some (boardS K b), none, none, none, none] := At.begin (vs := [v1]) (N := N_b_letters) (EnvOk.nil.skip.skip.skip.skip.cons p1) sG trivial
    have most := ok.most
    have sm := ok.sm
    refine q_dcg ?_
    refine (xi_listT (l := List.range b.ow.length) (e := bmvD b.ms) (xe_fld (i := 1) (xe_var rfl) T.c_Board T.n_b2 (by decide +kernel) rfl)) G H _ _ a.env a.s fun J G1 H1 st1 wk => ?_
    intro D hD
    have a1 := a.step0 st1
    obtain ⟨a2, w2, fD⟩ := a1.fresh (o := .dK []) hD
    refine loop1_ok wk (fun i G' H' => At A0 G H G' H' _ _ ∧ Same G1 G' ∧ ∃ kvs, Own G' H' D (.dK kvs) ∧ (∀ kv ∈ kvs, ∃ c, kv.1 = .inr (sg c) ∧ LetOf b c) ∧ kvs.length ≤ 1000 * i)
      (fun i G' H' h => ⟨h.2.1, h.1.s⟩) ⟨a2, Same.refl _, [], w2, fun kv h => (by cases h), Nat.zero_le _⟩ ?_ ?_
    · rintro i xi G3 H3 hxi ⟨a3, s3, kvs3, w3, q3, hl3⟩ v4 G4 H4 st4 p4
      obtain ⟨hi, rfl⟩ := range_get hxi
      refine ⟨(Off.set (js := [2]) (by simp)).wipe (by simp), tYes_if ?_⟩
      have a4 := a3.step0 st4
      obtain ⟨m, pm, em⟩ := bmvD_map b.ms xi
      rw [em] at p4
      have hml : m.length ≤ 1000 := by
        rw [pm.length_eq]
        unfold bmvs
        rw [List.length_map]
        exact Nat.le_trans (List.length_filter_le _ _) sm
      have E4 : EnvOk G4 _ _ := (a4.env.wiped [2, 3, 4]).set 2 p4
      refine (xi_listT (l := m) (e := eLt) (xe_var (i := 2) rfl)) G4 H4 _ _ E4 a4.s fun J1 G5 H5 st5 wk5 => ?_
      have a5 := a4.step0 st5
      refine loop1_ok wk5 (fun j G' H' => At A0 G H G' H' _ _ ∧ Same G5 G' ∧ ∃ kvs, Own G' H' D (.dK kvs) ∧ (∀ kv ∈ kvs, ∃ c, kv.1 = .inr (sg c) ∧ LetOf b c) ∧ kvs.length ≤ 1000 * xi + j)
        (fun i G' H' h => ⟨h.2.1, h.1.s⟩) ⟨a5, Same.refl _, kvs3, (w3.step0 st4).step0 st5, q3, by omega⟩ ?_ ?_
      · rintro j y G6 H6 hy ⟨a6, s6, kvs6, w6, q6, hl6⟩ v7 G7 H7 st7 p7
        have a7 := a6.step0 st7
        have hyl : LetOf b y.1 := by
          have hm := pm.mem_iff.mp (List.mem_of_getElem? hy)
          unfold bmvs at hm
          obtain ⟨t, ht, e⟩ := List.mem_map.mp hm
          exact ⟨t, (List.mem_filter.mp ht).1, by rw [← e]⟩
        have hjm : j < m.length := (List.getElem?_eq_some_iff.mp hy).1
        have E7 := (E4.mono (st5.g.trans (s6.trans st7.g))).wiped [3, 4]
        refine (xg_tup2 (by simp) (by simp) : XG _ _ [3, 4] _ _) G7 H7 _ v7 _ E7 a7.s p7 fun σ8 E8 off => ⟨off.wipe (by simp), tYes_if ?_⟩
        refine (xe_var (A := A0) (i := 3) rfl) G7 H7 _ _ E8 a7.s trivial fun y8 G8 H8 st8 _ p8 => ?_
        have a8 := a7.step0 st8
        obtain rfl := Rp.str_inv p8
        refine xe_bl (A := A0) (b := true) G8 H8 _ _ (E8.mono st8.g) a8.s trivial fun z9 G9 H9 st9 _ p9 => ?_
        have a9 := a8.step0 st9
        have w9 := ((w6.step0 st7).step0 st8).step0 st9
        refine ⟨_, dput_dk w9.h (Nat.lt_of_le_of_lt (show kvs6.length ≤ 1001000 by omega) (by decide)), ?_⟩
        obtain ⟨a10, w10⟩ := a9.mut (o' := .dK (L2.putK kvs6 (.inr (sg y.1)) z9)) w9 fD nb0
        exact ⟨G9, a10, s6.trans ((st7.g.trans st8.g).trans st9.g), _, w10, putK_mem (P := fun k => ∃ c, k = .inr (sg c) ∧ LetOf b c) q6 ⟨y.1, rfl, hyl⟩, by have := length_putK kvs6 (.inr (sg y.1)) z9; omega⟩
      · rintro G6 H6 ⟨a6, s6, kvs6, w6, q6, hl6⟩
        exact ⟨G6, a6, s3.trans ((st4.g.trans st5.g).trans s6), kvs6, w6, q6, by omega⟩
    · rintro G3 H3 ⟨a3, s3, kvs3, w3, q3, hl3⟩
      rw [List.length_range] at hl3
      have a4 := a3.re (a3.env.set 1 (φ := isV (.ref D)) rfl)
      obtain ⟨a5, s5⟩ := a4.seal w3 fD nb0
      have a6 := a5.re (a5.env.put (j := 1) (a5.own (i := 1) rfl) (φ := dkS kvs3) ⟨D, rfl, upd_same⟩)
      obtain ⟨cs, hcl, ecs, hcs⟩ := keys_sg q3
      obtain ⟨l, pl, el⟩ := sortD_map (fun c => PyData.str (sg c)) cs
      obtain ⟨sa, sb, sc⟩ := sortable_sg cs
      have hll : l.length ≤ 10000000 := by
        rw [pl.length_eq, hcl]
        exact Nat.le_trans hl3 (by omega)
      refine s_ret a6 (xe_joinSg (l := l) (XE.to (xe_cb (xa_cons (XE.to (xe_cb (xa_cons (xe_var (i := 1) rfl) xa_nil) xc_listDK) (by rw [ecs])) xa_nil) (xc_sorted sa sb sc)) (by rw [el])) hll) fun v7 G7 H7 st7 _ p7 => ?_
      exact k v7 G7 H7 st7 trivial ⟨l, ⟨hll, fun c hc => hcs c (pl.mem_iff.mp hc)⟩, p7⟩
end
end Ls
/-! F13 -/
set_option maxHeartbeats 4000000
namespace Ls
open PySem PySem.Spec PyProof.Rows L2
section
variable {P : Program} {w : World} {K : PySem.W.Frag} {mg : Str → Option Value} {base : Heap}
def eChI (ch : List Item) : PyData := .list (ch.map fun i => eQ i.1)
def eNchI (ch : List Item) : PyData := .list (ch.map fun i => eN3 i.2)
def eRowI (r : List (List Item)) : PyData := .list (r.map eChI)
def eNrowI (r : List (List Item)) : PyData := .list (r.map eNchI)
theorem eChI_eq (ch : List Item) : eChI ch = eCh (ch.map (·.1)) := by
  unfold eChI eCh
  rw [List.map_map]
  rfl
theorem eNchI_eq (ch : List Item) : eNchI ch = eNch (ch.map (·.2)) := by
  unfold eNchI eNch
  rw [List.map_map]
  rfl
theorem eRowI_eq (r : List (List Item)) : eRowI r = eRow (r.map fun ch => ch.map (·.1)) := by
  unfold eRowI eRow
  rw [List.map_map]
  congr 1
  exact List.map_congr_left fun ch _ => eChI_eq ch
theorem eNrowI_eq (r : List (List Item)) : eNrowI r = eNrow (r.map fun ch => ch.map (·.2)) := by
  unfold eNrowI eNrow
  rw [List.map_map]
  congr 1
  exact List.map_congr_left fun ch _ => eNchI_eq ch
structure BInv (b : Brd) (a : Aut) (st : Nat) (G H : Hp) (pl : Addr) (F : List (Nat × Nat)) (n : Nat) (xf xo xn : List V) (kvs : List (TKey × V)) : Prop where
  pos : PosOk b a st F
  le : n ≤ F.length
  f : RpAll G xf (F.map eQ)
  o : RpAll G xo ((F.take n).map fun p => eRowI (rowR b a F p))
  m : RpAll G xn ((F.take n).map fun p => eNrowI (rowR b a F p))
  clo : ∀ p ∈ F.take n, CloAt b a F p
  d : Own G H pl (.dT kvs)
  df : DF G kvs (posF F)
  kl : kvs.length ≤ F.length
section
variable {b : Brd} {a : Aut} {st : Nat} {G H G2 H2 : Hp} {pl : Addr} {F : List (Nat × Nat)} {n : Nat} {xf xo xn : List V} {kvs : List (TKey × V)}
theorem BInv.step (I : BInv b a st G H pl F n xf xo xn kvs) (t : Stp A0 G H G2 H2) : BInv b a st G2 H2 pl F n xf xo xn kvs :=
  ⟨I.pos, I.le, I.f.mono t.g, I.o.mono t.g, I.m.mono t.g, I.clo, I.d.step0 t, I.df.mono t.g, I.kl⟩
theorem BInv.mut (I : BInv b a st G H pl F n xf xo xn kvs) {l : Addr} {xs : List V} {o : HO} (w : Own G H l (.lst xs)) : BInv b a st G (upd H l o) pl F n xf xo xn kvs :=
  ⟨I.pos, I.le, I.f, I.o, I.m, I.clo, I.d.mut (fun e => by
    have h := I.d.h
    rw [e, w.h] at h
    cases h), I.df, I.kl⟩
theorem BInv.seal (I : BInv b a st G H pl F n xf xo xn kvs) {l : Addr} {xs : List V} (w : Own G H l (.lst xs)) : BInv b a st (upd G l (.lst xs)) H pl F n xf xo xn kvs := by
  have s := same_new (o := .lst xs) w.g
  exact ⟨I.pos, I.le, I.f.mono s, I.o.mono s, I.m.mono s, I.clo, I.d.seal (fun e => by
    have h := I.d.h
    rw [e, w.h] at h
    cases h), I.df.mono s, I.kl⟩
theorem take_app {α : Type} {F E : List α} {n : Nat} (h : n ≤ F.length) : (F ++ E).take n = F.take n := List.take_append_of_le_length h
/-- a new place -/
theorem BInv.grow (I : BInv b a st G H pl F n xf xo xn kvs) {p : Nat × Nat} {v : V} {kvs2 : List (TKey × V)} (hp : p ∉ F) (hr : p.1 < b.ow.length ∧ p.2 < a.n) (s : Same G G2) (rv : Rp G2 v (eQ p)) (d : Own G2 H2 pl (.dT kvs2)) (df : DF G2 kvs2 (posF (F ++ [p]))) (kl : kvs2.length ≤ kvs.length + 1) : BInv b a st G2 H2 pl (F ++ [p]) n (xf ++ [v]) xo xn kvs2 := by
  have hc : ∀ q ∈ F.take n, CloAt b a F q := I.clo
  refine ⟨⟨?_, ?_, ?_⟩, ?_, ?_, ?_, ?_, ?_, d, df, ?_⟩
  · rw [List.nodup_append]
    exact ⟨I.pos.nd, by simp, fun x hx y hy e => by
      rw [List.mem_singleton.mp hy] at e
      exact hp (e ▸ hx)⟩
  · intro q hq
    rcases List.mem_append.mp hq with z | z
    · exact I.pos.rng q z
    · rw [List.mem_singleton.mp z]
      exact hr
  · have h0 := I.pos.hd
    rw [List.getElem?_append_left (List.getElem?_eq_some_iff.mp h0).1]
    exact h0
  · rw [List.length_append]
    have := I.le
    omega
  · rw [List.map_append]
    exact (I.f.mono s).append (.cons rv .nil)
  · rw [take_app I.le]
    have := I.o.mono s
    rw [List.map_congr_left fun q hq => congrArg eRowI (rowR_app (E := [p]) (hc q hq)).symm] at this
    exact this
  · rw [take_app I.le]
    have := I.m.mono s
    rw [List.map_congr_left fun q hq => congrArg eNrowI (rowR_app (E := [p]) (hc q hq)).symm] at this
    exact this
  · rw [take_app I.le]
    exact fun q hq => (hc q hq).app
  · rw [List.length_append]
    have := I.kl
    simp
    omega
end
section
variable {ρ : Env} {te : TE} {tt : TT} {G0 H0 G H : Hp} {σ : L2.St} {D : Ends} {t tz : TS}
theorem q_ifD {l : Addr} {kvs : List (TKey × V)} {f : DFn} {i : Nat} {o : HO} {b : Bool} (ho : IsDT kvs o) (a : At A0 G0 H0 G H σ ρ) (w : Own G H l o) (hi : ρ[i]? = some (some (isV (.ref l)))) (df : DF G kvs f) (h : XT A0 tt (ρ.set i (some (dicS f))) b)
    (h1 : b = true → ∀ H2, Stp A0 G H G H2 → At A0 G0 H0 G H2 σ ρ → t { D with nx := tz D } σ H2) (h2 : b = false → ∀ H2, Stp A0 G H G H2 → At A0 G0 H0 G H2 σ ρ → tz D σ H2) : tSeq (tIfS tt t tNext) tz D σ H :=
  a.viewDT ho w hi df h fun H2 s => by
    cases b with
    | true =>
      rw [if_pos rfl]
      exact h1 rfl H2 s (a.step0 s)
    | false =>
      rw [if_neg Bool.false_ne_true]
      exact h2 rfl H2 s (a.step0 s)
end
def sp_board_options (K : PySem.W.Frag) : Sp := fun vs H Q E => ∃ (b : Brd) (a : Aut) (st : Nat), BrdOk b ∧ AutOk a ∧ Sml b a ∧ st < b.ow.length ∧ (∀ m ∈ b.ms, m.2.1 ∈ a.cs) ∧
  spA A0 [boardS K b, autS K a, dat (.int (st : Int))] (ex (fun F => F = bfs b a st ∧ PosOk b a st F ∧ ∀ p ∈ F, CloAt b a F p) fun F => dat (.tuple [.list (F.map eQ), eG (gameOf b a F), eNm (namesOf b a F)])) vs H Q E
abbrev N_board_options : List Str := ["board", "automaton", "start", "first", "found", "place", "options", "names", "at", "node", "state", "row", "words", "letter", "late", "replies", "told", "target", "word", "reply", "one"]
theorem sc_board_options : FnScope ["board", "automaton", "start", "first", "found", "place", "options", "names", "at", "node", "state", "row", "words", "letter", "late", "replies", "told", "target", "word", "reply", "one"] ["board", "automaton", "start"] (defScope s_board_options) := ⟨rfl, rfl, rfl, by decide +kernel, rfl, by decide +kernel, by decide +kernel⟩
theorem ok_board_options {f : Addr} {fd : FuncData} (F : FnP K "board_options" "board_options" s_board_options [] [] f fd) (T : Fx K mg) (M_b_moves_of : Md P w K mg base (He.ga K "Board") "moves_of" 3 ["self", "node"] (sp_b_moves_of K)) (M_b_owner : Md P w K mg base (He.ga K "Board") "owner" 3 ["self", "node"] (sp_b_owner K))
    (M_a_moves : Md P w K mg base (He.ga K "Automaton") "moves" 3 ["self", "state", "letter"] (sp_a_moves K)) : FnOk P w K mg base CX0 4 f fd ["board", "automaton", "start"] (sp_board_options K) := by
  refine F.ok sc_board_options (fun vs H Q E h => ?_) (fun cdv A outer st H vs Q E hr h => ?_)
  · obtain ⟨_, _, _, _, _, _, _, _, h⟩ := h
    exact spA_len h
  · obtain ⟨b, au, s0, okb, oka, sm, hs0, hlt, G, sG, _, ps, k⟩ := h
    obtain ⟨v1, v2, v3, rfl, p1, p2, p3⟩ := ps_three ps
    refine ⟨_, PSs.nox (pss_cons (ps_set (i := 3) sc_board_options.nd rfl (Or.inl rfl) (pe_tup (pa_cons (pv 2) (pa_cons (pe_fldK K (pv 1) rfl) pa_nil))))
  (pss_cons (ps_asg (pe_tup (pa_cons (pe_lst (pa_cons (pv 3) pa_nil)) (pa_cons (pe_dispT (hu_of hr) (pv 3) pe_int) (pa_cons (pe_lst pa_nil) (pa_cons (pe_lst pa_nil) (pa_cons pe_int pa_nil)))))) (pg_tupK K (n := 5) (by rfl) (pgs_cons (pg_name (i := 4) sc_board_options.nd rfl (Or.inl rfl)) (pgs_cons (pg_name (i := 5) sc_board_options.nd rfl (Or.inl rfl)) (pgs_cons (pg_name (i := 6) sc_board_options.nd rfl (Or.inl rfl)) (pgs_cons (pg_name (i := 7) sc_board_options.nd rfl (Or.inl rfl)) (pgs_cons (pg_name (i := 8) sc_board_options.nd rfl (Or.inl rfl)) pgs_nil)))))))
  (pss_cons (ps_while PassesOwn.never (pt_cmpR op_lt (pv 8) (pe_callB (call_lenK K) (by rfl) T.b_len PySem.boot_len (pa_cons (pv 4) pa_nil)) (nomark _)) (pss_cons (ps_asg (pe_ix (ix_listK K) (pv 4) (pv 8) (fun _ _ => rfl)) (pg_tupK K (n := 2) (by rfl) (pgs_cons (pg_name (i := 9) sc_board_options.nd rfl (Or.inl rfl)) (pgs_cons (pg_name (i := 10) sc_board_options.nd rfl (Or.inl rfl)) pgs_nil))))
  (pss_cons (ps_par (i := 11) (j := 12) (by rfl) sc_board_options.nd rfl rfl (by decide) rfl rfl (pa_cons (pe_lst pa_nil) (pa_cons (pe_lst pa_nil) pa_nil)) (by rfl))
  (pss_cons (ps_for PassesOwn.never (by rfl) (pi_listK K (pe_md (pv 0) T.c_Board M_b_moves_of (hr.mono (by decide)) (pa_cons (pv 9) pa_nil))) (pg_tupK K (n := 2) (by rfl) (pgs_cons (pg_name (i := 13) sc_board_options.nd rfl (Or.inl rfl)) (pgs_cons (pg_name (i := 14) sc_board_options.nd rfl (Or.inl rfl)) pgs_nil))) (pss_cons (ps_par (i := 15) (j := 16) (by rfl) sc_board_options.nd rfl rfl (by decide) rfl rfl (pa_cons (pe_lst pa_nil) (pa_cons (pe_lst pa_nil) pa_nil)) (by rfl))
  (pss_cons (ps_for PassesOwn.never (by rfl) (pi_listK K (pe_md (pv 1) T.c_Automaton M_a_moves (hr.mono (by decide)) (pa_cons (pv 10) (pa_cons (pv 13) pa_nil)))) (pg_tupK K (n := 2) (by rfl) (pgs_cons (pg_name (i := 17) sc_board_options.nd rfl (Or.inl rfl)) (pgs_cons (pg_name (i := 18) sc_board_options.nd rfl (Or.inl rfl)) pgs_nil))) (pss_cons (ps_if (pt_cmp (pc_dnotin (hu_of hr) (pe_tup (pa_cons (pv 14) (pa_cons (pv 17) pa_nil))) (pv 5)) rfl) (pss_cons (ps_dput (hu_of hr) (pv 5) (pe_tup (pa_cons (pv 14) (pa_cons (pv 17) pa_nil))) (pe_callB (call_lenK K) (by rfl) T.b_len PySem.boot_len (pa_cons (pv 4) pa_nil)) rfl)
  (pss_one (ps_expr (pe_bm PySem.F.plainAttrs_list PySem.F.slot_list_append PySem.F.type_list_append mt_append (pv 4) (pa_cons (pe_tup (pa_cons (pv 14) (pa_cons (pv 17) pa_nil))) pa_nil))))) pss_nil)
  (pss_cons (ps_expr (pe_bm PySem.F.plainAttrs_list PySem.F.slot_list_append PySem.F.type_list_append mt_append (pv 15) (pa_cons (pe_tup (pa_cons (pe_dget (hu_of hr) (pv 5) (pe_tup (pa_cons (pv 14) (pa_cons (pv 17) pa_nil))) (fun _ _ => rfl)) (pa_cons (pe_callTy call_int1Q (by rfl) T.b_int bt_int (pa_cons (pe_cmpR op_eq (pv 18) (pe_gstr rfl T.mSLIP) (nomark _)) pa_nil)) pa_nil))) pa_nil)))
  (pss_one (ps_expr (pe_bm PySem.F.plainAttrs_list PySem.F.slot_list_append PySem.F.type_list_append mt_append (pv 16) (pa_cons (pe_tup (pa_cons (pv 13) (pa_cons (pv 14) (pa_cons (pv 17) pa_nil)))) pa_nil)))))))
  (pss_cons (ps_expr (pe_bm PySem.F.plainAttrs_list PySem.F.slot_list_append PySem.F.type_list_append mt_append (pv 11) (pa_cons (pv 15) pa_nil)))
  (pss_one (ps_expr (pe_bm PySem.F.plainAttrs_list PySem.F.slot_list_append PySem.F.type_list_append mt_append (pv 12) (pa_cons (pv 16) pa_nil))))))))
  (pss_cons (ps_if (pt_cmpR op_eq (pe_md (pv 0) T.c_Board M_b_owner (hr.mono (by decide)) (pa_cons (pv 9) pa_nil)) pe_int (nomark _)) (pss_cons (ps_set (i := 11) sc_board_options.nd rfl (Or.inl rfl) (pe_lst (pa_cons (pe_lc2 (own := [("replies", 15), ("reply", 19)]) (vs1 := [19]) (by rfl) sc_board_options.nd (pi_listK K (pv 11)) (blkOk_by (by kernel_rfl)) (by decide) (fun _ _ _ _ _ => (pg_name (i := 15) sc_board_options.nd rfl (Or.inl rfl))) (fun _ _ _ _ _ => pts_nil) (fun _ _ _ _ _ => (pi_listK K (pv 15))) (fun _ _ _ _ _ => (pg_name (i := 19) sc_board_options.nd rfl (Or.inl rfl))) (fun _ _ _ _ _ => pts_nil) (fun _ _ _ _ _ => (pv 19))) pa_nil)))
  (pss_one (ps_set (i := 12) sc_board_options.nd rfl (Or.inl rfl) (pe_lst (pa_cons (pe_lc2 (own := [("told", 16), ("one", 20)]) (vs1 := [20]) (by rfl) sc_board_options.nd (pi_listK K (pv 12)) (blkOk_by (by kernel_rfl)) (by decide) (fun _ _ _ _ _ => (pg_name (i := 16) sc_board_options.nd rfl (Or.inl rfl))) (fun _ _ _ _ _ => pts_nil) (fun _ _ _ _ _ => (pi_listK K (pv 16))) (fun _ _ _ _ _ => (pg_name (i := 20) sc_board_options.nd rfl (Or.inl rfl))) (fun _ _ _ _ _ => pts_nil) (fun _ _ _ _ _ => (pv 20))) pa_nil))))) pss_nil)
  (pss_cons (ps_expr (pe_bm PySem.F.plainAttrs_list PySem.F.slot_list_append PySem.F.type_list_append mt_append (pv 6) (pa_cons (pv 11) pa_nil)))
  (pss_cons (ps_expr (pe_bm PySem.F.plainAttrs_list PySem.F.slot_list_append PySem.F.type_list_append mt_append (pv 7) (pa_cons (pv 12) pa_nil)))
  (pss_one (ps_aug (i := 8) sc_board_options.nd rfl (Or.inl rfl) pe_int ip_add)))))))))
  (pss_one (ps_ret (pe_tup (pa_cons (pv 4) (pa_cons (pv 6) (pa_cons (pv 7) pa_nil))))))))), ?_⟩
    have a : At A0 G H G H _ [some (boardS K b), some (autS K au), some (dat (.int (s0 : Int))), none, none, none, none, none, none, none, none, none, none, none, none, none, none, none, none, none, none] := At.begin (vs := [v1, v2, v3]) (N := N_board_options) (((EnvOk.nil.skip.skip.skip.skip.skip.skip.skip.skip.skip.skip.skip.skip.skip.skip.skip.skip.skip.skip.cons p3).cons p2).cons p1) sG trivial
    have hini := oka.ini
    -- first = (start, automaton.initial)
    refine q_asg (φ := dat (eQ (s0, au.ini))) a (xe_tup2 (xe_var rfl) (xe_fld (i := 2) (xe_var rfl) T.c_Automaton T.n_a3 (by decide +kernel) rfl)) fun vf G1 H1 st1 pf a1 => ?_
    have e3 : (L2.start N_board_options [v1, v2, v3]).set 3 (some vf) = _ := rfl
    have hv3 : ((L2.start N_board_options [v1, v2, v3]).set 3 (some vf))[3]? = some (some vf) := rfl
    -- found, place, options, names, at = ..
    refine ⟨vf, hv3, (show 1 ≤ sizeLine by decide), fun fo hfo => ?_⟩
    obtain ⟨a2, w2, ffo⟩ := a1.fresh (o := .lst [vf]) hfo
    intro pl hpl
    obtain ⟨a3, w3, fpl⟩ := a2.fresh (o := .dT []) hpl
    have st3 : Stp A0 G1 (upd H1 fo (.lst [vf])) G1 (upd (upd H1 fo (.lst [vf])) pl (.dT [])) := Stp.only a2.s (same_new hpl)
    obtain ⟨bk, rfl, hbk⟩ := rp_tkey (k := kNN s0 au.ini) pf
    refine ⟨_, hv3, ?_⟩
    obtain ⟨a4, w4⟩ := a3.mut (o' := .dT (L2.putK [] (kNN s0 au.ini) (.int 0))) w3 fpl nb0
    refine ⟨_, .t w3.h (a3.s _ _ hbk) (by decide), ?_⟩
    have nfp : fo ≠ pl := fun e => by
      rw [← e, upd_same] at hpl
      cases hpl
    have wf4 := (w2.step0 st3).mut (l := pl) (o' := .dT (L2.putK [] (kNN s0 au.ini) (.int 0))) nfp
    refine ⟨Nat.zero_le _, fun op hop => ⟨Nat.zero_le _, fun nm hnm => ?_⟩⟩
    have st4 := Stp.only a4.s (same_new (o := .lst []) hop)
    obtain ⟨a5, w5, fop⟩ := a4.fresh (o := .lst []) hop
    have wf5 := wf4.step0 st4
    have wp5 := w4.step0 st4
    have st5 := Stp.only a5.s (same_new (o := .lst []) hnm)
    obtain ⟨a6, w6, fnm⟩ := a5.fresh (o := .lst []) hnm
    have wf6 := wf5.step0 st5
    have wp6 := wp5.step0 st5
    have wo6 := w5.step0 st5
    have no1 : op ≠ nm := fun e => by
      rw [← e, w5.h] at hnm
      cases hnm
    have no2 : fo ≠ nm := fun e => by
      rw [← e, wf5.h] at hnm
      cases hnm
    have no3 : fo ≠ op := fun e => by
      rw [← e, wf4.h] at hop
      cases hop
    have fam6 := ((Fam.nil.cons w6 (by simp) fnm).cons wo6 (fun h => no1 (List.mem_singleton.mp h)) fop).cons wf6 (fun h => by
      rcases List.mem_cons.mp h with z | z
      · exact no3 z
      · exact no2 (List.mem_singleton.mp z)) ffo
    refine ⟨(show 5 ≤ sizeLine by decide), fun tp htp => ?_⟩
    have st6 := Stp.only a6.s (same_new (o := .tup [.ref fo, .ref pl, .ref op, .ref nm, .int 0]) htp)
    have a7 := a6.step0 st6
    have fam7 := fam6.step st6
    have wp7 := wp6.step0 st6
    refine ⟨tp, _, rfl, SqT.of upd_same, rfl, ⟨_, _, rfl, ⟨_, _, rfl, ⟨_, _, rfl, ⟨_, _, rfl, ⟨_, _, rfl, ⟨rfl, ?_⟩⟩⟩⟩⟩⟩⟩
    have a8 := a7.re (((((a7.env.set 4 (φ := isV (.ref fo)) rfl).set 5 (φ := isV (.ref pl)) rfl).set 6 (φ := isV (.ref op)) rfl).set 7 (φ := isV (.ref nm)) rfl).set 8 (φ := dat (.int ((0 : Nat) : Int))) (.int _))
    have hF0 : posF [(s0, au.ini)] = putF (posF []) (kNN s0 au.ini) (.int 0) := (posF_put (F := []) (p := (s0, au.ini)) (by simp)).symm
    have I8 : BInv b au s0 G1 _ pl [(s0, au.ini)] 0 [.ref bk] [] [] _ := ⟨⟨by simp, fun p hp => by
      rw [List.mem_singleton.mp hp]
      exact ⟨hs0, hini⟩, rfl⟩, Nat.zero_le _, .cons pf .nil, .nil, .nil, fun p hp => by simp at hp, wp7, (by
        rw [hF0]
        exact DF.put (kvs := []) ⟨fun _ _ e => (by cases e), fun _ _ => rfl⟩ (.int 0)), length_putK [] (kNN s0 au.ini) (.int 0)⟩
    generalize upd (upd (upd (upd (upd (upd H1 fo (.lst [.ref bk])) pl (.dT [])) pl (.dT (L2.putK [] (kNN s0 au.ini) (.int 0)))) op (.lst [])) nm (.lst [])) tp (.tup [.ref fo, .ref pl, .ref op, .ref nm, .int 0]) = H7 at a8 fam7 I8
    -- while at < len(found)
    refine q_while (fun m G' H' σ' => ∃ F n xf xo xn kvs, m = 100 - n ∧ At A0 G H G' H' σ' [some (boardS K b), some (autS K au), some (dat (.int (s0 : Int))), none, some (isV (.ref fo)), some (isV (.ref pl)), some (isV (.ref op)), some (isV (.ref nm)), some (dat (.int (n : Int))), none, none, none, none, none, none, none, none, none, none, none, none] ∧ Fam H G' H' [fo, op, nm] [xf, xo, xn] ∧ BInv b au s0 G' H' pl F n xf xo xn kvs ∧ F = Fs b au s0 n)
      _ ⟨_, 0, _, _, _, _, rfl, a8.sub (by repeat' constructor), fam7, I8, rfl⟩ ?_
    rintro mm G9 H9 σ9 ⟨F9, n9, xf9, xo9, xn9, kvs9, rfl, a9, fam9, I9, hFs9⟩
    have hlen9 : xf9.length = F9.length := by rw [I9.f.length, List.length_map]
    have hF100 := I9.pos.len sm
    refine ⟨decide ((n9 : Int) < (F9.length : Int)), fun Q' q => ?_, fun e G10 H10 st10 => ?_, fun e G10 H10 st10 => ?_⟩
    · refine a9.viewT (i := 4) (fam9.own 0 fo xf9 rfl rfl) rfl I9.f (xt_test (xe_op (xe_var rfl) (xe_cb (xa_cons (xe_var (i := 4) rfl) xa_nil) xc_lenL) xr_lt)) fun H10 st10 => ?_
      rw [List.length_map]
      exact q G9 H10 st10
    · have hn9 : n9 < F9.length := by
        have := of_decide_eq_true e
        omega
      have a10 := a9.step0 st10
      have fam10 := fam9.step st10
      have I10 := I9.step st10
      obtain ⟨pp, hpp⟩ : ∃ pp, F9[n9]? = some pp := ⟨F9[n9], List.getElem?_eq_getElem hn9⟩
      have hrng := I10.pos.rng pp (List.mem_of_getElem? hpp)
      obtain ⟨vp, hvp, pvp⟩ := I10.f.get (map_get (f := eQ) hpp)
      -- node, state = found[at]
      refine var_item a10 (fam10.own 0 fo xf9 rfl rfl) rfl (xe_var rfl) hvp fun G11 H11 st11 => ?_
      have a11 := a10.step0 st11
      refine (xg_tup2 (by simp) (by simp) : XG _ (dat (eQ pp)) [9, 10] _ _) G11 H11 _ vp _ a11.env a11.s (pvp.mono st11.g) fun σ12 E12 _ => ?_
      have a12 := a11.re E12
      have fam12 := fam10.step st11
      have I12 := I10.step st11
      -- row, words = [], []
      refine q_par2new a12 fam12 fun lr lw H13 nlr nlw st13 fam13 a13 => ?_
      have I13 := I12.step st13
      -- for letter, late in board.moves_of(node)
      have hrow : ∀ m ∈ bl b.ms pp.1, m.1 ∈ au.cs ∧ m.2 < b.ow.length := fun m hm => by
        have h1 := bl_mem.mp hm
        exact ⟨hlt _ h1, (okb.ok _ h1).b⟩
      refine q_for (l := bl b.ms pp.1) a13 (xi_listT (e := eLt) ((xe_meth (φ := dat (bmvD b.ms pp.1)) (xe_var rfl) (by decide +kernel) (xa_cons (xe_var rfl) xa_nil) fun vs H Q h => ⟨b, pp.1, okb, hrng.1, h⟩).to (bl_eq _ _)))
        (fun i G' H' σ' => ∃ F xf xr xw kvs, At A0 G H G' H' σ' [some (boardS K b), some (autS K au), some (dat (.int (s0 : Int))), none, some (isV (.ref fo)), some (isV (.ref pl)), some (isV (.ref op)), some (isV (.ref nm)), some (dat (.int (n9 : Int))), some (dat (.int (pp.1 : Int))), some (dat (.int (pp.2 : Int))), some (isV (.ref lr)), some (isV (.ref lw)), none, none, none, none, none, none, none, none] ∧
          Fam H G' H' [lr, lw, fo, op, nm] [xr, xw, xf, xo9, xn9] ∧ BInv b au s0 G' H' pl F n9 xf xo9 xn9 kvs ∧ F[n9]? = some pp ∧ RpAll G' xr (((bl b.ms pp.1).take i).map fun m => eChI (chal au.trs F pp.2 m)) ∧ RpAll G' xw (((bl b.ms pp.1).take i).map fun m => eNchI (chal au.trs F pp.2 m)) ∧ (∀ m ∈ (bl b.ms pp.1).take i, Clo au.trs F pp.2 m) ∧ F = addAll F9 (((bl b.ms pp.1).take i).flatMap (reach au.trs pp.2)))
        (fun i G1 H1 σ1 ⟨_, _, _, _, _, h, _⟩ => h.s) (fun G14 H14 st14 => ⟨F9, xf9, [], [], kvs9, (a13.step0 st14).sub (by repeat' constructor), fam13.step st14, I13.step st14, hpp, .nil, .nil, (fun m hm => by simp at hm), rfl⟩) ?_ ?_
      · rintro i m G14 H14 σ14 him ⟨F14, xf14, xr14, xw14, kvs14, a14, fam14, I14, hpp14, rr14, rw14, clo14, eq14⟩ v15 G15 H15 st15 p15
        have hmm : m ∈ bl b.ms pp.1 := List.mem_of_getElem? him
        obtain ⟨hmc, hmo⟩ := hrow m hmm
        have a15 := a14.step0 st15
        refine (xg_tup2 (by simp) (by simp) : XG _ (dat (eLt m)) [13, 14] _ _) G15 H15 _ v15 _ a15.env a15.s p15 fun σ16 E16 _ => ?_
        have a16 := a15.re E16
        -- replies, told = [], []
        refine q_par2new a16 (fam14.step st15) fun lp lt H17 nlp nlt' st17 fam17 a17 => ?_
        have I17 := (I14.step st15).step st17
        have rr17 := (rr14.mono st15.g).mono st17.g
        have rw17 := (rw14.mono st15.g).mono st17.g
        have hcml : (tl au.trs pp.2 m.1).length ≤ 10 := Nat.le_trans (tl_len oka _ _) sm.n
        -- for target, word in automaton.moves(state, letter)
        refine q_for (l := tl au.trs pp.2 m.1) a17 (xi_listT (e := eMv) ((xe_meth (φ := dat (mvD au.trs pp.2 m.1)) (xe_var rfl) (by decide +kernel) (xa_cons (xe_var rfl) (xa_cons (xe_var rfl) xa_nil)) fun vs H Q h => ⟨au, pp.2, m.1, oka, hrng.2, hmc, h⟩).to (tl_eq _ _ _)))
          (fun j G' H' σ' => ∃ F xf xp xt kvs, At A0 G H G' H' σ' [some (boardS K b), some (autS K au), some (dat (.int (s0 : Int))), none, some (isV (.ref fo)), some (isV (.ref pl)), some (isV (.ref op)), some (isV (.ref nm)), some (dat (.int (n9 : Int))), some (dat (.int (pp.1 : Int))), some (dat (.int (pp.2 : Int))), some (isV (.ref lr)), some (isV (.ref lw)), some (dat (.str (sg m.1))), some (dat (.int (m.2 : Int))), some (isV (.ref lp)), some (isV (.ref lt)), none, none, none, none] ∧
            Fam H G' H' [lp, lt, lr, lw, fo, op, nm] [xp, xt, xr14, xw14, xf, xo9, xn9] ∧ BInv b au s0 G' H' pl F n9 xf xo9 xn9 kvs ∧ F[n9]? = some pp ∧ RpAll G' xr14 (((bl b.ms pp.1).take i).map fun m => eChI (chal au.trs F pp.2 m)) ∧ RpAll G' xw14 (((bl b.ms pp.1).take i).map fun m => eNchI (chal au.trs F pp.2 m)) ∧ (∀ m ∈ (bl b.ms pp.1).take i, Clo au.trs F pp.2 m) ∧
            RpAll G' xp (((tl au.trs pp.2 m.1).take j).map fun tw => eQ (item F m tw).1) ∧ RpAll G' xt (((tl au.trs pp.2 m.1).take j).map fun tw => eN3 (item F m tw).2) ∧ (∀ tw ∈ (tl au.trs pp.2 m.1).take j, (m.2, tw.1) ∈ F) ∧ Same G14 G' ∧ F = addAll F14 (((tl au.trs pp.2 m.1).take j).map fun tw => (m.2, tw.1)))
          (fun i G1 H1 σ1 ⟨_, _, _, _, _, h, _⟩ => h.s) (fun G18 H18 st18 => ⟨F14, xf14, [], [], kvs14, (a17.step0 st18).sub (by repeat' constructor), fam17.step st18, I17.step st18, hpp14, rr17.mono st18.g, rw17.mono st18.g, clo14, .nil, .nil, (fun tw h => by simp at h), st15.g.trans (st17.g.trans st18.g), rfl⟩) ?_ ?_
        · rintro j tw G18 H18 σ18 hjt ⟨F18, xf18, xp18, xt18, kvs18, a18, fam18, I18, hpp18, rr18, rw18, clo18, rp18, rt18, in18, sg18, eq18⟩ v19 G19 H19 st19 p19
          have htw : tw ∈ tl au.trs pp.2 m.1 := List.mem_of_getElem? hjt
          have htn : tw.1 < au.n := (oka.ok _ (tl_mem.mp htw)).t
          have hjl : j < (tl au.trs pp.2 m.1).length := (List.getElem?_eq_some_iff.mp hjt).1
          have a19 := a18.step0 st19
          refine (xg_tup2 (by simp) (by simp) : XG _ (dat (eMv tw)) [17, 18] _ _) G19 H19 _ v19 _ a19.env a19.s p19 fun σ20 E20 _ => ?_
          have a20 := (a19.re E20).sub (ρ' := [some (boardS K b), some (autS K au), some (dat (.int (s0 : Int))), none, some (isV (.ref fo)), some (isV (.ref pl)), some (isV (.ref op)), some (isV (.ref nm)), some (dat (.int (n9 : Int))), some (dat (.int (pp.1 : Int))), some (dat (.int (pp.2 : Int))), some (isV (.ref lr)), some (isV (.ref lw)), some (dat (.str (sg m.1))), some (dat (.int (m.2 : Int))), some (isV (.ref lp)), some (isV (.ref lt)), some (dat (.int (tw.1 : Int))), some (dat (.str (wS tw.2))), none, none]) (by repeat' constructor)
          -- what stands behind the if
          have fin : ∀ (F2 : List (Nat × Nat)) xf2 kvs2 G2 H2 (D2 : Ends), (∃ E2, F2 = F18 ++ E2) → F2 = add1 F18 (m.2, tw.1) → (m.2, tw.1) ∈ F2 → Same G18 G2 → At A0 G H G2 H2 σ20 [some (boardS K b), some (autS K au), some (dat (.int (s0 : Int))), none, some (isV (.ref fo)), some (isV (.ref pl)), some (isV (.ref op)), some (isV (.ref nm)), some (dat (.int (n9 : Int))), some (dat (.int (pp.1 : Int))), some (dat (.int (pp.2 : Int))), some (isV (.ref lr)), some (isV (.ref lw)), some (dat (.str (sg m.1))), some (dat (.int (m.2 : Int))), some (isV (.ref lp)), some (isV (.ref lt)), some (dat (.int (tw.1 : Int))), some (dat (.str (wS tw.2))), none, none] → Fam H G2 H2 [lp, lt, lr, lw, fo, op, nm] [xp18, xt18, xr14, xw14, xf2, xo9, xn9] → BInv b au s0 G2 H2 pl F2 n9 xf2 xo9 xn9 kvs2 →
              (D2.nx = fun σ' H' => ∃ G', Same G18 G' ∧ ∃ F xf xp xt kvs, At A0 G H G' H' σ' [some (boardS K b), some (autS K au), some (dat (.int (s0 : Int))), none, some (isV (.ref fo)), some (isV (.ref pl)), some (isV (.ref op)), some (isV (.ref nm)), some (dat (.int (n9 : Int))), some (dat (.int (pp.1 : Int))), some (dat (.int (pp.2 : Int))), some (isV (.ref lr)), some (isV (.ref lw)), some (dat (.str (sg m.1))), some (dat (.int (m.2 : Int))), some (isV (.ref lp)), some (isV (.ref lt)), none, none, none, none] ∧
                Fam H G' H' [lp, lt, lr, lw, fo, op, nm] [xp, xt, xr14, xw14, xf, xo9, xn9] ∧ BInv b au s0 G' H' pl F n9 xf xo9 xn9 kvs ∧ F[n9]? = some pp ∧ RpAll G' xr14 (((bl b.ms pp.1).take i).map fun m => eChI (chal au.trs F pp.2 m)) ∧ RpAll G' xw14 (((bl b.ms pp.1).take i).map fun m => eNchI (chal au.trs F pp.2 m)) ∧ (∀ m ∈ (bl b.ms pp.1).take i, Clo au.trs F pp.2 m) ∧
                RpAll G' xp (((tl au.trs pp.2 m.1).take (j + 1)).map fun tw => eQ (item F m tw).1) ∧ RpAll G' xt (((tl au.trs pp.2 m.1).take (j + 1)).map fun tw => eN3 (item F m tw).2) ∧ (∀ tw ∈ (tl au.trs pp.2 m.1).take (j + 1), (m.2, tw.1) ∈ F) ∧ Same G14 G' ∧ F = addAll F14 (((tl au.trs pp.2 m.1).take (j + 1)).map fun tw => (m.2, tw.1))) →
              tSeq (tDrop (tBM K "list" rAppend (tVar 15) (tCons (tTup (tCons (tDGet (tVar 5) (tTup (tCons (tVar 14) (tCons (tVar 17) tNil)))) (tCons (tCB rInt1 (tCons (tOp rEq (tVar 18) (tC (.str "slip"))) tNil)) tNil))) tNil)))
                (tDrop (tBM K "list" rAppend (tVar 16) (tCons (tTup (tCons (tVar 13) (tCons (tVar 14) (tCons (tVar 17) tNil)))) tNil))) D2 σ20 H2 := by
            rintro F2 xf2 kvs2 G2 H2 D2 ⟨E2, rfl⟩ hadd hin s2 a2' fam2 I2 hnx
            have hpl2 : xp18.length ≤ 100000 := by
              rw [rp18.length, List.length_map, List.length_take]
              omega
            have htl2 : xt18.length ≤ 100000 := by
              rw [rt18.length, List.length_map, List.length_take]
              omega
            refine q_appF (j := 0) (φ := dat (eQ (item (F18 ++ E2) m tw).1)) a2' fam2 rfl rfl rfl hpl2 (fun {Q} kk => a2'.viewD (i := 5) (d := eQ (item (F18 ++ E2) m tw).1) I2.d rfl I2.df (xe_tup2 (xe_dget (k := kNN m.2 tw.1) (xe_var (i := 5) rfl) (xe_tup2 (xe_var rfl) (xe_var rfl)) (posF_at (p := (m.2, tw.1)) hin)) (XE.to (xe_cb (xa_cons (xe_op (xe_var (φ := dat (.str (wS tw.2))) rfl) xe_str xr_eqS) xa_nil) xc_intB) (by
              unfold item
              cases tw.2 <;> rfl))) kk) fun v21 G21 H21 st21 p21 a21 fam21 w21 => ?_
            have I21 := (I2.step st21).mut (o := .lst (xp18 ++ [v21])) w21
            refine s_appF (j := 1) (φ := dat (eN3 (item (F18 ++ E2) m tw).2)) a21 fam21 rfl rfl rfl htl2 (fun {Q} kk => a21.e (xe_tup3 (xe_var rfl) (xe_var rfl) (xe_var rfl)) fun v22 G22 H22 st22 _ p22 => kk v22 G22 H22 st22 p22) fun v22 G22 H22 st22 p22 a22 fam22 w22 => ?_
            have I22 := (I21.step st22).mut (o := .lst (xt18 ++ [v22])) w22
            rw [hnx]
            have ss := (s2.trans st21.g).trans st22.g
            refine ⟨G22, ss, F18 ++ E2, xf2, _, _, kvs2, a22.sub (by repeat' constructor), fam22, I22, ?_, ?_, ?_, fun q hq => (clo18 q hq).app, ?_, ?_, ?_, sg18.trans ss, ?_⟩
            · rw [List.getElem?_append_left (List.getElem?_eq_some_iff.mp hpp18).1]
              exact hpp18
            · rw [List.map_congr_left fun q hq => congrArg eChI (chal_app (E := E2) (clo18 q hq))]
              exact rr18.mono ss
            · rw [List.map_congr_left fun q hq => congrArg eNchI (chal_app (E := E2) (clo18 q hq))]
              exact rw18.mono ss
            · rw [take_map_next hjt]
              have e : ((tl au.trs pp.2 m.1).take j).map (fun tw => eQ (item (F18 ++ E2) m tw).1) = ((tl au.trs pp.2 m.1).take j).map fun tw => eQ (item F18 m tw).1 := List.map_congr_left fun q hq => by
                unfold item
                rw [ix_app (in18 q hq)]
              rw [e]
              exact (rp18.mono ss).append (.cons (p21.mono st22.g) .nil)
            · rw [take_map_next hjt]
              exact (rt18.mono ss).append (.cons p22 .nil)
            · intro q hq
              rw [List.take_add_one, hjt] at hq
              rcases List.mem_append.mp hq with z | z
              · exact List.mem_append_left _ (in18 q z)
              · have : q = tw := by simpa using z
                rw [this]
                exact hin
            · rw [take_map_next hjt, addAll_snoc, ← eq18]
              exact hadd
          -- if (late, target) not in place
          refine q_ifD (i := 5) (.inl rfl) a20 (I18.d.step0 st19) rfl (I18.df.mono st19.g) (xt_B (xe_dnin (k := kNN m.2 tw.1) (xe_tup2 (xe_var rfl) (xe_var rfl)) (xe_var (i := 5) rfl))) (fun e H21 st21 a21 => ?_) fun e H21 st21 a21 => ?_
          · have hno : (m.2, tw.1) ∉ F18 := by
              rw [posF_some (p := (m.2, tw.1))] at e
              have e : (!decide ((m.2, tw.1) ∈ F18)) = true := e
              simpa using e
            have fam21 := (fam18.step st19).step st21
            have I21 := (I18.step st19).step st21
            have hl21 : xf18.length = F18.length := by rw [I18.f.length, List.length_map]
            have h100 := I18.pos.len sm
            -- place[late, target] = len(found)
            refine q_dputV (i := 5) (k := kNN m.2 tw.1) (d := .int (F18.length : Int)) a21 I21.d fpl rfl I21.df (by have := I21.kl; omega) (fun {Q} kk => var_len a21 (fam21.own 4 fo xf18 rfl rfl) rfl (by rw [hl21]; exact kk _ G19 H21 (Stp.refl a21.s) (.int _))) (xe_tup2 (xe_var rfl) (xe_var rfl)) fun G22 H22 kvs22 st22 hl22 df22 a22 w22 w22' => ?_
            have fam22 := (fam21.step st22).mut (o := .dT kvs22) ((fam21.step st22).out w22'.h fun xs e => by cases e)
            rw [posF_put hno] at df22
            -- found.append((late, target))
            refine s_appF (j := 4) (φ := dat (eQ (m.2, tw.1))) a22 fam22 rfl rfl rfl (by omega) (fun {Q} kk => a22.e (xe_tup2 (xe_var rfl) (xe_var rfl)) fun v23 G23 H23 st23 _ p23 => kk v23 G23 H23 st23 p23) fun v23 G23 H23 st23 p23 a23 fam23 w23 => ?_
            have npf : pl ≠ fo := fun e => by
              have h := (w22.step0 st23).h
              rw [e, w23.h] at h
              cases h
            have I23 := I21.grow (G2 := G23) (H2 := upd H23 fo (.lst (xf18 ++ [v23]))) (p := (m.2, tw.1)) (v := v23) hno ⟨hmo, htn⟩ (st22.g.trans st23.g) p23 ((w22.step0 st23).mut npf) (df22.mono st23.g) hl22
            exact fin (F18 ++ [(m.2, tw.1)]) _ _ _ _ _ ⟨_, rfl⟩ (by unfold add1; rw [if_neg hno]) (by simp) ((st19.g.trans st22.g).trans st23.g) a23 fam23 I23 rfl
          · have hin : (m.2, tw.1) ∈ F18 := by
              rw [posF_some (p := (m.2, tw.1))] at e
              have e : (!decide ((m.2, tw.1) ∈ F18)) = false := e
              simpa using e
            exact fin F18 xf18 kvs18 G19 H21 _ ⟨[], (List.append_nil _).symm⟩ (by unfold add1; rw [if_pos hin]) hin st19.g a21 ((fam18.step st19).step st21) ((I18.step st19).step st21) rfl
        · rintro G18 H18 σ18 ⟨F18, xf18, xp18, xt18, kvs18, a18, fam18, I18, hpp18, rr18, rw18, clo18, rp18, rt18, in18, sg18, eq18⟩
          rw [List.take_length] at rp18 rt18 in18
          -- replies and told stand from now on
          obtain ⟨fam19, wp, np⟩ := fam18.tail
          obtain ⟨a19, s19⟩ := a18.seal wp (fam18.fr _ List.mem_cons_self) nb0
          have fam19 := fam19.seal (o := .lst xp18) np
          have I19 := I18.seal wp
          obtain ⟨fam20, wt, nt⟩ := fam19.tail
          obtain ⟨a20, s20⟩ := a19.seal wt (fam19.fr _ List.mem_cons_self) nb0
          have fam20 := fam20.seal (o := .lst xt18) nt
          have I20 := I19.seal wt
          have q1 : Rp (upd (upd G18 lp (.lst xp18)) lt (.lst xt18)) (.ref lp) (eChI (chal au.trs F18 pp.2 m)) := by
            unfold eChI chal
            rw [List.map_map]
            exact .lst (s20 _ _ upd_same) (rp18.mono (s19.trans s20))
          have q2 : Rp (upd (upd G18 lp (.lst xp18)) lt (.lst xt18)) (.ref lt) (eNchI (chal au.trs F18 pp.2 m)) := by
            unfold eNchI chal
            rw [List.map_map]
            exact .lst upd_same (rt18.mono (s19.trans s20))
          have a21 := (a20.re (a20.env.put (j := 15) (a20.own (i := 15) rfl) (φ := dat (eChI (chal au.trs F18 pp.2 m))) q1)).re ((a20.env.put (j := 15) (a20.own (i := 15) rfl) (φ := dat (eChI (chal au.trs F18 pp.2 m))) q1).put (j := 16) (a20.own (i := 16) rfl) (φ := dat (eNchI (chal au.trs F18 pp.2 m))) q2)
          have rr20 := rr18.mono (s19.trans s20)
          have rw20 := rw18.mono (s19.trans s20)
          have b60 := bl_len sm pp.1
          have hl1 : xr14.length ≤ 100000 := by
            rw [rr18.length, List.length_map, List.length_take]
            omega
          have hl2 : xw14.length ≤ 100000 := by
            rw [rw18.length, List.length_map, List.length_take]
            omega
          -- row.append(replies)
          refine q_appF (j := 0) (φ := dat (eChI (chal au.trs F18 pp.2 m))) a21 fam20 rfl rfl rfl hl1 (fun {Q} kk => a21.e (xe_var rfl) fun v22 G22 H22 st22 _ p22 => kk v22 G22 H22 st22 p22) fun v22 G22 H22 st22 p22 a22 fam22 w22 => ?_
          have I22 := (I20.step st22).mut (o := .lst (xr14 ++ [v22])) w22
          -- words.append(told)
          refine s_appF (j := 1) (φ := dat (eNchI (chal au.trs F18 pp.2 m))) a22 fam22 rfl rfl rfl hl2 (fun {Q} kk => a22.e (xe_var rfl) fun v23 G23 H23 st23 _ p23 => kk v23 G23 H23 st23 p23) fun v23 G23 H23 st23 p23 a23 fam23 w23 => ?_
          have I23 := (I22.step st23).mut (o := .lst (xw14 ++ [v23])) w23
          refine ⟨G23, ?_, F18, xf18, _, _, kvs18, a23.sub (by repeat' constructor), fam23, I23, hpp18, ?_, ?_, ?_, ?_⟩
          · exact sg18.trans (s19.trans (s20.trans (st22.g.trans st23.g)))
          · rw [take_map_next him]
            exact (rr20.mono (st22.g.trans st23.g)).append (.cons (p22.mono st23.g) .nil)
          · rw [take_map_next him]
            exact (rw20.mono (st22.g.trans st23.g)).append (.cons p23 .nil)
          · intro q hq
            rw [List.take_add_one, him] at hq
            rcases List.mem_append.mp hq with z | z
            · exact clo18 q z
            · have : q = m := by simpa using z
              rw [this]
              exact in18
          · rw [List.take_add_one, him, List.flatMap_append, addAll_app, ← eq14]
            show F18 = addAll F14 ([m].flatMap (reach au.trs pp.2))
            rw [List.flatMap_singleton]
            rw [List.take_length] at eq18
            exact eq18
      · rintro G14 H14 σ14 ⟨F14, xf14, xr14, xw14, kvs14, a14, fam14, I14, hpp14, rr14, rw14, clo14, eq14⟩
        rw [List.take_length] at rr14 rw14 clo14 eq14
        have hn14 : n9 < F14.length := (List.getElem?_eq_some_iff.mp hpp14).1
        -- row and words stand from now on
        obtain ⟨fam15, wr, nr⟩ := fam14.tail
        obtain ⟨a15, s15⟩ := a14.seal wr (fam14.fr _ List.mem_cons_self) nb0
        have fam15 := fam15.seal (o := .lst xr14) nr
        have I15 := I14.seal wr
        obtain ⟨fam16, ww, nw⟩ := fam15.tail
        obtain ⟨a16, s16⟩ := a15.seal ww (fam15.fr _ List.mem_cons_self) nb0
        have fam16 := fam16.seal (o := .lst xw14) nw
        have I16 := I15.seal ww
        have q1 : Rp (upd (upd G14 lr (.lst xr14)) lw (.lst xw14)) (.ref lr) (eRowI (rowB b au F14 pp)) := by
          unfold eRowI rowB
          rw [List.map_map]
          exact .lst (s16 _ _ upd_same) (rr14.mono (s15.trans s16))
        have q2 : Rp (upd (upd G14 lr (.lst xr14)) lw (.lst xw14)) (.ref lw) (eNrowI (rowB b au F14 pp)) := by
          unfold eNrowI rowB
          rw [List.map_map]
          exact .lst upd_same (rw14.mono (s15.trans s16))
        have a17 := (a16.re (a16.env.put (j := 11) (a16.own (i := 11) rfl) (φ := dat (eRowI (rowB b au F14 pp))) q1)).re ((a16.env.put (j := 11) (a16.own (i := 11) rfl) (φ := dat (eRowI (rowB b au F14 pp))) q1).put (j := 12) (a16.own (i := 12) rfl) (φ := dat (eNrowI (rowB b au F14 pp))) q2)
        generalize upd (upd G14 lr (.lst xr14)) lw (.lst xw14) = G17 at a17 fam16 I16 s15 s16
        have hbl : (rowB b au F14 pp).length ≤ 60 := by
          unfold rowB
          rw [List.length_map]
          exact bl_len sm pp.1
        have hbc : ∀ ch ∈ rowB b au F14 pp, ch.length ≤ 10 := fun ch hc => by
          unfold rowB at hc
          obtain ⟨m, _, rfl⟩ := List.mem_map.mp hc
          exact chal_len oka sm F14 pp.2 m
        -- what stands behind the if
        have fin : ∀ G2 H2 σ2 (D2 : Ends), Same G17 G2 → At A0 G H G2 H2 σ2 [some (boardS K b), some (autS K au), some (dat (.int (s0 : Int))), none, some (isV (.ref fo)), some (isV (.ref pl)), some (isV (.ref op)), some (isV (.ref nm)), some (dat (.int (n9 : Int))), none, none, some (dat (eRowI (rowR b au F14 pp))), some (dat (eNrowI (rowR b au F14 pp))), none, none, none, none, none, none, none, none] → Fam H G2 H2 [fo, op, nm] [xf14, xo9, xn9] → BInv b au s0 G2 H2 pl F14 n9 xf14 xo9 xn9 kvs14 →
            (D2.nx = fun σ' H' => ∃ m' G', m' < 100 - n9 ∧ ∃ F n xf xo xn kvs, m' = 100 - n ∧ At A0 G H G' H' σ' [some (boardS K b), some (autS K au), some (dat (.int (s0 : Int))), none, some (isV (.ref fo)), some (isV (.ref pl)), some (isV (.ref op)), some (isV (.ref nm)), some (dat (.int (n : Int))), none, none, none, none, none, none, none, none, none, none, none, none] ∧ Fam H G' H' [fo, op, nm] [xf, xo, xn] ∧ BInv b au s0 G' H' pl F n xf xo xn kvs ∧ F = Fs b au s0 n) →
            tSeq (tDrop (tBM K "list" rAppend (tVar 6) (tCons (tVar 11) tNil))) (tSeq (tDrop (tBM K "list" rAppend (tVar 7) (tCons (tVar 12) tNil))) (tAug 8 (tC (.int 1)) (ipI fun i j => i + j))) D2 σ2 H2 := by
          intro G2 H2 σ2 D2 s2 a2' fam2 I2 hnx
          have h100 := I2.pos.len sm
          have hl1 : xo9.length ≤ 100000 := by
            rw [I2.o.length, List.length_map, List.length_take]
            omega
          have hl2 : xn9.length ≤ 100000 := by
            rw [I2.m.length, List.length_map, List.length_take]
            omega
          refine q_appF (j := 1) (φ := dat (eRowI (rowR b au F14 pp))) a2' fam2 rfl rfl rfl hl1 (fun {Q} kk => a2'.e (xe_var rfl) fun v22 G22 H22 st22 _ p22 => kk v22 G22 H22 st22 p22) fun v22 G22 H22 st22 p22 a22 fam22 w22 => ?_
          have I22 := (I2.step st22).mut (o := .lst (xo9 ++ [v22])) w22
          refine q_appF (j := 2) (φ := dat (eNrowI (rowR b au F14 pp))) a22 fam22 rfl rfl rfl hl2 (fun {Q} kk => a22.e (xe_var rfl) fun v23 G23 H23 st23 _ p23 => kk v23 G23 H23 st23 p23) fun v23 G23 H23 st23 p23 a23 fam23 w23 => ?_
          have I23 := (I22.step st23).mut (o := .lst (xn9 ++ [v23])) w23
          refine s_aug (x := (n9 : Int)) (y := 1) a23 rfl xe_int fun G24 H24 st24 a24 => ?_
          rw [hnx]
          have e1 : ((n9 : Int) + 1) = ((n9 + 1 : Nat) : Int) := by omega
          rw [e1] at a24 ⊢
          have I24 := I23.step st24
          have tk : F14.take (n9 + 1) = F14.take n9 ++ [pp] := by
            rw [List.take_add_one, hpp14]
            rfl
          refine ⟨_, G24, by omega, F14, n9 + 1, xf14, _, _, kvs14, rfl, a24.sub (by repeat' constructor), fam23.step st24, ⟨I24.pos, hn14, I24.f, ?_, ?_, ?_, I24.d, I24.df, I24.kl⟩, ?_⟩
          · rw [tk, List.map_append]
            exact I24.o.append (.cons ((p22.mono st23.g).mono st24.g) .nil)
          · rw [tk, List.map_append]
            exact I24.m.append (.cons (p23.mono st24.g) .nil)
          · intro q hq
            rw [tk] at hq
            rcases List.mem_append.mp hq with z | z
            · exact I24.clo q z
            · rw [List.mem_singleton.mp z]
              exact clo14
          · have hp9 : (Fs b au s0 n9)[n9]? = some pp := by
              rw [← hFs9]
              exact hpp
            rw [Fs_next hp9, ← hFs9]
            exact eq14
        -- if board.owner(node) == 0
        have hown : b.ow[pp.1]? = some (own b pp.1) := by
          unfold own
          rw [List.getD_eq_getElem?_getD, List.getElem?_eq_getElem hrng.1]
          rfl
        refine q_if (b := decide ((own b pp.1 : Int) = 0)) a17 (xt_test (xe_op (xe_meth (φ := dat (.int (own b pp.1 : Int))) (xe_var rfl) (by decide +kernel) (xa_cons (xe_var rfl) xa_nil) fun vs H Q h => ⟨b, pp.1, own b pp.1, okb, hown, h⟩) xe_int xr_eqI)) (fun e G18 H18 st18 a18 => ?_) (fun e G18 H18 st18 a18 => ?_)
        · have e0 : own b pp.1 = 0 := by
            have := of_decide_eq_true e
            omega
          have eR : rowR b au F14 pp = [(rowB b au F14 pp).flatten] := by
            unfold rowR fullR
            rw [if_pos e0]
          -- row = [[..]]
          refine q_asg (φ := dat (eRowI (rowR b au F14 pp))) a18 (XE.to (xe_lst1 (xe_lc2All (l := rowB b au F14 pp) (ψ := fun ch => dat (eChI ch)) (f := fun ch => ch) (θ := fun it => dat (eQ it.1)) (E := fun it : Item => eQ it.1) (js := [15]) (js1 := [19]) (xi_listT (xe_var rfl)) (fun ch hc => by have := hbc ch hc; omega) (by omega) (fun j hj => by simp at hj; subst hj; simp) (fun j hj => hj) fun ch hc => ⟨xg_name (by simp), xi_listT (xe_var rfl), fun it hi => ⟨xg_name (by simp), xe_var rfl⟩⟩)) (by rw [eR]; unfold eRowI eChI; rw [List.flatMap_id']; rfl)) fun v19 G19 H19 st19 p19 a19 => ?_
          refine q_asg (φ := dat (eNrowI (rowR b au F14 pp))) a19 (XE.to (xe_lst1 (xe_lc2All (l := rowB b au F14 pp) (ψ := fun ch => dat (eNchI ch)) (f := fun ch => ch) (θ := fun it => dat (eN3 it.2)) (E := fun it : Item => eN3 it.2) (js := [16]) (js1 := [20]) (xi_listT (xe_var rfl)) (fun ch hc => by have := hbc ch hc; omega) (by omega) (fun j hj => by simp at hj; subst hj; simp) (fun j hj => hj) fun ch hc => ⟨xg_name (by simp), xi_listT (xe_var rfl), fun it hi => ⟨xg_name (by simp), xe_var rfl⟩⟩)) (by rw [eR]; unfold eNrowI eNchI; rw [List.flatMap_id']; rfl)) fun v20 G20 H20 st20 p20 a20 => ?_
          exact fin G20 H20 _ _ ((st18.g.trans st19.g).trans st20.g) (a20.sub (by repeat' constructor)) (((fam16.step st18).step st19).step st20) (((I16.step st18).step st19).step st20) rfl
        · have e0 : ¬ own b pp.1 = 0 := by
            have := of_decide_eq_false e
            omega
          have eR : rowR b au F14 pp = rowB b au F14 pp := by
            unfold rowR fullR
            rw [if_neg e0]
          rw [← eR] at a18
          exact fin G18 H18 _ _ st18.g (a18.sub (by repeat' constructor)) (fam16.step st18) (I16.step st18) rfl
    · have hn9 : n9 = F9.length := by
        have := of_decide_eq_false e
        have := I9.le
        omega
      have a10 := a9.step0 st10
      have fam10 := fam9.step st10
      have I10 := I9.step st10
      subst hn9
      have ho := I10.o
      have hm := I10.m
      rw [List.take_length] at ho hm
      -- the lists are whole
      obtain ⟨fam11, wf, nf⟩ := fam10.tail
      obtain ⟨a11, s11⟩ := a10.seal wf (fam10.fr _ List.mem_cons_self) nb0
      have fam11 := fam11.seal (o := .lst xf9) nf
      obtain ⟨fam12, wo, no⟩ := fam11.tail
      obtain ⟨a12, s12⟩ := a11.seal wo (fam11.fr _ List.mem_cons_self) nb0
      have fam12 := fam12.seal (o := .lst xo9) no
      obtain ⟨fam13, wn, nn⟩ := fam12.tail
      obtain ⟨a13, s13⟩ := a12.seal wn (fam12.fr _ List.mem_cons_self) nb0
      have q1 : Rp (upd (upd (upd G10 fo (.lst xf9)) op (.lst xo9)) nm (.lst xn9)) (.ref fo) (.list (F9.map eQ)) := .lst (s13 _ _ (s12 _ _ upd_same)) (I10.f.mono (s11.trans (s12.trans s13)))
      have q2 : Rp (upd (upd (upd G10 fo (.lst xf9)) op (.lst xo9)) nm (.lst xn9)) (.ref op) (eG (gameOf b au F9)) := by
        have e : eG (gameOf b au F9) = .list (F9.map fun p => eRowI (rowR b au F9 p)) := by
          unfold eG gameOf
          rw [List.map_map]
          congr 1
          exact List.map_congr_left fun p _ => (eRowI_eq _).symm
        rw [e]
        exact .lst (s13 _ _ upd_same) (ho.mono (s11.trans (s12.trans s13)))
      have q3 : Rp (upd (upd (upd G10 fo (.lst xf9)) op (.lst xo9)) nm (.lst xn9)) (.ref nm) (eNm (namesOf b au F9)) := by
        have e : eNm (namesOf b au F9) = .list (F9.map fun p => eNrowI (rowR b au F9 p)) := by
          unfold eNm namesOf
          rw [List.map_map]
          congr 1
          exact List.map_congr_left fun p _ => (eNrowI_eq _).symm
        rw [e]
        exact .lst upd_same (hm.mono (s11.trans (s12.trans s13)))
      have a14 := ((a13.re (a13.env.put (j := 4) (a13.own (i := 4) rfl) (φ := dat (.list (F9.map eQ))) q1)).re ((a13.env.put (j := 4) (a13.own (i := 4) rfl) (φ := dat (.list (F9.map eQ))) q1).put (j := 6) (a13.own (i := 6) rfl) (φ := dat (eG (gameOf b au F9))) q2)).re (((a13.env.put (j := 4) (a13.own (i := 4) rfl) (φ := dat (.list (F9.map eQ))) q1).put (j := 6) (a13.own (i := 6) rfl) (φ := dat (eG (gameOf b au F9))) q2).put (j := 7) (a13.own (i := 7) rfl) (φ := dat (eNm (namesOf b au F9))) q3)
      refine s_ret a14 (xe_tup3 (xe_var rfl) (xe_var rfl) (xe_var rfl)) fun v15 G15 H15 st15 _ p15 => ?_
      have hc := I10.clo
      rw [List.take_length] at hc
      have hb9 : F9 = bfs b au s0 := by
        rw [bfs_of (n := F9.length) (by rw [← hFs9]) hF100, ← hFs9]
      exact k v15 G15 H15 st15 trivial ⟨F9, ⟨hb9, I10.pos, hc⟩, p15⟩
end
end Ls
/-! F14 -/
set_option maxHeartbeats 600000
namespace Ls
open PySem PySem.Spec PyProof.Rows L2
section
variable {P : Program} {w : World} {K : PySem.W.Frag} {mg : Str → Option Value} {base : Heap}
/-- board, automaton and start go together -/
structure Cond (b : Brd) (a : Aut) (st : Nat) : Prop where
  bo : BrdOk b
  ao : AutOk a
  sm : Sml b a
  lt : st < b.ow.length
  le : ∀ m ∈ b.ms, m.2.1 ∈ a.cs
noncomputable def wnr (b : Brd) (a : Aut) (st : Nat) : Nat := @ite _ (WinF b a st) (Classical.propDecidable _) 0 1
theorem wnr_yes {b : Brd} {a : Aut} {st : Nat} (h : WinF b a st) : wnr b a st = 0 := by
  unfold wnr
  rw [if_pos h]
theorem wnr_no {b : Brd} {a : Aut} {st : Nat} (h : ¬ WinF b a st) : wnr b a st = 1 := by
  unfold wnr
  rw [if_neg h]
theorem win_iff {b : Brd} {a : Aut} {st k : Nat} (h : lotsF (gB b a st) (k + 1) = lotsF (gB b a st) k) : WinF b a st ↔ bat (lotsF (gB b a st) k) 0 = true := by
  constructor
  · rintro ⟨k', h', hb⟩
    rw [lotsF_one h h']
    exact hb
  · intro hb
    exact ⟨k, h, hb⟩
def sp_winner (K : PySem.W.Frag) : Sp := fun vs H Q E => ∃ (b : Brd) (a : Aut) (st : Nat), Cond b a st ∧ spA A0 [boardS K b, autS K a, dat (.int (st : Int))] (dat (.int (wnr b a st : Int))) vs H Q E
abbrev N_winner : List Str := ["board", "automaton", "start", "letter"]
theorem sc_winner : FnScope ["board", "automaton", "start", "letter"] ["board", "automaton", "start"] (defScope s_winner) := ⟨rfl, rfl, rfl, by decide +kernel, rfl, by decide +kernel, by decide +kernel⟩
theorem ok_winner {f : Addr} {fd : FuncData} (F : FnP K "winner" "winner" s_winner [.int 0] [] f fd) (T : Fx K mg) (M_b_check_node : Md P w K mg base (He.ga K "Board") "check_node" 2 ["self", "node"] (sp_b_check_node K)) (M_b_letters : Md P w K mg base (He.ga K "Board") "letters" 1 ["self"] (sp_b_letters K))
    (M_a_check_letter : Md P w K mg base (He.ga K "Automaton") "check_letter" 1 ["self", "letter"] (sp_a_check_letter K)) (F_first_ranks : Fn P w K mg base "first_ranks" 2 ["options"] [] sp_first_ranks) (F_board_options : Fn P w K mg base "board_options" 4 ["board", "automaton", "start"] [] (sp_board_options K)) :
    FnOk P w K mg base CX0 5 f fd ["board", "automaton", "start"] (sp_winner K) := by
  refine F.ok sc_winner (fun vs H Q E h => ?_) (fun cdv A outer st H vs Q E hr h => ?_)
  · obtain ⟨_, _, _, _, h⟩ := h
    exact spA_len h
  · obtain ⟨b, au, s0, pc, G, sG, _, ps, k⟩ := h
    obtain ⟨v1, v2, v3, rfl, p1, p2, p3⟩ := ps_three ps
    refine ⟨_, PSs.nox (pss_cons (ps_expr (pe_md (pv 0) T.c_Board M_b_check_node (hr.mono (by decide)) (pa_cons (pv 2) pa_nil)))
  (pss_cons (ps_for PassesOwn.never (by rfl) (pi_str (pe_md0 (pv 0) T.c_Board M_b_letters (hr.mono (by decide)))) (pg_name (i := 3) sc_winner.nd rfl (Or.inl rfl)) (pss_one (ps_expr (pe_md (pv 1) T.c_Automaton M_a_check_letter (hr.mono (by decide)) (pa_cons (pv 3) pa_nil)))))
  (pss_one (ps_ret (pe_ifExp (pt_cmp (pc_notN (pe_ix (ix_listK K) (pe_fn F_first_ranks (hr.mono (by decide)) rfl (pa_cons (pe_ix (ix_tupK K) (pe_fn F_board_options (hr.mono (by decide)) rfl (pa_cons (pv 0) (pa_cons (pv 1) (pa_cons (pv 2) pa_nil)))) pe_int (fun _ _ => rfl)) pa_nil)) pe_int (fun _ _ => rfl)))) pe_int pe_int))))), ?_⟩
    have a : At A0 G H G H _ [some (boardS K b), some (autS K au), some (dat (.int (s0 : Int))), none] := At.begin (vs := [v1, v2, v3]) (N := N_winner) (((EnvOk.nil.skip.cons p3).cons p2).cons p1) sG trivial
    refine q_drop (φ := dat .none) a (xe_meth (xe_var rfl) (by decide +kernel) (xa_cons (xe_var rfl) xa_nil) fun vs H Q h => ⟨b, s0, pc.bo, pc.lt, h⟩) fun v1 G1 H1 st1 a1 _ => ?_
    refine q_forStrEx (P := fun l : List Nat => l.length ≤ 10000000 ∧ ∀ c ∈ l, LetOf b c) (z := aS) a1 (xe_meth (xe_var rfl) (by decide +kernel) xa_nil fun vs H Q h => ⟨b, pc.bo, h⟩) fun l hl G2 H2 st2 a2 => ?_
    refine q_for (l := l) (ψ := fun c => dat (.str (sg c))) a2 (by
        have := xi_strT (ρ := [some (boardS K b), some (autS K au), some (dat (.int (s0 : Int))), none]) (te := tC (.str (aS l))) (z := aS l) xe_str
        rw [aS_list] at this
        exact this)
      (fun i G' H' σ' => At A0 G H G' H' σ' [some (boardS K b), some (autS K au), some (dat (.int (s0 : Int))), none]) (fun i G1 H1 σ1 h => h.s) (fun G3 H3 st3 => a2.step0 st3) ?_ ?_
    · rintro i c G3 H3 σ3 hc a3 v4 G4 H4 st4 p4
      have a4 := (a3.step0 st4).re ((a3.step0 st4).env.set 3 p4)
      obtain ⟨t, ht, e⟩ := hl.2 c (List.mem_of_getElem? hc)
      have hcc : c ∈ au.cs := by rw [← e]; exact pc.le t ht
      refine s_drop (φ := dat .none) a4 (xe_meth (xe_var rfl) (by decide +kernel) (xa_cons (xe_var rfl) xa_nil) fun vs H Q h => ⟨au, c, pc.ao, hcc, h⟩) fun v5 G5 H5 st5 a5 _ => ?_
      exact ⟨G5, st4.g.trans st5.g, a5.sub (by repeat' constructor)⟩
    · intro G3 H3 σ3 a3
      -- return 0 if first_ranks(..)[0] is not None else 1
      let g := gB b au s0
      have hopt : XE A0 (tOp (rIxT K) (tCall (sp_board_options K) [] E0 (tCons (tVar 0) (tCons (tVar 1) (tCons (tVar 2) tNil)))) (tC (.int 1))) [some (boardS K b), some (autS K au), some (dat (.int (s0 : Int))), none] (ex (fun F => F = bfs b au s0 ∧ PosOk b au s0 F ∧ ∀ p ∈ F, CloAt b au F p) fun F => dat (eG (gameOf b au F))) :=
        xe_op (xe_call (xa_cons (xe_var rfl) (xa_cons (xe_var rfl) (xa_cons (xe_var rfl) xa_nil))) fun vs H Q h => ⟨b, au, s0, pc.bo, pc.ao, pc.sm, pc.lt, pc.le, h⟩) xe_int (xr_ex1 fun F hF => xr_ixTn (n := 1) rfl)
      have hrk : XE A0 (tCall sp_first_ranks [] E0 (tCons (tOp (rIxT K) (tCall (sp_board_options K) [] E0 (tCons (tVar 0) (tCons (tVar 1) (tCons (tVar 2) tNil)))) (tC (.int 1))) tNil)) [some (boardS K b), some (autS K au), some (dat (.int (s0 : Int))), none] (ex (fun k => PosOk b au s0 (bfs b au s0) ∧ lotsF g (k + 1) = lotsF g k) fun k => dat (eRk (ranksF g (k + 1)))) :=
        fun G H σ Q E s j kk => hopt G H σ _ E s j fun v G4 H4 t4 j4 p4 => by
          obtain ⟨F, ⟨rfl, hp, hc⟩, p4⟩ := p4
          refine ⟨g, game_ok hp hc, game_sm pc.ao hp pc.sm, G4, t4.s, j4, .cons p4 .nil, fun w G5 H5 t5 j5 p5 => ?_⟩
          obtain ⟨k, hk, p5⟩ := p5
          exact kk w G5 H5 (t4.trans t5) j5 ⟨k, ⟨hp, hk⟩, p5⟩
      have g0 : ∀ (hp : PosOk b au s0 (bfs b au s0)), 0 < g.length := fun hp => by
        show 0 < (gameOf b au (bfs b au s0)).length
        unfold gameOf
        rw [List.length_map]
        exact (List.getElem?_eq_some_iff.mp hp.hd).1
      have htest : XT A0 (tB (tNotN (tOp (rIxL K) (tCall sp_first_ranks [] E0 (tCons (tOp (rIxT K) (tCall (sp_board_options K) [] E0 (tCons (tVar 0) (tCons (tVar 1) (tCons (tVar 2) tNil)))) (tC (.int 1))) tNil)) (tC (.int 0))))) [some (boardS K b), some (autS K au), some (dat (.int (s0 : Int))), none] (@decide (WinF b au s0) (Classical.propDecidable _)) :=
        fun G H σ Q E s j kk => (xe_op (A := A0) hrk (xe_int (i := 0)) (xr_ex1 (P := fun k => PosOk b au s0 (bfs b au s0) ∧ lotsF g (k + 1) = lotsF g k) (g := fun k => dat (eO (oat (ranksF g (k + 1)) 0))) fun k hk => xr_ixLn (n := 0) (eRk_get (by rw [ranksF_len]; exact g0 hk.1)))) G H σ _ E s j fun v G4 H4 t4 j4 p4 => by
          obtain ⟨k, ⟨hp, hk⟩, p4⟩ := p4
          have e1 : (!decide (v = V.non)) = @decide (WinF b au s0) (Classical.propDecidable _) := by
            rw [none_eO p4]
            have h1 := ranksF_some g (k + 1) 0
            have h2 : (oat (ranksF g (k + 1)) 0).isSome = bat (lotsF g k) 0 := h1.trans (by rw [hk])
            have h3 := win_iff (b := b) (a := au) (st := s0) hk
            have h4 : (!(oat (ranksF g (k + 1)) 0).isNone) = bat (lotsF g k) 0 := by
              rw [← h2]
              cases oat (ranksF g (k + 1)) 0 <;> rfl
            rw [h4]
            cases hb : bat (lotsF g k) 0 with
            | true => exact (@decide_eq_true _ (Classical.propDecidable _) (h3.mpr hb)).symm
            | false => exact (@decide_eq_false _ (Classical.propDecidable _) fun z => by
                have := h3.mp z
                rw [show bat (lotsF (gB b au s0) k) 0 = false from hb] at this
                cases this).symm
          refine ⟨_, rfl, ?_⟩
          rw [e1]
          exact kk G4 H4 t4 j4
      refine s_ret (φ := dat (.int (wnr b au s0 : Int))) a3 (xe_if htest (fun e => ?_) fun e => ?_) fun v4 G4 H4 st4 _ p4 => ?_
      · have h := @of_decide_eq_true _ (Classical.propDecidable _) e
        rw [wnr_yes h]
        exact xe_int
      · have h := @of_decide_eq_false _ (Classical.propDecidable _) e
        rw [wnr_no h]
        exact xe_int
      · exact k v4 G4 H4 st4 trivial p4
end
end Ls
/-! Fw -/
set_option maxHeartbeats 1000000
/-! What the law asks of a plan's rows and ranks, in plain words, and that plan's promise gives it. -/
namespace Ls
open PySem PySem.Spec PyProof.Rows L2
abbrev Hi := Nat × Nat × Nat
abbrev hkey (h : Hi) : Nat × Nat := (h.1, h.2.1)
def mine {β : Type} (R : List ((Nat × Nat) × β)) (p : Nat × Nat) : List ((Nat × Nat) × β) := R.filter fun x => decide (x.1 = p)
/-! ### the dict of ranks -/
def hiF (HL : List Hi) : DFn := fun k => (HL.find? fun h => decide (kNN h.1 h.2.1 = k)).map fun h => .int (h.2.2 : Int)
theorem hiF_nil : hiF [] = fun _ => none := rfl
theorem hiF_key {HL : List Hi} {k : TKey} (h : (hiF HL k).isSome = true) : ∃ x ∈ HL, k = kNN x.1 x.2.1 ∧ hiF HL k = some (.int (x.2.2 : Int)) := by
  unfold hiF at h ⊢
  cases e : HL.find? fun h => decide (kNN h.1 h.2.1 = k) with
  | none =>
    rw [e] at h
    cases h
  | some x =>
    have q : decide (kNN x.1 x.2.1 = k) = true := List.find?_some (p := fun h : Hi => decide (kNN h.1 h.2.1 = k)) e
    exact ⟨x, List.mem_of_find?_eq_some e, (of_decide_eq_true q).symm, rfl⟩
theorem hiF_no {HL : List Hi} {p : Nat × Nat} (h : p ∉ HL.map hkey) : hiF HL (kNN p.1 p.2) = none := by
  unfold hiF
  have : (HL.find? fun h => decide (kNN h.1 h.2.1 = kNN p.1 p.2)) = none := List.find?_eq_none.mpr fun x hx e => by
    obtain ⟨e1, e2⟩ := kNN_inj.mp (of_decide_eq_true e)
    exact h (List.mem_map.mpr ⟨x, hx, Prod.ext e1 e2⟩)
  rw [this]
  rfl
theorem hiF_at : ∀ {HL : List Hi} {x : Hi}, (HL.map hkey).Nodup → x ∈ HL → hiF HL (kNN x.1 x.2.1) = some (.int (x.2.2 : Int))
  | y :: HL, x, nd, m => by
    rw [List.map_cons, List.nodup_cons] at nd
    unfold hiF
    rcases List.mem_cons.mp m with e | e
    · subst e
      simp
    · rw [List.find?_cons_of_neg]
      · exact hiF_at nd.2 e
      · intro q
        obtain ⟨e1, e2⟩ := kNN_inj.mp (of_decide_eq_true q)
        exact nd.1 (List.mem_map.mpr ⟨x, e, (Prod.ext e1 e2 : hkey y = hkey x).symm⟩)
theorem hiF_put {HL : List Hi} {x : Hi} (h : hkey x ∉ HL.map hkey) : putF (hiF HL) (kNN x.1 x.2.1) (.int (x.2.2 : Int)) = hiF (HL ++ [x]) := by
  funext k
  unfold putF
  by_cases e : k = kNN x.1 x.2.1
  · rw [if_pos e]
    have := hiF_no h
    have h2 : (HL.find? fun h => decide (kNN h.1 h.2.1 = k)) = none := by
      unfold hiF at this
      rw [e]
      exact Option.map_eq_none_iff.mp this
    unfold hiF
    rw [List.find?_append, h2, e]
    simp
  · rw [if_neg e]
    unfold hiF
    rw [List.find?_append]
    have h2 : ([x].find? fun h => decide (kNN h.1 h.2.1 = k)) = none := List.find?_eq_none.mpr fun y hy q => by
      rw [List.mem_singleton.mp hy] at q
      exact e (of_decide_eq_true q).symm
    rw [h2, Option.or_none]
/-! ### what is asked -/
structure FAsk (b : Brd) (a : Aut) (R : List Rw0) (HL : List Hi) (h : Hi) : Prop where
  n : h.1 < b.ow.length
  s : h.2.1 < a.n
  len : (mine R (hkey h)).length = if own b h.1 = 0 then 1 else (bmvs b.ms h.1).length
  three : (mine R (hkey h)).length ≤ 3
  nd : ((mine R (hkey h)).map fun x => (x.2.1, x.2.2.1)).Nodup
  at_ : ∀ x ∈ mine R (hkey h), x.2.1 ∈ a.cs ∧ (h.1, x.2.1, x.2.2.1) ∈ b.ms ∧ ∃ (w : Bool) (r : Nat), ((mvs a.trs h.2.1 x.2.1).filter fun m => decide (m.1 = x.2.2.2)) = [(x.2.2.2, w)] ∧ (x.2.2.1, x.2.2.2, r) ∈ HL ∧ r + (if w then 1 else 0) ≤ h.2.2
structure SAsk (b : Brd) (a : Aut) (R : List Rw1) (HL : List Hi) (h : Hi) : Prop where
  n : h.1 < b.ow.length
  s : h.2.1 < a.n
  len : (mine R (hkey h)).length = own b h.1
  mv : ∀ x ∈ mine R (hkey h), (h.1, x.2.1, x.2.2) ∈ b.ms
  at_ : ∀ m ∈ (mine R (hkey h)).map (·.2) ++ (if own b h.1 = 0 then bmvs b.ms h.1 else []), m.1 ∈ a.cs ∧ ∀ tw ∈ mvs a.trs h.2.1 m.1, ∃ r, (m.2, tw.1, r) ∈ HL ∧ (tw.2 = false → r < h.2.2)
/-! ### lists of parts -/
theorem filter_none {α : Type} {p : α → Bool} {l : List α} (h : ∀ x ∈ l, p x = false) : l.filter p = [] := List.filter_eq_nil_iff.mpr fun x hx e => by
  rw [h x hx] at e
  cases e
theorem filter_all {α : Type} {p : α → Bool} {l : List α} (h : ∀ x ∈ l, p x = true) : l.filter p = l := List.filter_eq_self.mpr h
theorem mine_flat {β : Type} : ∀ {PL : List (List ((Nat × Nat) × β))} {F : List (Nat × Nat)}, PL.length = F.length → F.Nodup → (∀ (j : Nat) part q, PL[j]? = some part → F[j]? = some q → ∀ x ∈ part, x.1 = q) → ∀ {j : Nat} {part p}, F[j]? = some p → PL[j]? = some part → mine PL.flatten p = part
  | [], [], _, _, _, j, part, p, h, _ => by simp at h
  | P0 :: PL, f0 :: F, hl, nd, hx, 0, part, p, h, h2 => by
    simp only [List.getElem?_cons_zero, Option.some.injEq] at h h2
    subst h h2
    obtain ⟨n1, n2⟩ := List.nodup_cons.mp nd
    unfold mine
    rw [List.flatten_cons, List.filter_append, filter_all fun x m => decide_eq_true (hx 0 P0 f0 rfl rfl x m), filter_none, List.append_nil]
    intro x m
    obtain ⟨q, hq, mx⟩ := List.mem_flatten.mp m
    obtain ⟨j, hj⟩ := List.mem_iff_getElem?.mp hq
    have hlt := (List.getElem?_eq_some_iff.mp hj).1
    simp only [List.length_cons, Nat.add_right_cancel_iff] at hl
    have hF : F[j]? = some F[j] := List.getElem?_eq_getElem (by omega)
    have e := hx (j + 1) q F[j] hj hF x mx
    refine decide_eq_false fun z => n1 ?_
    rw [← z, e]
    exact List.mem_of_getElem? hF
  | P0 :: PL, f0 :: F, hl, nd, hx, j + 1, part, p, h, h2 => by
    obtain ⟨n1, n2⟩ := List.nodup_cons.mp nd
    simp only [List.getElem?_cons_succ] at h h2
    simp only [List.length_cons, Nat.add_right_cancel_iff] at hl
    have ih := mine_flat (PL := PL) (F := F) hl n2 (fun i q r a b => hx (i + 1) q r a b) h h2
    unfold mine at ih ⊢
    rw [List.flatten_cons, List.filter_append, ih, filter_none, List.nil_append]
    intro x m
    have e := hx 0 P0 f0 rfl rfl x m
    refine decide_eq_false fun z => n1 ?_
    rw [← e, z]
    exact List.mem_of_getElem? h
theorem hiP_mem {F : List (Nat × Nat)} {val : Nat → Option Nat} {j : Nat} {h : Hi} : h ∈ hiP F val j ↔ ∃ p r, F[j]? = some p ∧ val j = some r ∧ h = (p.1, p.2, r) := by
  unfold hiP
  cases e1 : F[j]? with
  | none => simp
  | some p =>
    cases e2 : val j with
    | none => simp
    | some r => simp
theorem hiL_mem {F : List (Nat × Nat)} {val : Nat → Option Nat} {n : Nat} {h : Hi} : h ∈ hiL F val n ↔ ∃ (j : Nat) (p : Nat × Nat) (r : Nat), j < n ∧ F[j]? = some p ∧ val j = some r ∧ h = (p.1, p.2, r) := by
  unfold hiL
  rw [List.mem_flatMap]
  constructor
  · rintro ⟨j, hj, hm⟩
    obtain ⟨p, r, h1, h2, h3⟩ := hiP_mem.mp hm
    exact ⟨j, p, r, List.mem_range.mp hj, h1, h2, h3⟩
  · rintro ⟨j, p, r, hj, h1, h2, h3⟩
    exact ⟨j, List.mem_range.mpr hj, hiP_mem.mpr ⟨p, r, h1, h2, h3⟩⟩
theorem get_inj {F : List (Nat × Nat)} (nd : F.Nodup) {i j : Nat} {p : Nat × Nat} (h : F[i]? = some p) (h2 : F[j]? = some p) : i = j := by
  obtain ⟨hi, e1⟩ := List.getElem?_eq_some_iff.mp h
  obtain ⟨hj, e2⟩ := List.getElem?_eq_some_iff.mp h2
  have h3 := List.pairwise_iff_getElem.mp nd
  by_cases lt : i < j
  · exact absurd (e1.trans e2.symm) (h3 i j hi hj lt)
  · by_cases gt : j < i
    · exact absurd (e2.trans e1.symm) (h3 j i hj hi gt)
    · omega
theorem hiL_nd {F : List (Nat × Nat)} (nd : F.Nodup) (val : Nat → Option Nat) : ∀ n, ((hiL F val n).map hkey).Nodup
  | 0 => List.Pairwise.nil
  | n + 1 => by
    rw [hiL_next, List.map_append]
    refine List.nodup_append.mpr ⟨hiL_nd nd val n, ?_, fun x hx y hy e => ?_⟩
    · unfold hiP
      cases e1 : F[n]? with
      | none => exact List.Pairwise.nil
      | some p =>
        cases e2 : val n with
        | none => exact List.Pairwise.nil
        | some r => simp
    · obtain ⟨u, hu, rfl⟩ := List.mem_map.mp hx
      obtain ⟨v, hv, rfl⟩ := List.mem_map.mp hy
      obtain ⟨j, p, r, hj, h1, _, rfl⟩ := hiL_mem.mp hu
      obtain ⟨q, r2, h2, _, rfl⟩ := hiP_mem.mp hv
      have e : p = q := Prod.ext (congrArg Prod.fst e) (congrArg Prod.snd e)
      subst e
      have := get_inj nd h1 h2
      omega
theorem stable_ex (g : Game) : ∃ k, lotsF g (k + 1) = lotsF g k := by
  by_cases h : ∃ k, lotsF g (k + 1) = lotsF g k
  · exact h
  · have h2 : ∀ k, k ≤ cnt (lotsF g k) := fun k => by
      induction k with
      | zero => exact Nat.zero_le _
      | succ k ih =>
        have := lotsF_grows g k fun e => h ⟨k, e⟩
        omega
    have h3 := h2 (g.length + 1)
    have h4 := cnt_len (lotsF g (g.length + 1))
    rw [lotsF_len] at h4
    omega
theorem fst_of_nodup {l : List (Nat × Bool)} (nd : (l.map (·.1)).Nodup) {t : Nat} {w : Bool} (h : (t, w) ∈ l) : (l.filter fun m => decide (m.1 = t)) = [(t, w)] := by
  induction l with
  | nil => cases h
  | cons x l ih =>
    rw [List.map_cons, List.nodup_cons] at nd
    rcases List.mem_cons.mp h with e | e
    · subst e
      have e2 : (l.filter fun m => decide (m.1 = t)) = [] := filter_none fun m hm => decide_eq_false fun z => nd.1 (List.mem_map.mpr ⟨m, hm, z⟩)
      rw [List.filter_cons, e2]
      simp
    · rw [List.filter_cons_of_neg]
      · exact ih nd.2 e
      · intro z
        have z2 : x.1 = t := of_decide_eq_true z
        exact nd.1 (List.mem_map.mpr ⟨(t, w), e, z2.symm⟩)
theorem bmvs_nd {b : Brd} (ok : BrdOk b) (n : Nat) : (bmvs b.ms n).Nodup := by
  unfold bmvs
  have h := ok.nd.filter fun m : Bm => decide (m.1 = n)
  unfold List.Nodup at *
  rw [List.pairwise_map]
  refine h.imp_of_mem fun {x y} hx hy ne e => ne ?_
  have h1 := of_decide_eq_true (List.mem_filter.mp hx).2
  have h2 := of_decide_eq_true (List.mem_filter.mp hy).2
  exact Prod.ext (h1.trans h2.symm) e
/-! ### the first player's plan -/
section
variable {b : Brd} {a : Aut} {st : Nat}
structure Told (b : Brd) (a : Aut) (st : Nat) (rows ranks : List PyData) (HL : List Hi) : Prop where
  rk : ranks = HL.map eHi
  s1 : sortD rows = rows
  s2 : sortD ranks = ranks
  nd : (HL.map hkey).Nodup
  st : ∃ r, (st, a.ini, r) ∈ HL
  len : HL.length ≤ 100
theorem told_of {F : List (Nat × Nat)} {val : Nat → Option Nat} {l : List PyData} {ranks : List PyData} (P : PosOk b a st F) (S : Sml b a) (hr : ranks = sortD ((hiL F val F.length).map eHi)) (h0 : (val 0).isSome = true) : ∃ HL : List Hi, HL.Perm (hiL F val F.length) ∧ Told b a st (sortD l) ranks HL := by
  obtain ⟨m, pm, e⟩ := sortD_map eHi (hiL F val F.length)
  refine ⟨m, pm, hr.trans e, sortD_idem _, by rw [hr, sortD_idem], ?_, ?_, ?_⟩
  · exact ((pm.map hkey).nodup_iff).mpr (hiL_nd P.nd val _)
  · obtain ⟨r, hr0⟩ := Option.isSome_iff_exists.mp h0
    refine ⟨r, pm.mem_iff.mpr (hiL_mem.mpr ⟨0, (st, a.ini), r, ?_, P.hd, hr0, rfl⟩)⟩
    exact (List.getElem?_eq_some_iff.mp P.hd).1
  · rw [pm.length_eq]
    exact Nat.le_trans (hiL_len F val _) (P.len S)
theorem rowR_own {p : Nat × Nat} {F : List (Nat × Nat)} (h : own b p.1 ≠ 0) : rowR b a F p = rowB b a F p := by
  unfold rowR fullR
  rw [if_neg h]
theorem rowR_zero {p : Nat × Nat} {F : List (Nat × Nat)} (h : own b p.1 = 0) : rowR b a F p = [(rowB b a F p).flatten] := by
  unfold rowR fullR
  rw [if_pos h]
/-- an item of a row, wherever -/
theorem rowR_item {p : Nat × Nat} {F : List (Nat × Nat)} {ch : List Item} {it : Item} (h : ch ∈ rowR b a F p) (hi : it ∈ ch) : ∃ m ∈ bl b.ms p.1, ∃ tw ∈ tl a.trs p.2 m.1, it = item F m tw := by
  by_cases o : own b p.1 = 0
  · rw [rowR_zero o] at h
    rw [List.mem_singleton.mp h] at hi
    obtain ⟨c, hc, hi⟩ := List.mem_flatten.mp hi
    obtain ⟨m, hm, rfl⟩ := List.mem_map.mp hc
    obtain ⟨tw, ht, rfl⟩ := List.mem_map.mp hi
    exact ⟨m, hm, tw, ht, rfl⟩
  · rw [rowR_own o] at h
    obtain ⟨m, hm, rfl⟩ := List.mem_map.mp h
    obtain ⟨tw, ht, rfl⟩ := List.mem_map.mp hi
    exact ⟨m, hm, tw, ht, rfl⟩
theorem rowR_len {p : Nat × Nat} {F : List (Nat × Nat)} : (rowR b a F p).length = if own b p.1 = 0 then 1 else (bmvs b.ms p.1).length := by
  by_cases o : own b p.1 = 0
  · rw [rowR_zero o, if_pos o]
    rfl
  · rw [rowR_own o, if_neg o]
    unfold rowB
    rw [List.length_map, (bl_perm b.ms p.1).length_eq]
theorem rowB_get {p : Nat × Nat} {F : List (Nat × Nat)} {c : Nat} {ch : List Item} (h : (rowB b a F p)[c]? = some ch) : ∃ m, (bl b.ms p.1)[c]? = some m ∧ ch = chal a.trs F p.2 m := by
  unfold rowB at h
  rw [List.getElem?_map] at h
  obtain ⟨m, h1, h2⟩ := Option.map_eq_some_iff.mp h
  exact ⟨m, h1, h2.symm⟩
theorem chal_item {F : List (Nat × Nat)} {s : Nat} {m : Nat × Nat} {it : Item} (h : it ∈ chal a.trs F s m) : ∃ tw ∈ tl a.trs s m.1, it = item F m tw := by
  obtain ⟨tw, ht, rfl⟩ := List.mem_map.mp h
  exact ⟨tw, ht, rfl⟩
theorem first_asks {rows ranks : List PyData} (C : Cond b a st) (Bo : BoardOk a.cs b) (pos : PosOk b a st (bfs b a st)) (clo : ∀ p ∈ bfs b a st, CloAt b a (bfs b a st) p) (h : PlanA b a st rows ranks) :
    ∃ (R : List Rw0) (HL : List Hi), rows = R.map eRw0 ∧ Told b a st rows ranks HL ∧ R.length ≤ 6000 ∧ (∀ x ∈ R, 97 ≤ x.2.1 ∧ x.2.1 ≤ 122) ∧ (∀ x ∈ R, ∃ h ∈ HL, hkey h = x.1) ∧ ∀ h ∈ HL, FAsk b a R HL h := by
  obtain ⟨k, PL, hk, hl, hP, rfl, hr⟩ := h.ex
  obtain ⟨k', hk', hb⟩ := h.win
  have h0 : (oat (ranksF (gB b a st) (k + 1)) 0).isSome = true := by
    rw [ranksF_some, hk, lotsF_one hk hk']
    exact hb
  obtain ⟨HL, pm, T⟩ := told_of (l := PL.flatten.map eRw0) pos C.sm hr h0
  obtain ⟨R, pR, eR⟩ := sortD_map eRw0 PL.flatten
  generalize hF0 : bfs b a st = F at *
  generalize hT0 : ranksF (gB b a st) (k + 1) = told at *
  have xrow : ∀ j part q, PL[j]? = some part → F[j]? = some q → ∀ x ∈ part, x.1 = q ∧ ∃ r, oat told j = some r ∧ ∃ c, One0 b a F told q r c x := fun j part q hj hq x hx => by
    have R0 := hP j part hj
    cases e : oat told j with
    | none =>
      rw [R0.no e] at hx
      cases hx
    | some r =>
      obtain ⟨c, hc⟩ := List.mem_iff_getElem?.mp hx
      obtain ⟨ch, it, h1, h2, h3, h4⟩ := R0.at_ q r hq e c x hc
      exact ⟨by rw [h4], r, rfl, c, ch, it, h1, h2, h3, h4⟩
  have flat : ∀ x ∈ R, ∃ (j : Nat) (part : List Rw0) (q : Nat × Nat), PL[j]? = some part ∧ F[j]? = some q ∧ x ∈ part := fun x hx => by
    obtain ⟨part, hp, mx⟩ := List.mem_flatten.mp (pR.mem_iff.mp hx)
    obtain ⟨j, hj⟩ := List.mem_iff_getElem?.mp hp
    have hlt := (List.getElem?_eq_some_iff.mp hj).1
    exact ⟨j, part, F[j]'(by omega), hj, List.getElem?_eq_getElem _, mx⟩
  have inHL : ∀ {j : Nat} {q : Nat × Nat} {r : Nat}, F[j]? = some q → oat told j = some r → (q.1, q.2, r) ∈ HL := fun hq hr2 => pm.mem_iff.mpr (hiL_mem.mpr ⟨_, _, _, (List.getElem?_eq_some_iff.mp hq).1, hq, hr2, rfl⟩)
  refine ⟨R, HL, eR, T, ?_, fun x hx => ?_, fun x hx => ?_, fun h hh => ?_⟩
  · rw [pR.length_eq]
    have h1 := flat_le (k := 60) (l := PL) fun j x hj => (hP j x hj).small C.ao C.sm (by
      have := (List.getElem?_eq_some_iff.mp hj).1
      omega)
    have h2 := pos.len C.sm
    omega
  · obtain ⟨j, part, q, hj, hq, mx⟩ := flat x hx
    obtain ⟨e1, r, _, c, ch, it, h1, h2, _, h4⟩ := xrow j part q hj hq x mx
    obtain ⟨m, hm, tw, _, rfl⟩ := rowR_item (List.mem_of_getElem? h1) h2
    rw [h4]
    exact (C.bo.ok _ (bl_mem.mp hm)).c
  · obtain ⟨j, part, q, hj, hq, mx⟩ := flat x hx
    obtain ⟨e1, r, hr2, _⟩ := xrow j part q hj hq x mx
    exact ⟨_, inHL hq hr2, e1.symm⟩
  · obtain ⟨j, p, r, hj, hp, hv, rfl⟩ := hiL_mem.mp (pm.mem_iff.mp hh)
    obtain ⟨part, hpart⟩ : ∃ part, PL[j]? = some part := ⟨PL[j]'(by omega), List.getElem?_eq_getElem _⟩
    have R0 := hP j part hpart
    have hmp : (mine R p).Perm part := by
      have := pR.filter fun x : Rw0 => decide (x.1 = p)
      have e := mine_flat hl pos.nd (fun j part q h1 h2 x h3 => (xrow j part q h1 h2 x h3).1) hp hpart
      unfold mine at e ⊢
      rw [e] at this
      exact this
    have hlen := R0.len p r hp hv
    have pm2 : p ∈ F := List.mem_of_getElem? hp
    obtain ⟨g1, g2⟩ := pos.rng p pm2
    have hlen2 : (mine R p).length = if own b p.1 = 0 then 1 else (bmvs b.ms p.1).length := by rw [hmp.length_eq, hlen, rowR_len]
    refine ⟨g1, g2, hlen2, ?_, ?_, fun x hx => ?_⟩
    · show (mine R p).length ≤ 3
      rw [hlen2]
      split
      · decide
      · exact Bo.th _
    · show ((mine R p).map fun x => (x.2.1, x.2.2.1)).Nodup
      refine ((hmp.map _).nodup_iff).mpr ?_
      by_cases o : own b p.1 = 0
      · rw [rowR_len, if_pos o] at hlen
        obtain ⟨x, rfl⟩ := List.length_eq_one_iff.mp hlen
        simp
      · have e : (part.map fun x => (x.2.1, x.2.2.1)) = bl b.ms p.1 := by
          refine List.ext_getElem? fun c => ?_
          rw [List.getElem?_map]
          cases hc : part[c]? with
          | none =>
            have h1 := List.getElem?_eq_none_iff.mp hc
            rw [hlen, rowR_own o] at h1
            unfold rowB at h1
            rw [List.length_map] at h1
            rw [List.getElem?_eq_none h1]
            rfl
          | some x =>
            obtain ⟨ch, it, h1, h2, _, h4⟩ := R0.at_ p r hp hv c x hc
            rw [rowR_own o] at h1
            obtain ⟨m, hm, rfl⟩ := rowB_get h1
            obtain ⟨tw, _, rfl⟩ := chal_item h2
            rw [hm, h4]
            rfl
        rw [e]
        exact ((bl_perm b.ms p.1).nodup_iff).mpr (bmvs_nd C.bo _)
    · obtain ⟨_, r2, hr2, c, ch, it, h1, h2, ⟨b', hb1, hb2⟩, h4⟩ := xrow j part p hpart hp x (hmp.mem_iff.mp hx)
      have er : r2 = r := by
        rw [hv] at hr2
        exact (Option.some.inj hr2).symm
      subst er
      obtain ⟨m, hm, tw, ht, rfl⟩ := rowR_item (List.mem_of_getElem? h1) h2
      have mem : (m.2, tw.1) ∈ F := clo p pm2 m hm tw ht
      rw [h4]
      refine ⟨Bo.c _ (bl_mem.mp hm), bl_mem.mp hm, tw.2, b', fst_of_nodup (mvs_nd C.ao _ _) (mvs_mem.mpr (tl_mem.mp ht)), inHL (ix_get mem) hb1, hb2⟩
theorem own_le (ok : BrdOk b) (n : Nat) : own b n ≤ 1 := by
  unfold own
  rw [List.getD_eq_getElem?_getD]
  cases e : b.ow[n]? with
  | none => exact Nat.zero_le _
  | some o => exact ok.ow o (List.mem_of_getElem? e)
theorem game_len {F : List (Nat × Nat)} : (gameOf b a F).length = F.length := by
  unfold gameOf
  rw [List.length_map]
theorem game_row {F : List (Nat × Nat)} {j : Nat} {p : Nat × Nat} (h : F[j]? = some p) : row (gameOf b a F) j = (rowR b a F p).map fun ch => ch.map (·.1) := by
  unfold row gameOf
  rw [List.getD_eq_getElem?_getD, List.getElem?_map, h]
  rfl
theorem second_asks {rows ranks : List PyData} (C : Cond b a st) (Bo : BoardOk a.cs b) (pos : PosOk b a st (bfs b a st)) (clo : ∀ p ∈ bfs b a st, CloAt b a (bfs b a st) p) (h : PlanB b a st rows ranks) :
    ∃ (R : List Rw1) (HL : List Hi), rows = R.map eRw1 ∧ Told b a st rows ranks HL ∧ R.length ≤ 6000 ∧ (∀ x ∈ R, 97 ≤ x.2.1 ∧ x.2.1 ≤ 122) ∧ (∀ x ∈ R, ∃ h ∈ HL, hkey h = x.1) ∧ ∀ h ∈ HL, SAsk b a R HL h := by
  obtain ⟨t, PL, hT, hl, hP, rfl, hr⟩ := h.ex
  have G := game_ok pos clo
  have h0 : ((oat t 0).map fun x => x.2.2).isSome = true := by
    obtain ⟨k, hk⟩ := stable_ex (gB b a st)
    have nb : bat (lotsF (gB b a st) k) 0 = false := by
      cases e : bat (lotsF (gB b a st) k) 0 with
      | false => rfl
      | true => exact absurd ((win_iff hk).mpr e) h.win
    obtain ⟨x, hx⟩ := hT.all _ (lost_post G hk) (fun i hi => hi.1) 0 ⟨by
      rw [game_len]
      exact (List.getElem?_eq_some_iff.mp pos.hd).1, nb⟩
    rw [hx]
    rfl
  obtain ⟨HL, pm, T⟩ := told_of (l := PL.flatten.map eRw1) (val := fun j => (oat t j).map fun x => x.2.2) pos C.sm hr h0
  obtain ⟨R, pR, eR⟩ := sortD_map eRw1 PL.flatten
  have hg : gB b a st = gameOf b a (bfs b a st) := rfl
  rw [hg] at hT
  generalize hF0 : bfs b a st = F at *
  have xrow : ∀ j part q, PL[j]? = some part → F[j]? = some q → ∀ x ∈ part, x.1 = q ∧ own b q.1 = 1 ∧ ∃ c s k, oat t j = some (c, s, k) ∧ ∃ m, (bl b.ms q.1)[c]? = some m ∧ part = [(q, m)] := fun j part q hj hq x hx => by
    have R0 := hP j part hj
    cases e : oat t j with
    | none =>
      rw [R0.no e] at hx
      cases hx
    | some y =>
      obtain ⟨c, s, k⟩ := y
      by_cases o : own b q.1 = 1
      · obtain ⟨ch, it, h1, h2, h3⟩ := R0.one q c s k hq e o
        rw [rowR_own (by omega)] at h1
        obtain ⟨m, hm, rfl⟩ := rowB_get h1
        obtain ⟨tw, _, rfl⟩ := chal_item (List.mem_of_getElem? h2)
        have h3 : part = [(q, m)] := h3
        rw [h3] at hx
        rw [List.mem_singleton.mp hx]
        exact ⟨rfl, o, c, s, k, rfl, m, hm, h3⟩
      · rw [R0.zero q hq o] at hx
        cases hx
  have flat : ∀ x ∈ R, ∃ (j : Nat) (part : List Rw1) (q : Nat × Nat), PL[j]? = some part ∧ F[j]? = some q ∧ x ∈ part := fun x hx => by
    obtain ⟨part, hp, mx⟩ := List.mem_flatten.mp (pR.mem_iff.mp hx)
    obtain ⟨j, hj⟩ := List.mem_iff_getElem?.mp hp
    have hlt := (List.getElem?_eq_some_iff.mp hj).1
    exact ⟨j, part, F[j]'(by omega), hj, List.getElem?_eq_getElem _, mx⟩
  have inHL : ∀ {j : Nat} {q : Nat × Nat} {c s k : Nat}, F[j]? = some q → oat t j = some (c, s, k) → (q.1, q.2, k) ∈ HL := fun hq hr2 => pm.mem_iff.mpr (hiL_mem.mpr ⟨_, _, _, (List.getElem?_eq_some_iff.mp hq).1, hq, by rw [hr2]; rfl, rfl⟩)
  refine ⟨R, HL, eR, T, ?_, fun x hx => ?_, fun x hx => ?_, fun h hh => ?_⟩
  · rw [pR.length_eq]
    have h1 := flat_le (k := 1) (l := PL) fun j x hj => (hP j x hj).small (by
      have := (List.getElem?_eq_some_iff.mp hj).1
      omega)
    have h2 := pos.len C.sm
    omega
  · obtain ⟨j, part, q, hj, hq, mx⟩ := flat x hx
    obtain ⟨e1, _, c, s, k, _, m, hm, h3⟩ := xrow j part q hj hq x mx
    rw [h3] at mx
    rw [List.mem_singleton.mp mx]
    exact (C.bo.ok _ (bl_mem.mp (List.mem_of_getElem? hm))).c
  · obtain ⟨j, part, q, hj, hq, mx⟩ := flat x hx
    obtain ⟨e1, _, c, s, k, hk, _⟩ := xrow j part q hj hq x mx
    exact ⟨_, inHL hq hk, e1.symm⟩
  · obtain ⟨j, p, r, hj, hp, hv, rfl⟩ := hiL_mem.mp (pm.mem_iff.mp hh)
    obtain ⟨⟨c, s, k⟩, hk, hkr⟩ := Option.map_eq_some_iff.mp hv
    have hkr : k = r := hkr
    subst hkr
    obtain ⟨part, hpart⟩ : ∃ part, PL[j]? = some part := ⟨PL[j]'(by omega), List.getElem?_eq_getElem _⟩
    have R0 := hP j part hpart
    have hmp : (mine R p).Perm part := by
      have := pR.filter fun x : Rw1 => decide (x.1 = p)
      have e := mine_flat hl pos.nd (fun j part q h1 h2 x h3 => (xrow j part q h1 h2 x h3).1) hp hpart
      unfold mine at e ⊢
      rw [e] at this
      exact this
    have pm2 : p ∈ F := List.mem_of_getElem? hp
    obtain ⟨g1, g2⟩ := pos.rng p pm2
    have ole := own_le C.bo p.1
    obtain ⟨ch, hch, hgood⟩ := hT.good j c s k hk
    rw [game_row hp, List.getElem?_map] at hch
    obtain ⟨ch0, hc0, rfl⟩ := Option.map_eq_some_iff.mp hch
    have good2 : ∀ m ∈ bl b.ms p.1, (∀ tw ∈ tl a.trs p.2 m.1, item F m tw ∈ ch0) → m.1 ∈ a.cs ∧ ∀ tw ∈ mvs a.trs p.2 m.1, ∃ r, (m.2, tw.1, r) ∈ HL ∧ (tw.2 = false → r < k) := fun m hm hall => by
      refine ⟨Bo.c _ (bl_mem.mp hm), fun tw htw => ?_⟩
      have ht : tw ∈ tl a.trs p.2 m.1 := tl_mem.mpr (mvs_mem.mp htw)
      obtain ⟨c', s', k', h1, h2⟩ := hgood (item F m tw).1 (List.mem_map.mpr ⟨_, hall tw ht, rfl⟩)
      have mem : (m.2, tw.1) ∈ F := clo p pm2 m hm tw ht
      refine ⟨k', inHL (ix_get mem) h1, fun e => h2 ?_⟩
      show (if tw.2 = true then 1 else 0) = 0
      rw [e]
      rfl
    have mem1 : ∀ x ∈ mine R p, own b p.1 = 1 ∧ ∃ m, (bl b.ms p.1)[c]? = some m ∧ x = (p, m) := fun x hx => by
      obtain ⟨_, o, c2, s2, k2, hk2, m, hm, h3⟩ := xrow j part p hpart hp x (hmp.mem_iff.mp hx)
      rw [hk] at hk2
      have e := Option.some.inj hk2
      have e2 : c = c2 := congrArg Prod.fst e
      subst e2
      refine ⟨o, m, hm, ?_⟩
      have := hmp.mem_iff.mp hx
      rw [h3] at this
      exact List.mem_singleton.mp this
    refine ⟨g1, g2, ?_, fun x hx => ?_, fun m hm => ?_⟩
    · show (mine R p).length = own b p.1
      rw [hmp.length_eq]
      by_cases o : own b p.1 = 1
      · obtain ⟨_, _, _, _, h3⟩ := R0.one p c s k hp hk o
        rw [h3, o]
        rfl
      · rw [R0.zero p hp o]
        show 0 = own b p.1
        omega
    · obtain ⟨_, m, hm, rfl⟩ := mem1 x hx
      exact bl_mem.mp (List.mem_of_getElem? hm)
    · rcases List.mem_append.mp hm with z | z
      · obtain ⟨x, hx, rfl⟩ := List.mem_map.mp z
        obtain ⟨o, m, hm2, rfl⟩ := mem1 x hx
        rw [rowR_own (by omega)] at hc0
        obtain ⟨m2, hm3, rfl⟩ := rowB_get hc0
        have e : m2 = m := by
          rw [hm2] at hm3
          exact (Option.some.inj hm3).symm
        subst e
        exact good2 m2 (List.mem_of_getElem? hm2) fun tw ht => List.mem_map.mpr ⟨tw, ht, rfl⟩
      · by_cases o : own b p.1 = 0
        · have z : m ∈ bmvs b.ms p.1 := by
            rw [if_pos o] at z
            exact z
          have hmb : m ∈ bl b.ms p.1 := (bl_perm b.ms p.1).mem_iff.mpr z
          rw [rowR_zero o] at hc0
          have e : ch0 = (rowB b a F p).flatten := by
            cases c with
            | zero => exact (Option.some.inj hc0).symm
            | succ c => simp at hc0
          exact good2 m hmb fun tw ht => by
            rw [e]
            exact List.mem_flatten.mpr ⟨chal a.trs F p.2 m, List.mem_map.mpr ⟨m, hmb, rfl⟩, List.mem_map.mpr ⟨tw, ht, rfl⟩⟩
        · rw [if_neg o] at z
          cases z
end
end Ls
/-! Ts -/
set_option maxHeartbeats 1000000
/-! len(set(..)) of at most three different tuples of texts and ints. -/
namespace Ts
open PySem PySem.Spec PyProof.Rows L2 Ls
section
variable {P : Program} {w : World} {A : Around} {E : Value → Shared → Prop} {s : Shared}
abbrev hsh (P : Program) (w : World) (k : TKey) : Int := tupleKeyHash (mixKind P w) k
abbrev TupAt (P : Program) (w : World) (h : Heap) (k : TKey) (b : Addr) : Prop := IsTupleKey (mixKind P w) h k b
/-- a text or an int -/
def Pl (v : Value) : Prop := (∃ i t, v = Value.int i t) ∨ ∃ x t, v = Value.str x t
theorem pl_items {k : TKey} {vs : List Value} (h : ItemsAre (mixKind P w) k vs) : ∀ v ∈ vs, Pl v := by
  induction h with
  | nil =>
    intro v m
    cases m
  | @cons j u js us e _ ih =>
    intro v m
    rcases List.mem_cons.mp m with z | z
    · subst z
      rcases keyIs_shape (k := j) (v := v) e with ⟨i, t, _, e2⟩ | ⟨x, t, _, e2⟩
      · exact .inl ⟨i, t, e2⟩
      · exact .inr ⟨x, t, e2⟩
    · exact ih v z
theorem pl_class {v : Value} (n : Nat) (h : Pl v) : ofAClassStatement n v = pure false := by
  rcases h with ⟨i, t, e⟩ | ⟨x, t, e⟩ <;> subst e <;> cases n <;> rfl
theorem pl_hash {v : Value} (n : Nat) (h : Pl v) : ∃ b, hashByValue n v = pure b := by
  rcases h with ⟨i, t, e⟩ | ⟨x, t, e⟩ <;> subst e
  · exact ⟨true, by cases n <;> rfl⟩
  · exact ⟨false, by cases n <;> rfl⟩
/-- a walk over plain items that asks and goes on -/
theorem tup_class {k : TKey} {b : Addr} {Q : Bool → Shared → Prop} (m : TupAt P w s.heap k b) (q : Q false s) : wpAny (model P w) A (ofAClassStatement 8 (.ref b)) Q E s := by
  have ty := m.typeIs
  obtain ⟨o, its, n, e1, _, e2, e3⟩ := m
  unfold ofAClassStatement
  refine wpAny_bind (wpAny_typeOf ty ?_)
  dsimp only
  have e : (("tuple" : String) == "tuple") = true := by decide
  simp only [e, if_true, Bool.not_true, Bool.false_eq_true, if_false]
  try refine wpAny_bind (wpAny_pure ?_)
  try simp only [Bool.not_true, Bool.false_eq_true, if_false]
  show wpAny _ _ (seqItems? (.ref b) >>= _) _ _ s
  refine wpAny_bind (wpAny_seqItems e1 e2 ?_)
  dsimp only
  refine wpAny_bind ?_
  show wpAny _ _ (forIn its _ _) _ _ s
  rw [← Array.forIn_toList]
  refine wpAny_forIn_list _ (fun l c s2 => (c.1 = none ∧ s2 = s) ∧ ∀ v ∈ l, Pl v) _ ?_ ?_ _ _ ⟨⟨rfl, rfl⟩, pl_items e3⟩
  · rintro v l c s2 ⟨⟨_, rfl⟩, all⟩
    rw [pl_class _ (all v List.mem_cons_self)]
    refine wpAny_bind (wpAny_pure ?_)
    simp only [Bool.false_eq_true, if_false]
    exact wpAny_pure ⟨⟨rfl, rfl⟩, fun u z => all u (List.mem_cons_of_mem _ z)⟩
  · rintro ⟨c1, c2⟩ s2 ⟨⟨z, rfl⟩, _⟩
    simp only at z
    subst z
    exact wpAny_pure q
theorem tup_hash {k : TKey} {b : Addr} {Q : Bool → Shared → Prop} (m : TupAt P w s.heap k b) (q : ∀ c, Q c s) : wpAny (model P w) A (hashByValue 8 (.ref b)) Q E s := by
  have ty := m.typeIs
  obtain ⟨o, its, n, e1, _, e2, e3⟩ := m
  unfold hashByValue
  refine wpAny_bind (wpAny_specialOf ty F.slot_tuple_hash.lookup ?_)
  show wpAny _ _ (seqItems? (.ref b) >>= _) _ _ s
  refine wpAny_bind (wpAny_seqItems e1 e2 ?_)
  refine wpAny_bind ?_
  show wpAny _ _ (forIn its _ _) _ _ s
  rw [← Array.forIn_toList]
  refine wpAny_forIn_list _ (fun l c s2 => s2 = s ∧ ∀ v ∈ l, Pl v) _ ?_ ?_ _ _ ⟨rfl, pl_items e3⟩
  · rintro v l c s2 ⟨rfl, all⟩
    obtain ⟨z, ez⟩ := pl_hash 7 (all v List.mem_cons_self)
    rw [ez]
    refine wpAny_bind (wpAny_pure ?_)
    cases z
    · simp only [Bool.not_false, if_true]
      exact wpAny_pure (wpAny_pure (q _))
    · simp only [Bool.not_true, Bool.false_eq_true, if_false]
      exact wpAny_pure ⟨rfl, fun u z => all u (List.mem_cons_of_mem _ z)⟩
  · rintro ⟨c1, c2⟩ s2 ⟨rfl, _⟩
    cases c1 with
    | none => exact wpAny_pure (q _)
    | some z => exact wpAny_pure (q _)
/-- the search among tuples shows nothing -/
theorem tup_seen {k : TKey} {b : Addr} {Q : Bool → Shared → Prop} (m : TupAt P w s.heap k b) {ys : List Value} (hy : ∀ y ∈ ys, ∃ j c, y = Value.ref c ∧ TupAt P w s.heap j c) (q : Q false s) : wpAny (model P w) A (searchCouldBeSeen (.ref b) ys) Q E s := by
  unfold searchCouldBeSeen
  refine wpAny_bind ?_
  refine wpAny_forIn_list _ (fun l c s2 => (c.1 = none ∧ s2 = s) ∧ ∀ y ∈ l, ∃ j c, y = Value.ref c ∧ TupAt P w s.heap j c) _ ?_ ?_ _ _ ⟨⟨rfl, rfl⟩, hy⟩
  · rintro v l c0 s2 ⟨⟨_, rfl⟩, all⟩
    obtain ⟨j, c, rfl, mc⟩ := all v List.mem_cons_self
    have more : ∀ y ∈ l, ∃ j c, y = Value.ref c ∧ TupAt P w s2.heap j c := fun u z => all u (List.mem_cons_of_mem _ z)
    dsimp only
    by_cases z : (b == c || (carriedByValue (.ref b) && carriedByValue (.ref c))) = true
    · exact wp_if_pos z (wpAny_pure ⟨⟨rfl, rfl⟩, more⟩)
    · refine wp_if_neg z (wpAny_bind (wpAny_eqIsQuiet_tuple m ?_))
      simp only [Bool.not_true, Bool.false_eq_true, if_false]
      refine wpAny_bind (wpAny_eqIsQuiet_tuple mc ?_)
      simp only [Bool.not_true, Bool.false_eq_true, if_false]
      refine wpAny_bind (tup_class m ?_)
      simp only [Bool.false_eq_true, if_false]
      refine wpAny_bind (tup_class mc ?_)
      simp only [Bool.false_eq_true, if_false]
      exact wpAny_pure ⟨⟨rfl, rfl⟩, more⟩
  · rintro ⟨c1, c2⟩ s2 ⟨⟨z, rfl⟩, _⟩
    simp only at z
    subst z
    exact wpAny_pure q
/-! ### a set of few tuples -/
structure Few (P : Program) (w : World) (h : Heap) (a : Addr) (L : List (Addr × TKey)) (es : Array (Int × Value)) (ep : Nat) (t : SetTable) : Prop where
  ob : ∃ o, h.get? a = some o ∧ o.ExactSet ∧ o.data = .set es ep t
  es : es.toList = L.map fun p => (hsh P w p.2, Value.ref p.1)
  tb : TabOk t (L.map fun p => hsh P w p.2)
  tup : ∀ p ∈ L, TupAt P w h p.2 p.1
  m : t.mask = 7
  n : L.length ≤ 3
variable {a : Addr} {L : List (Addr × TKey)} {es : Array (Int × Value)} {ep : Nat} {t : SetTable}
theorem Few.size (R : Few P w s.heap a L es ep t) : es.size = L.length := by
  have z := congrArg List.length R.es
  rwa [Array.length_toList, List.length_map] at z
theorem Few.fit (R : Few P w s.heap a L es ep t) : t.fits es.size = true := by
  have z1 : t.place.size = L.length := by
    rw [R.tb.sz, List.length_map]
  have z2 := R.size
  have z3 := R.n
  have z4 := R.m
  unfold SetTable.fits SetTable.fill
  rw [R.tb.dm, Bool.and_eq_true, beq_iff_eq, decide_eq_true_eq]
  show t.place.size = es.size ∧ t.place.size + 0 ≤ t.mask
  exact ⟨by omega, by omega⟩
theorem Few.ent (R : Few P w s.heap a L es ep t) {i : Nat} {p : Addr × TKey} (h : L[i]? = some p) : es[i]? = some (hsh P w p.2, Value.ref p.1) := by
  rw [← Array.getElem?_toList, R.es, List.getElem?_map, h]
  rfl
theorem nth_clean (m : Nat) : ∀ (n : Nat) (p : SetTable.Probe), p.dummy = none → (nth m p n).dummy = none
  | 0, p, h => h
  | n + 1, p, h => nth_clean m n (adv m p) (by
    unfold adv
    split <;> exact h)
abbrev pr0 (t : SetTable) (H : Int) : SetTable.Probe := runAt t.mask (SetTable.bits H % (t.mask + 1)) (SetTable.bits H)
theorem few_from (R : Few P w s.heap a L es ep t) {x : Addr} {k : TKey} (hx : TupAt P w s.heap k x) (hu : A.units < cLine) (hn : ∀ p ∈ L, p.2 ≠ k) {K : Nat} (hKf : K < 10 * SetTable.turns t.mask) (hK : way t.mask (hsh P w k) K ∉ t.place.toList) (hb : ∀ c, c < K → way t.mask (hsh P w k) c ∈ t.place.toList)
    {Q : SetFound → Shared → Prop} (q : Q (.free (way t.mask (hsh P w k) K) false) s) :
    ∀ (f c : Nat) (st : Option SetTable.Probe), st.getD (t.probeStart (hsh P w k)) = nth t.mask (pr0 t (hsh P w k)) c → c ≤ K → K - c < f → wpAny (model P w) A (setSearchFrom a (.ref x) (hsh P w k) true f st) Q E s
  | 0, c, st, _, _, hf => absurd hf (Nat.not_lt_zero _)
  | f + 1, c, st, e0, hc, hf => by
    obtain ⟨o, ho, hex, hd⟩ := R.ob
    have gw : ¬ t.gaveWay = true := by
      unfold SetTable.gaveWay
      rw [R.m]
      decide
    rw [setSearchFrom_succ]
    refine wpAny_bind (wpAny_setState_of ho hd R.fit ?_)
    dsimp only
    refine wp_if_neg gw ?_
    try refine wpAny_bind (wpAny_pure ?_)
    have sh : ∀ d, nth t.mask (nth t.mask (pr0 t (hsh P w k)) c) d = nth t.mask (pr0 t (hsh P w k)) (c + d) := fun d => (nth_add t.mask c _ d).symm
    have wj : ∀ d, (nth t.mask (nth t.mask (pr0 t (hsh P w k)) c) d).j = way t.mask (hsh P w k) (c + d) := fun d => congrArg SetTable.Probe.j (sh d)
    have eK : c + (K - c) = K := by omega
    rcases go_spec t R.tb.ris R.tb.dm (fun i => (es[i]?.map (·.1)).getD 0) (hsh P w k) (10 * SetTable.turns t.mask) (K - c) _ (nth_clean t.mask c _ rfl) (by omega) (fun d hd => (wj d) ▸ hb (c + d) (by omega)) (by rw [wj, eK]; exact hK) with ⟨d, i, hd1, hi, _, _, hpr⟩ | ⟨_, hpr⟩
    · have hpr2 : t.probe (fun i => (es[i]?.map (·.1)).getD 0) (hsh P w k) (st.getD (t.probeStart (hsh P w k))) = some (.candidate (way t.mask (hsh P w k) (c + d)) i (nth t.mask (pr0 t (hsh P w k)) (c + (d + 1)))) := by
        rw [e0, ← wj, ← sh]
        exact hpr
      rw [hpr2]
      dsimp only
      rw [wj] at hi
      have hil : i < L.length := by
        have z := (List.getElem?_eq_some_iff.mp hi).1
        rw [Array.length_toList, R.tb.sz, List.length_map] at z
        exact z
      obtain ⟨p, hp⟩ : ∃ p, L[i]? = some p := ⟨L[i], List.getElem?_eq_getElem hil⟩
      have pm : p ∈ L := List.mem_of_getElem? hp
      have ne := hn p pm
      have rest : wpAny (model P w) A (searchRest a (.ref x) (hsh P w k) true f es t (way t.mask (hsh P w k) (c + d)) i (nth t.mask (pr0 t (hsh P w k)) (c + (d + 1)))) Q E s := by
        unfold searchRest
        rw [R.ent hp]
        dsimp only
        refine wpAny_bind (wpAny_holding (wpAny_eqBool_tuple hu (R.tup p pm) hx ?_))
        refine wpAny_bind (wpAny_setState_of ho hd R.fit ?_)
        dsimp only
        refine wp_if_neg (by simp [ne]) ?_
        try refine wpAny_bind (wpAny_pure ?_)
        rw [sameMem]
        dsimp only
        simp only [if_true, slot_live R.tb.ris hi, R.ent hp]
        refine wpAny_bind (wpAny_isSame_ref_self (wpAny_bind (wpAny_pure ?_)))
        simp only [if_true]
        refine wp_if_neg (by simp [ne]) ?_
        exact few_from R hx hu hn hKf hK hb q f (c + (d + 1)) _ rfl (by omega) (by omega)
      by_cases hl : t.led = true
      · refine wp_if_neg (by simp [hl]) ?_
        try refine wpAny_bind (wpAny_pure ?_)
        exact rest
      · refine wp_if_pos (by simp [hl]) (wpAny_bind (tup_seen hx (fun y hy => ?_) ?_))
        · obtain ⟨e, he, ee⟩ := List.mem_map.mp hy
          have he1 : e ∈ es ∧ e.1 = hsh P w k := by simpa using he
          have he2 : e ∈ es.toList := by simpa using he1.1
          rw [R.es] at he2
          obtain ⟨p2, hp2, e2⟩ := List.mem_map.mp he2
          exact ⟨p2.2, p2.1, by rw [← ee, ← e2], R.tup p2 hp2⟩
        · refine wp_if_neg (by decide) ?_
          try refine wpAny_bind (wpAny_pure ?_)
          exact rest
    · have hpr2 : t.probe (fun i => (es[i]?.map (·.1)).getD 0) (hsh P w k) (st.getD (t.probeStart (hsh P w k))) = some (.empty (way t.mask (hsh P w k) K) none) := by
        have z : way t.mask (hsh P w k) K = (nth t.mask (nth t.mask (pr0 t (hsh P w k)) c) (K - c)).j := by rw [wj, eK]
        rw [e0, z]
        exact hpr
      rw [hpr2]
      dsimp only
      exact wpAny_pure q
theorem few_search (R : Few P w s.heap a L es ep t) {x : Addr} {k : TKey} (hx : TupAt P w s.heap k x) (hu : A.units < cLine) (hn : ∀ p ∈ L, p.2 ≠ k) {Q : SetFound → Shared → Prop}
    (q : ∀ K, way t.mask (hsh P w k) K ∉ t.place.toList → (∀ c, c < K → way t.mask (hsh P w k) c ∈ t.place.toList) → Q (.free (way t.mask (hsh P w k) K) false) s) : wpAny (model P w) A (setSearch a (.ref x) (hsh P w k) true) Q E s := by
  have h3 := R.n
  obtain ⟨K, hKf, hK, hb⟩ := R.tb.first (by rw [List.length_map, R.m]; omega) (hsh P w k)
  have hbig : K < 100000 := by
    have z : 10 * SetTable.turns t.mask ≤ 1420 := by
      unfold SetTable.turns
      rw [R.m]
      decide
    omega
  unfold setSearch
  exact few_from R hx hu hn hKf hK hb (q K hK hb) 100000 0 none rfl (Nat.zero_le _) (by omega)
theorem tup_same {h h2 : Heap} {k : TKey} {a b : Addr} {o : Obj} {es : Array (Int × Value)} {ep : Nat} {t : SetTable} (m : TupAt P w h k b) (ho : h.get? a = some o) (hd : o.data = .set es ep t) (hs : Heap.SameBut a h h2) : TupAt P w h2 k b := by
  obtain ⟨u, its, n, e1, r1, e2, r2⟩ := m
  refine ⟨u, its, n, (hs.2 b fun z => ?_).trans e1, r1, e2, r2⟩
  rw [z, ho] at e1
  rw [Option.some.inj e1, e2] at hd
  cases hd
theorem tab_plain {t : SetTable} {hs : List Int} (T : TabOk t hs) (b : Bool) : TabOk { t with plain := b } hs := ⟨T.ris, T.dm, T.sz, T.mok, T.bd, T.reach⟩
theorem few_add (R : Few P w s.heap a L es ep t) {x : Addr} {k : TKey} (hx : TupAt P w s.heap k x) (hu : A.units < cLine) (hn : ∀ p ∈ L, p.2 ≠ k) (h3 : L.length + 1 ≤ 3) {Q : Bool → Shared → Prop}
    (q : ∀ h2 L2 es2 ep2 t2, Heap.SameBut a s.heap h2 → Few P w h2 a L2 es2 ep2 t2 → L2.Perm ((x, k) :: L) → Q true { s with heap := h2 }) : wpAny (model P w) A (setAddHashed a (.ref x) (hsh P w k)) Q E s := by
  obtain ⟨o, ho, hex, hd⟩ := R.ob
  have hsl := R.size
  have hm7 := R.m
  unfold setAddHashed
  refine wpAny_holding ?_
  rw [show (100000 : Nat) = 99999 + 1 from rfl, setAddHashedIn_succ]
  refine wpAny_bind (wpAny_setState_of ho hd R.fit ?_)
  dsimp only
  refine wp_if_neg (by simp [byScan, Value.scannable]) ?_
  try refine wpAny_bind (wpAny_pure ?_)
  refine wpAny_bind (few_search R hx hu hn fun K hK hb => ?_)
  dsimp only
  refine wpAny_bind (wpAny_setState_of ho hd R.fit ?_)
  dsimp only
  obtain ⟨q1, q2, q3, q4, q5, q6, q7, q8, q9⟩ := R.tb.put hK hb
  generalize hpt : t.put (way t.mask (hsh P w k) K) = pt at q1 q3 q4 q5 q6 q7 q8 q9 ⊢
  obtain ⟨t1, p⟩ := pt
  dsimp only at q1 q3 q4 q5 q6 q7 q8 q9 ⊢
  subst q1
  have hin : (SetTable.insertAt es (SetTable.below t.place (way t.mask (hsh P w k) K)) (hsh P w k, Value.ref x)).toList = (L.take (SetTable.below t.place (way t.mask (hsh P w k) K)) ++ (x, k) :: L.drop (SetTable.below t.place (way t.mask (hsh P w k) K))).map fun p => (hsh P w p.2, Value.ref p.1) := by
    rw [SetTable.toList_insertAt, R.es, List.map_append, List.map_cons, List.map_take, List.map_drop]
  generalize hpp : SetTable.below t.place (way t.mask (hsh P w k) K) = p at q2 q3 hin ⊢
  have pm := put_perm L p (x, k)
  have hlen : (L.take p ++ (x, k) :: L.drop p).length = L.length + 1 := pm.length_eq
  have hhs : (L.take p ++ (x, k) :: L.drop p).map (fun p => hsh P w p.2) = (L.map fun p => hsh P w p.2).take p ++ hsh P w k :: (L.map fun p => hsh P w p.2).drop p := by
    rw [List.map_append, List.map_cons, List.map_take, List.map_drop]
  rw [← hhs] at q3
  have hes : (SetTable.insertAt es p (hsh P w k, Value.ref x)).size = L.length + 1 := by
    have z := congrArg List.length hin
    rwa [Array.length_toList, List.length_map, hlen] at z
  generalize SetTable.insertAt es p (hsh P w k, Value.ref x) = es1 at hin hes ⊢
  generalize L.take p ++ (x, k) :: L.drop p = L1 at pm hlen q3 hin
  have fin : ∀ t2 : SetTable, TabOk t2 (L1.map fun p => hsh P w p.2) → t2.mask = 7 → t2.fill = L.length + 1 → wpAny (model P w) A (do
      storeSet a es1 t2
      if !false && t2.tooFull then setRelay a (SetTable.grown (es.size + 1))
      return true) Q E s := fun t2 T2 m2 f2 => by
    refine wpAny_bind (wpAny_storeSet_of ho hd ?_ (by rw [hes, sizeLine_eq]; omega))
    have sb : Heap.SameBut a s.heap (s.heap.update a (Obj.putSet es1 t2)) := Heap.SameBut.update ..
    have ho1 := store_at (es' := es1) (t' := t2) ho hd
    have hf : ¬ (!false && t2.tooFull) = true := by
      unfold SetTable.tooFull
      rw [f2, m2]
      simp
      omega
    have fewN : Few P w (s.heap.update a (Obj.putSet es1 t2)) a L1 es1 (ep + 1) t2 := ⟨⟨_, ho1, ⟨hex.1, hex.2.1, hex.2.2⟩, rfl⟩, hin, T2, fun p hp => by
      rcases List.mem_cons.mp (pm.mem_iff.mp hp) with e | hp
      · rw [e]
        exact tup_same hx ho hd sb
      · exact tup_same (R.tup p hp) ho hd sb, m2, by rw [hlen]; exact h3⟩
    first
      | exact wp_if_neg hf (wpAny_pure (q _ L1 es1 (ep + 1) t2 sb fewN pm))
      | exact wpAny_bind (wp_if_neg hf (wpAny_pure (wpAny_pure (q _ L1 es1 (ep + 1) t2 sb fewN pm))))
  by_cases hp : t1.plain = true
  · first
      | (refine wpAny_bind ?_; refine wp_if_pos hp ?_; refine tup_hash hx fun c => ?_)
      | refine wp_if_pos hp (wpAny_bind (tup_hash hx fun c => ?_))
    cases c
    · simp only [Bool.false_eq_true, if_false]
      exact fin _ (tab_plain q3 false) (q4.trans hm7) (show t1.fill = L.length + 1 from q9.trans (by rw [List.length_map]))
    · simp only [if_true]
      exact fin _ q3 (q4.trans hm7) (q9.trans (by rw [List.length_map]))
  · first
      | (refine wpAny_bind ?_; refine wp_if_neg hp ?_; refine wpAny_pure ?_)
      | refine wp_if_neg hp (wpAny_bind (wpAny_pure ?_))
    simp only [if_true]
    exact fin _ q3 (q4.trans hm7) (q9.trans (by rw [List.length_map]))
theorem tup_keep {h h2 : Heap} {k : TKey} {b : Addr} (m : TupAt P w h k b) (hk : ∀ c o, h.get? c = some o → h2.get? c = some o) : TupAt P w h2 k b := by
  obtain ⟨o, its, n, e, r⟩ := m
  exact ⟨o, its, n, hk b o e, r⟩
theorem Few.keep {h h2 : Heap} (R : Few P w h a L es ep t) (ha : ∀ o, h.get? a = some o → h2.get? a = some o) (ht : ∀ p ∈ L, TupAt P w h2 p.2 p.1) : Few P w h2 a L es ep t := by
  obtain ⟨o, e, r⟩ := R.ob
  exact ⟨⟨o, ha o e, r⟩, R.es, R.tb, ht, R.m, R.n⟩
theorem few_new {h : Heap} {led : Bool} (e : h.get? a = some { cls := .type "set", dict := none, data := .set #[] 0 (.fresh 0 0 led) }) : Few P w h a [] #[] 0 (.fresh 0 0 led) where
  ob := ⟨_, e, ⟨rfl, rfl, rfl⟩, rfl⟩
  es := rfl
  tb := ⟨List.Pairwise.nil, rfl, rfl, .inl rfl, fun x hx => (by cases hx), fun i h j hi => (by simp at hi)⟩
  tup := fun p hp => (by cases hp)
  m := rfl
  n := Nat.zero_le _
/-- set.update, item by item -/
theorem few_loop {I : Addr} {fp wr : List Addr} {G : Array GenState → Array GenState → Prop} {n : Nat} {Pv : Nat → Value → Prop} {St : Nat → Shared → Prop} {R : Result → Shared → Prop} (W : WalksS P w A.in1 I fp wr G n Pv St) (S : Addr) (off : S ∉ fp) (ks : List (Addr × TKey)) (hn : n = ks.length) (h3 : ks.length ≤ 3) (nd : (ks.map (·.2)).Nodup)
    (hval : ∀ i v, Pv i v → ∃ p, ks[i]? = some p ∧ v = .ref p.1) (h0 : Heap) (hk : ∀ p ∈ ks, TupAt P w h0 p.2 p.1) (hS0 : h0.get? S = none) (hw0 : ∀ b ∈ wr, h0.get? b = none) (hu : A.in1.units < cLine) :
    ∀ (m i : Nat) (s : Shared), n - i = m → i ≤ n → St i s → (∀ b o, h0.get? b = some o → s.heap.get? b = some o) → (∃ L es ep t, Few P w s.heap S L es ep t ∧ L.Perm (ks.take i)) →
      (∀ s2 L es ep t, Moved (S :: wr) G s s2 → Few P w s2.heap S L es ep t → L.Perm ks → (∀ b o, h0.get? b = some o → s2.heap.get? b = some o) → R (.ok (.ret .none)) s2) → codeAny (model P w) A (.builtin "set.update.loop" ⟨[.ref S, .ref I], []⟩) R s := by
  have nw : S ∉ wr := fun z => off (W.sub _ z)
  have more : ∀ b ∈ wr, b ∈ S :: wr := fun b z => List.mem_cons_of_mem _ z
  have mk : ∀ {s s2 : Shared}, Moved wr G s s2 → (∀ b o, h0.get? b = some o → s.heap.get? b = some o) → ∀ b o, h0.get? b = some o → s2.heap.get? b = some o := fun hm hp b o e => hm.heap b o (fun z => by
    rw [hw0 b z] at e
    cases e) (hp b o e)
  intro m
  induction m with
  | zero =>
    rintro i s hm hi hst hkp ⟨L, es, ep, t, F, pm⟩ hR
    have e : i = n := by omega
    subst e
    refine codeAny_builtin PyProof.Rows.F.entry_set_update_loop (?_ : _)
    rw [Around.under_plainId PyProof.Rows.F.plain_set_update_loop _]
    show wpAny _ A.in1 (pyNext (.ref I) >>= _) _ _ s
    refine wpAny_bind (W.done s _ _ hst fun s2 mv => ?_)
    show wpAny _ A.in1 (ret Value.none) _ _ s2
    have kp2 := mk mv hkp
    rw [hn, List.take_length] at pm
    exact wpAny_pure (hR s2 L es ep t (mv.mono more) (F.keep (fun o e => mv.heap S o nw e) fun p hp => tup_keep (hk p (pm.mem_iff.mp hp)) kp2) pm kp2)
  | succ m ih =>
    rintro i s hm hi hst hkp ⟨L, es, ep, t, F, pm⟩ hR
    have lt : i < n := by omega
    refine codeAny_builtin PyProof.Rows.F.entry_set_update_loop (?_ : _)
    rw [Around.under_plainId PyProof.Rows.F.plain_set_update_loop _]
    show wpAny _ A.in1 (pyNext (.ref I) >>= _) _ _ s
    refine wpAny_bind (W.item i s _ _ lt hst fun v s2 hP st2 mv => ?_)
    obtain ⟨p, hp, rfl⟩ := hval i v hP
    have kp2 := mk mv hkp
    have F2 : Few P w s2.heap S L es ep t := F.keep (fun o e => mv.heap S o nw e) fun q hq => tup_keep (hk q (List.mem_of_mem_take (pm.mem_iff.mp hq))) kp2
    have hx : TupAt P w s2.heap p.2 p.1 := tup_keep (hk p (List.mem_of_getElem? hp)) kp2
    have el : L.length = i := by
      rw [pm.length_eq, List.length_take]
      omega
    have fresh : ∀ q ∈ L, q.2 ≠ p.2 := fun q hq e => by
      obtain ⟨j, hj⟩ := List.mem_iff_getElem?.mp (pm.mem_iff.mp hq)
      have hj2 : j < i := by
        have z := (List.getElem?_eq_some_iff.mp hj).1
        rw [List.length_take] at z
        omega
      rw [List.getElem?_take_of_lt hj2] at hj
      obtain ⟨l1, m1⟩ := List.getElem?_eq_some_iff.mp hj
      obtain ⟨l2, m2⟩ := List.getElem?_eq_some_iff.mp hp
      have z := List.pairwise_iff_getElem.mp nd j i (by rw [List.length_map]; exact l1) (by rw [List.length_map]; exact l2) hj2
      rw [List.getElem_map, List.getElem_map, m1, m2] at z
      exact z e
    show wpAny _ A.in1 (holding [Value.ref p.1] (setAdd S (.ref p.1)) >>= _) _ _ s2
    refine wpAny_bind (wpAny_holding ?_)
    unfold setAdd
    refine wpAny_holding (wpAny_bind (wpAny_pyHash_tuple hu hx ?_))
    refine few_add (s := { s2 with toks := s2.toks + (p.2.length + 1) }) F2 hx hu fresh (by omega) fun h2 L2 es2 ep2 t2 sb F3 pm2 => ?_
    have kp3 : ∀ b o, h0.get? b = some o → h2.get? b = some o := fun b o e => (sb.2 b fun z => by
      rw [z, hS0] at e
      cases e).trans (kp2 b o e)
    have pm3 : L2.Perm (ks.take (i + 1)) := by
      have e : ks.take (i + 1) = ks.take i ++ [p] := by
        rw [List.take_add_one, hp]
        rfl
      rw [e]
      exact pm2.trans ((pm.cons p).trans (List.perm_append_comm (l₁ := [p]) (l₂ := ks.take i)))
    refine wpAny_pure ⟨plainId_quiet PyProof.Rows.F.plain_set_update_loop _, ih (i + 1) _ (by omega) lt (W.frame _ s2 _ _ st2 (Nat.le_add_right _ _) fun b hb o e => ?_) kp3 ⟨L2, es2, ep2, t2, F3, pm3⟩ fun s3 L4 es4 ep4 t4 mv4 F4 pm4 kp4 => ?_⟩
    · rw [sb.2 b fun z => off (by rw [← z]; exact hb)]
      exact e
    · refine hR s3 L4 es4 ep4 t4 (Moved.trans W.gtrans ((mv.mono more).then_heap (Nat.le_add_right _ _) fun b o hb e => ?_) mv4) F4 pm4 kp4
      rw [sb.2 b fun z => hb (by rw [z]; exact List.mem_cons_self)]
      exact e
set_option maxHeartbeats 3200000 in
/-- set(xs) of at most three different tuples -/
theorem few_call {l : Addr} {its : Array Value} (ks : List (Addr × TKey)) {Q : Value → Shared → Prop} (hh : A.handled = none) (hl : s.heap.IsList l its) (hit : its.toList = ks.map fun p => Value.ref p.1) (hk : ∀ p ∈ ks, TupAt P w s.heap p.2 p.1) (h3 : ks.length ≤ 3) (nd : (ks.map (·.2)).Nodup) (hu : A.units + 3 < cLine)
    (q : ∀ (h2 : Heap) (tk : Nat) L es ep t, Few P w h2 s.heap.objs.size L es ep t → L.Perm ks → (∀ b o, s.heap.get? b = some o → h2.get? b = some o) → Q (.ref s.heap.objs.size) { s with heap := h2, toks := tk }) : wpAny (model P w) A (call (.type "set") [.ref l]) Q E s := by
  have hsz : its.size = ks.length := by
    have z := congrArg List.length hit
    rwa [Array.length_toList, List.length_map] at z
  obtain ⟨c, tl, hmro⟩ := PySem.F.called_set.mro
  have hmade := PySem.F.called_set.made
  have hsub := PySem.F.called_set.sub
  refine wpAny_call (codeAny_of_tree (?_ : _))
  show wpAny _ _ (callAny (.type "set") _) _ _ _
  refine wpAny_pure ⟨Code.quiet_builtin _ (by decide +kernel), codeAny_builtin PySem.F.entry_type_call ?_⟩
  rw [Around.under_plain (weight_type_call_type "set" [.ref l] []) rfl]
  have h1 := PySem.F.called_set.notType
  have h2 := PySem.F.called_set.canCreate
  have hct := PySem.F.typeCall_set_1 (.ref l)
  repeat (any_goals (first | assumption | wp_step))
  refine codeAny_mono (code_set_led1 (.ref l) (E := E) (Q₁ := fun obj s₁ => obj = .ref s.heap.objs.size ∧ s₁ = { s with heap := s.heap.push { cls := .type "set", dict := none, data := .set #[] 0 (.fresh 0 0 (!w.params.followText "set-order")) } }) ⟨rfl, rfl⟩) fun r s₁ hr => ?_
  generalize (!w.params.followText "set-order") = led at hr
  cases r with
  | error e => exact hr
  | ok fl =>
    cases fl with
    | ret obj =>
      obtain ⟨rfl, rfl⟩ := hr
      have hS : (s.heap.push { cls := .type "set", dict := none, data := .set #[] 0 (.fresh 0 0 led) }).get? s.heap.objs.size = some { cls := .type "set", dict := none, data := .set #[] 0 (.fresh 0 0 led) } := Heap.get?_push_size _ rfl
      have hT : Shared.TypeIs { s with heap := s.heap.push { cls := .type "set", dict := none, data := .set #[] 0 (.fresh 0 0 led) } } (.ref s.heap.objs.size) "set" := ⟨_, hS, rfl⟩
      have hli := PySem.F.called_set.init.lookup
      have hbi := PySem.F.called_set.init.bind (.ref s.heap.objs.size)
      repeat (any_goals (first | assumption | wp_step))
      refine codeAny_mono (codeAny_call_builtin (R := wants (fun r s₂ => r = .none ∧ ∃ h2 tk L es ep t, s₂ = { s with heap := h2, toks := tk } ∧ Few P w h2 s.heap.objs.size L es ep t ∧ L.Perm ks ∧ ∀ b o, s.heap.get? b = some o → h2.get? b = some o) E) PySem.F.called_set.init.plain PySem.F.entry_set_init (check_set_init_1 hT ?_)) fun r₂ s₂ hr₂ => ?_
      · obtain ⟨ol, hol, hcl, nl, hdl⟩ := hl
        obtain ⟨ocls, odict, odata, oslots⟩ := ol
        simp only at hcl hdl
        subst hcl; subst hdl
        have hol2 : (s.heap.push { cls := .type "set", dict := none, data := .set #[] 0 (.fresh 0 0 led) }).get? l = some { cls := .type "list", dict := odict, data := .seq its nl, slots := oslots } := Heap.get?_push_of_some _ hol
        have hsls := PySem.F.sub_list_set
        have hslf := PySem.F.sub_list_frozenset
        have hne : (Value.type "list" == Value.type "dict") = false := by decide
        have hl1 : (s.heap.push { cls := .type "set", dict := none, data := .set #[] 0 (.fresh 0 0 led) }).IsList l its := ⟨_, hol2, rfl, nl, rfl⟩
        unfold Builtin.«set.__init__» noKeywords Builtin.Frozenset.updateFrom
        generalize hPI : pyIter = PI
        wp_walk
        subst hPI
        refine wpAny_pyIter_list hl1 (wpAny_bind (wpAny_runValue ?_))
        have hlS : l < s.heap.objs.size := Heap.lt_size hol
        have hh3 : A.in1.in1.in1.handled = none := by simp [hh]
        have ez : (s.heap.push { cls := .type "set", dict := none, data := .set #[] 0 (.fresh 0 0 led) }).objs.size = s.heap.objs.size + 1 := Heap.size_push ..
        have nI : l ≠ (s.heap.push { cls := .type "set", dict := none, data := .set #[] 0 (.fresh 0 0 led) }).objs.size := by
          rw [ez]
          exact Nat.ne_of_lt (Nat.lt_succ_of_lt hlS)
        have off : s.heap.objs.size ∉ [(s.heap.push { cls := .type "set", dict := none, data := .set #[] 0 (.fresh 0 0 led) }).objs.size, l] := fun z => by
          rcases List.mem_cons.mp z with z | z
          · rw [ez] at z
            exact Nat.ne_of_lt (Nat.lt_succ_self _) z
          · exact Nat.ne_of_gt hlS (List.mem_singleton.mp z)
        have hval : ∀ (i : Nat) (v : Value), its[i]? = some v → ∃ p, ks[i]? = some p ∧ v = .ref p.1 := fun i v hv => by
          have z : its.toList[i]? = some v := by
            rw [Array.getElem?_toList]
            exact hv
          rw [hit, List.getElem?_map] at z
          obtain ⟨p, e1, e2⟩ := Option.map_eq_some_iff.mp z
          exact ⟨p, e1, e2.symm⟩
        have out : ∀ b, s.heap.objs.size ≤ b → s.heap.get? b = none := fun b hb => by
          cases z : s.heap.get? b with
          | none => rfl
          | some o => exact absurd (Nat.lt_of_lt_of_le (Heap.lt_size z) hb) (Nat.lt_irrefl _)
        refine few_loop ((Walks.list hh3 _ l nI its).toS) s.heap.objs.size off ks hsz h3 nd hval s.heap hk (out _ (Nat.le_refl _)) (fun b hb => out b (by
          rw [List.mem_singleton.mp hb, ez]
          exact Nat.le_succ _)) hu (its.size - 0) 0 _ (by omega) (Nat.zero_le _) ⟨⟨_, Heap.get?_push_size _ rfl, rfl, rfl⟩, (hl1.push _)⟩ (fun b o e => Heap.get?_push_of_some _ (Heap.get?_push_of_some _ e)) ⟨[], #[], 0, _, few_new (Heap.get?_push_of_some _ hS), .refl _⟩ ?hR
        intro s2 L es ep t mv F pm kp
        obtain ⟨h2, g2, d2, tk2, os2⟩ := s2
        have eg : g2 = s.gens := mv.gens
        have ed : d2 = s.drawn := mv.drawn
        have eo : os2 = s.os := mv.os
        subst eg; subst ed; subst eo
        show wpAny _ _ _ _ _ _
        refine wpAny_pure ?_
        show wpAny _ _ (ret Value.none) _ _ _
        exact wpAny_pure ⟨rfl, h2, tk2, L, es, ep, t, rfl, F, pm, kp⟩
      · cases r₂ with
        | error e => exact hr₂
        | ok fl₂ =>
          cases fl₂ with
          | ret r =>
            obtain ⟨rfl, h2, tk, L, es, ep, t, rfl, F, pm, kp⟩ := hr₂
            repeat (any_goals (first | assumption | wp_step))
            exact q _ _ _ _ _ _ F pm kp
          | _ => exact hr₂.elim
    | _ => exact hr.elim
end
end Ts
/-! Ts2 -/
set_option maxHeartbeats 1000000
/-! len(set(xs)): the expression and its reading. -/
namespace Ls
open PySem PySem.Spec PyProof.Rows L2
def tLenSetD (K : PySem.W.Frag) (ta : TE) : TE := fun σ H Q => ta σ H fun x H1 => ∃ (l : Addr) (ks : List (Addr × TKey)), x = .ref l ∧ SqL K H1 l (ks.map fun p => V.ref p.1) ∧ (∀ p ∈ ks, SqT K H1 p.1 (p.2.map kV)) ∧ ks.length ≤ 3 ∧ (ks.map (·.2)).Nodup ∧ Q (.int (ks.length : Nat)) H1
theorem refs_vals : ∀ {ks : List (Addr × TKey)} {us : List Value}, Vals (ks.map fun p => V.ref p.1) us → us = ks.map fun p => Value.ref p.1
  | [], _, .nil => rfl
  | p :: ks, _, .cons r t => by
    cases r
    rw [refs_vals t]
    rfl
section
variable {X : Cx}
theorem pe_lenSetD {K : PySem.W.Frag} {a : Expr} {ta : TE} {p p2 q pos : Pos} {k : Nat} (hr : Room k X.A) (hm : X.mg "len" = none) (hm2 : X.mg "set" = none) (ha : PE X a ta) (hg : Gl X "len" := by rfl) (hg2 : Gl X "set" := by rfl) (hc : X.calm = true := by rfl) (hK : X.K = K := by rfl)
    (na : starEach [a] X.env = (false, eval a X.env) :: starEach [] X.env := by rfl) : PE X (.Call (.Name "len" p) [.Call (.Name "set" p2) [a] [] q] [] pos) (tLenSetD K ta) := by
  subst hK
  refine ⟨fun pins s σ H Q I h => Call_ (ld_blt I hg hm boot_len ?_)⟩
  refine PyProof.Rows.callWith_builtin1 (PyProof.Rows.args_cons (Call_ (ld_blt I hg2 hm2 boot_set ?_)) rfl) rfl rfl
  refine PyProof.Rows.callWith_type1 (PyProof.Rows.args_cons (thn (ha.run pins s σ H _ I h) fun v s1 ⟨x, H1, I1, r1, q1⟩ => PyProof.Rows.args_nil ?_) na) na rfl
  obtain ⟨l, ks, rfl, hq, hk, h3, nd, q1⟩ := q1
  cases r1
  obtain ⟨its, r, pl, hz⟩ := I1.list hq
  have hu := hr.units
  refine Ts.few_call ks (I1.ok.hd hc) pl.isList (by simpa using refs_vals r) (fun p hp => ?_) h3 nd (by show X.A.units + 3 < cLine; omega) fun h2 tk L es ep t F pm kp => PyProof.Rows.args_nil ?_
  · obtain ⟨us, ru, ⟨o, ho, hcl, n, hd⟩, _⟩ := I1.tuple (hk p hp)
    exact ⟨o, us.toArray, n, ho, hcl, hd, by simpa using items_are ru⟩
  have fit := F.fit (s := { s1 with heap := h2 })
  have sz := F.size (s := { s1 with heap := h2 })
  obtain ⟨o, ho, hex, hd⟩ := F.ob
  have I2 : Inv X pins σ H1 { s1 with heap := h2, toks := tk } := I1.kept fun b o e => kp b o e
  have e : es.size = ks.length := sz.trans pm.length_eq
  exact call_len_set ho hex hd fit (by omega) ⟨.int ks.length, H1, I2.tok _, ⟨_, by rw [e]⟩, q1⟩
end
section
variable {A : Amb} {ρ : Env} {te : TE} {K : PySem.W.Frag}
theorem rp_tkeys {G : Hp} : ∀ {ks : List TKey} {xs : List V}, RpAll G xs (ks.map tD) → ∃ qs : List (Addr × TKey), xs = qs.map (fun p => V.ref p.1) ∧ qs.map (·.2) = ks ∧ ∀ p ∈ qs, G p.1 = some (.tup (p.2.map kV))
  | [], _, .nil => ⟨[], rfl, rfl, fun p hp => by cases hp⟩
  | z :: ks, _, .cons h r => by
    obtain ⟨b, rfl, hb⟩ := rp_tkey h
    obtain ⟨qs, rfl, rfl, e3⟩ := rp_tkeys r
    refine ⟨(b, z) :: qs, rfl, rfl, fun p hp => ?_⟩
    rcases List.mem_cons.mp hp with e | m
    · rw [e]
      exact hb
    · exact e3 p m
theorem xe_lenSet {ks : List TKey} (h : XE A te ρ (dat (.list (ks.map tD)))) (h3 : ks.length ≤ 3) (nd : ks.Nodup) : XE A (tLenSetD K te) ρ (dat (.int (ks.length : Int))) := fun G H σ Q E s j k => h G H σ _ E s j fun v G1 H1 t1 j1 p => by
  obtain ⟨l, xs, rfl, hl, r⟩ := Rp.list_inv p
  obtain ⟨qs, rfl, rfl, e3⟩ := rp_tkeys r
  refine ⟨l, qs, rfl, SqL.of (t1.s _ _ hl), fun p hp => SqT.of (t1.s _ _ (e3 p hp)), by rw [List.length_map] at h3; exact h3, nd, ?_⟩
  have e : qs.length = (qs.map (·.2)).length := by rw [List.length_map]
  rw [e]
  exact k _ G1 H1 t1 j1 (.int _)
end
end Ls
/-! F24 -/
set_option maxHeartbeats 1000000
namespace Ls
open PySem PySem.Spec PyProof.Rows L2
section
variable {A : Amb} {ρ : Env} {te ta tb tc : TE} {tt tu : TT} {φ ψ χ : SP} {K : PySem.W.Frag} {G0 H0 G H : Hp} {σ : L2.St} {D : Ends} {t u tz tw : TS} {r : R2}
theorem q_parEx2 {α β : Type} {P : α → Prop} {f : α → SP} {P2 : β → Prop} {f2 : β → SP} {i j : Nat} {ta2 : TA} (a : At A G0 H0 G H σ ρ) (h : XA A ta2 ρ [ex P f, ex P2 f2]) (k : ∀ x, P x → ∀ y, P2 y → ∀ σ2 G2 H2, Stp A G H G2 H2 → At A G0 H0 G2 H2 σ2 ((ρ.set i (some (f x))).set j (some (f2 y))) → tz D σ2 H2) : tSeq (tPar i j ta2) tz D σ H :=
  q_par a h fun v w G2 H2 st p1 p2 a2 => by
    obtain ⟨x, hx, p⟩ := p1
    obtain ⟨y, hy, q⟩ := p2
    exact k x hx y hy _ G2 H2 st (a2.re (((a.env.mono st.g).set i p).set j q))
end
section
variable {P : Program} {w : World} {K : PySem.W.Frag} {mg : Str → Option Value} {base : Heap}
def sp_l_harmful : Sp := fun vs H Q E => ∃ (bag L : Addr) (ns : List Int), spA (bagA bag L ns) [isV (.ref bag)] (ex SpecOk fun a => dat (specD a)) vs H Q E
abbrev N_l_harmful : List Str := ["_law_bag", "_law_alphabet_here", "_law_one", "_law_two", "_law_many", "_law_left", "_law_right", "_law_first", "_law_row"]
theorem sc_l_harmful : FnScope ["_law_bag", "_law_alphabet_here", "_law_one", "_law_two", "_law_many", "_law_left", "_law_right", "_law_first", "_law_row"] ["_law_bag"] (defScope s_l_harmful) := ⟨rfl, rfl, rfl, by decide +kernel, rfl, by decide +kernel, by decide +kernel⟩
theorem row4 {A : Amb} {ρ : Env} {i k : Nat} {t : Tr} {d : PyData} (h : ρ[i]? = some (some (dat (eTr t)))) (e : [PyData.int (t.1 : Int), .str (sg t.2.1), .int (t.2.2.1 : Int), .str (wS t.2.2.2)][k]? = some d) : XE A (tOp (rIxT K) (tVar i) (tC (.int (k : Int)))) ρ (dat d) := xe_op (xe_var h) xe_int (xr_ixTn (n := k) e)
theorem ok_l_harmful {f : Addr} {fd : FuncData} (F : FnP K "_law_harmful" "_law_harmful" s_l_harmful [] [] f fd) (T : Fx K mg) (F_l_pull : Fn P w K mg base "_law_pull" 1 ["_law_bag", "_law_sides"] [] sp_l_pull) (F_l_mixed : Fn P w K mg base "_law_mixed" 2 ["_law_bag", "_law_rows_here"] [] sp_l_mixed)
    (F_l_alphabet : Fn P w K mg base "_law_alphabet" 3 ["_law_bag", "_law_most"] [] sp_l_alphabet) (F_l_rows : Fn P w K mg base "_law_rows" 3 ["_law_bag", "_law_alphabet_here", "_law_size", "_law_guesses", "_law_safe"] [] sp_l_rows) : FnOk P w K mg base CX0 4 f fd ["_law_bag"] sp_l_harmful := by
  refine F.ok sc_l_harmful (fun vs H Q E h => ?_) (fun cdv A outer st H vs Q E hr h => ?_)
  · obtain ⟨_, _, _, h⟩ := h
    exact spA_len h
  · obtain ⟨bag, L, ns, G, sG, jG, ps, k⟩ := h
    obtain ⟨v1, rfl, p1⟩ := ps_one ps
    refine ⟨_, PSs.nox (pss_cons (ps_set (i := 1) sc_l_harmful.nd rfl (Or.inl rfl) (pe_fn F_l_alphabet (hr.mono (by decide)) rfl (pa_cons (pv 0) (pa_cons pe_int pa_nil))))
  (pss_cons (ps_par (i := 2) (j := 3) (by rfl) sc_l_harmful.nd rfl rfl (by decide) rfl rfl (pa_cons (pe_fn F_l_rows (hr.mono (by decide)) rfl (pa_cons (pv 0) (pa_cons (pv 1) (pa_cons (pe_op op_add pe_int (pe_fn F_l_pull (hr.mono (by decide)) rfl (pa_cons (pv 0) (pa_cons pe_int pa_nil)))) (pa_cons pe_bl (pa_cons pe_int pa_nil)))))) (pa_cons (pe_fn F_l_rows (hr.mono (by decide)) rfl (pa_cons (pv 0) (pa_cons (pv 1) (pa_cons pe_int (pa_cons pe_bl (pa_cons pe_int pa_nil)))))) pa_nil)) (by rfl))
  (pss_cons (ps_set (i := 4) sc_l_harmful.nd rfl (Or.inr rfl) (pe_op op_add pe_int (pe_callB (cr_maxK K rfl) (by rfl) T.b_max bt_max (pa_cons (pe_lc (own := [("_law_row", 8)]) (by rfl) sc_l_harmful.nd (pi_listK K (pv 2)) (blkOk_by (by kernel_rfl)) (fun _ _ _ _ _ => (pg_name (i := 8) sc_l_harmful.nd rfl (Or.inl rfl))) (fun _ _ _ _ _ => pts_nil) (fun _ _ _ _ _ => (pe_ix (ix_tupK K) (pv 8) pe_int (fun _ _ => rfl)))) pa_nil))))
  (pss_cons (ps_setLc (i := 5) (own := [("_law_row", 8)]) (by rfl) sc_l_harmful.nd rfl rfl (sw_true rfl rfl rfl (by decide +kernel)) (pi_listK K (pv 2)) (blkOk_by (by kernel_rfl)) (fun _ _ _ _ _ => (pg_name (i := 8) sc_l_harmful.nd rfl (Or.inl rfl))) (fun _ _ _ _ _ => pts_nil) (fun _ _ _ _ _ => (pe_tup (pa_cons (pe_op op_add (pe_ix (ix_tupK K) (pv 8) pe_int (fun _ _ => rfl)) pe_int) (pa_cons (pe_ix (ix_tupK K) (pv 8) pe_int (fun _ _ => rfl)) (pa_cons (pe_op op_add (pe_ix (ix_tupK K) (pv 8) pe_int (fun _ _ => rfl)) pe_int) (pa_cons (pe_ix (ix_tupK K) (pv 8) pe_int (fun _ _ => rfl)) pa_nil)))))))
  (pss_cons (ps_setLc (i := 6) (own := [("_law_row", 8)]) (by rfl) sc_l_harmful.nd rfl rfl (sw_true rfl rfl rfl (by decide +kernel)) (pi_listK K (pv 3)) (blkOk_by (by kernel_rfl)) (fun _ _ _ _ _ => (pg_name (i := 8) sc_l_harmful.nd rfl (Or.inl rfl))) (fun _ _ _ _ _ => pts_nil) (fun _ _ _ _ _ => (pe_tup (pa_cons (pe_op op_add (pe_op op_add (pe_ix (ix_tupK K) (pv 8) pe_int (fun _ _ => rfl)) pe_int) (pv 4)) (pa_cons (pe_ix (ix_tupK K) (pv 8) pe_int (fun _ _ => rfl)) (pa_cons (pe_op op_add (pe_op op_add (pe_ix (ix_tupK K) (pv 8) pe_int (fun _ _ => rfl)) pe_int) (pv 4)) (pa_cons (pe_ix (ix_tupK K) (pv 8) pe_int (fun _ _ => rfl)) pa_nil)))))))
  (pss_cons (ps_setLc (i := 7) (own := [("_law_row", 8)]) (by rfl) sc_l_harmful.nd rfl rfl (sw_true rfl rfl rfl (by decide +kernel)) (pi_listK K (pe_op op_cat (pv 5) (pv 6))) (blkOk_by (by kernel_rfl)) (fun _ _ _ _ _ => (pg_name (i := 8) sc_l_harmful.nd rfl (Or.inl rfl))) (fun _ _ _ _ _ => (pts_one (PW.pt (pw_or (pt_cmpR op_eq (pe_ix (ix_tupK K) (pv 8) pe_int (fun _ _ => rfl)) pe_int (nomark _)) (pw_or1 (pt_cmpR op_eq (pe_ix (ix_tupK K) (pv 8) pe_int (fun _ _ => rfl)) (pe_op op_add pe_int (pv 4)) (nomark _))))))) (fun _ _ _ _ _ => (pe_op (op_catTK K) (pe_tup (pa_cons pe_int pa_nil)) (pe_slice (sl_tupK K) (pv 8) (po_some pe_int) po_none))))
  (pss_one (ps_ret (pe_lst (pa_cons (pv 1) (pa_cons (pe_op op_add pe_int (pv 4)) (pa_cons (pe_fn F_l_mixed (hr.mono (by decide)) rfl (pa_cons (pv 0) (pa_cons (pe_op op_cat (pe_op op_cat (pv 5) (pv 6)) (pv 7)) pa_nil))) (pa_cons pe_int pa_nil))))))))))))), ?_⟩
    have a : At (bagA bag L ns) G H G H _ [some (isV (.ref bag)), none, none, none, none, none, none, none, none] := At.begin (vs := [v1]) (N := N_l_harmful) (EnvOk.nil.skip.skip.skip.skip.skip.skip.skip.skip.cons p1) sG jG
    refine q_asgEx (P := AlOk) (f := fun cs => dat (.str (aS cs))) a (xe_call (φ := ex AlOk fun cs => dat (.str (aS cs))) (xa_cons (xe_var rfl) (xa_cons xe_int xa_nil)) fun vs H Q h => ⟨bag, L, ns, h⟩) (fun m _ => xg_name (List.mem_singleton.mpr rfl)) fun cs al σ2 G2 H2 st2 a2 => ?_
    refine q_parEx2 (P := fun x : Nat × List Tr => 1 ≤ x.1 ∧ x.1 ≤ 2 ∧ RsOk x.1 cs x.2) (f := fun x => dat (.list (x.2.map eTr))) (P2 := RsOk 1 cs) (f2 := fun l => dat (.list (l.map eTr))) a2
      (xa_cons (xe_call (φ := ex (fun x : Nat × List Tr => 1 ≤ x.1 ∧ x.1 ≤ 2 ∧ RsOk x.1 cs x.2) fun x => dat (.list (x.2.map eTr))) (xa_cons (xe_var rfl) (xa_cons (xe_var rfl) (xa_cons (xe_op (χ := ex (fun m : Nat => 1 ≤ m ∧ m ≤ 2) fun m => dat (.int (m : Int))) xe_int (xe_pull (m := 2) rfl (by decide) (by decide) xe_int) (xr_ex0 fun r hr => ⟨1 + r, by omega, xr_add⟩)) (xa_cons xe_bl (xa_cons xe_int xa_nil))))) fun vs H Q h => ?_)
      (xa_cons (xe_call (φ := ex (RsOk 1 cs) fun l => dat (.list (l.map eTr))) (xa_cons (xe_var rfl) (xa_cons (xe_var rfl) (xa_cons xe_int (xa_cons xe_bl (xa_cons xe_int xa_nil))))) fun vs H Q h => ⟨bag, L, ns, cs, 1, 2, _, al, by decide, by decide, by decide, by decide, h⟩) xa_nil)) fun x hx two h2 σ3 G3 H3 st3 a3 => ?_
    · obtain ⟨Gz, sz, jz, pz, kz⟩ := h
      obtain ⟨u1, u2, u3, u4, u5, rfl, q1, q2, ⟨m, hm, q3⟩, q4, q5⟩ := ps_five pz
      exact ⟨bag, L, ns, cs, m, 2, _, al, by omega, by omega, by decide, by decide, Gz, sz, jz, .cons q1 (.cons q2 (.cons q3 (.cons q4 (.cons q5 .nil)))), fun v Gy Hy ty jy py => by
        obtain ⟨trs, hR, py⟩ := py
        exact kz v Gy Hy ty jy ⟨(m, trs), ⟨hm.1, hm.2, hR⟩, py⟩⟩
    obtain ⟨n, one⟩ := x
    obtain ⟨hn, hn2, h1⟩ := hx
    have hn : 1 ≤ n := hn
    have hn2 : n ≤ 2 := hn2
    have h1 : RsOk n cs one := h1
    have hl1 : one.length ≤ 18 := by
      have a1 := h1.len
      have a3 : n * cs.length ≤ 2 * 3 := Nat.mul_le_mul hn2 al.three
      omega
    have hl2 : two.length ≤ 9 := by
      have a1 := h2.len
      have a4 := al.three
      omega
    have hmax : ∀ m : Int, m ∈ one.map (fun t => (t.1 : Int)) → (∀ y ∈ one.map (fun t => (t.1 : Int)), y ≤ m) → m = (n : Int) - 1 := fun m hm hy => by
      obtain ⟨t, ht, rfl⟩ := List.mem_map.mp hm
      have a1 := (h1.ok t ht).s
      obtain ⟨c, hc⟩ : ∃ c, c ∈ cs := List.exists_mem_of_ne_nil _ (fun e => by
        have := al.one
        rw [e] at this
        simp at this)
      obtain ⟨u, hu, e1, e2⟩ := mvs_ne.mp (h1.all (n - 1) c (by omega) hc)
      have := hy _ (List.mem_map.mpr ⟨u, hu, rfl⟩)
      have this : (u.1 : Int) ≤ (t.1 : Int) := this
      omega
    have hne : 0 < (one.map fun t => (t.1 : Int)).length := by
      obtain ⟨c, hc⟩ : ∃ c, c ∈ cs := List.exists_mem_of_ne_nil _ (fun e => by
        have := al.one
        rw [e] at this
        simp at this)
      obtain ⟨u, hu, e1, e2⟩ := mvs_ne.mp (h1.all 0 c (by omega) hc)
      rw [List.length_map]
      exact List.length_pos_of_mem hu
    refine q_asgEx (P := fun m : Nat => m = n) (f := fun m => dat (.int (m : Int))) a3 (xe_op xe_int (xe_cb (xa_cons (XE.to (XE.up (xe_lcAll (l := one) (ψ := fun t => dat (eTr t)) (E := fun t => .int (t.1 : Int)) (js := [8]) (xi_listT (xe_var rfl)) (by omega) (fun j hj => hj) fun t ht => ⟨xg_name (List.mem_singleton.mpr rfl), row4 (k := 0) rfl rfl⟩)) (d' := .list ((one.map fun t => (t.1 : Int)).map .int)) (by rw [List.map_map]; rfl)) xa_nil) (xc_max hne)) (xr_ex0 fun m hm => ⟨n, rfl, ?_⟩)) (fun m _ => xg_name (List.mem_singleton.mpr rfl)) fun many hmany σ4 G4 H4 st4 a4 => ?_
    · rw [hmax m hm.1 hm.2]
      have e : (1 : Int) + ((n : Int) - 1) = (n : Int) := by omega
      have := xr_add (A := bagA bag L ns) (i := 1) (k := (n : Int) - 1)
      rw [e] at this
      exact this
    subst hmany
    have i0 : ∀ x k : Nat, PyData.int ((x : Int) + 1) = .int ((x + 1 + 0 : Nat) : Int) := fun x k => congrArg PyData.int (by omega)
    have i1 : ∀ x : Nat, PyData.int ((x : Int) + 1 + (many : Int)) = .int ((x + 1 + many : Nat) : Int) := fun x => congrArg PyData.int (by omega)
    refine q_asg (φ := dat (.list ((hmL one).map eTr))) a4 (XE.up (XE.to (xe_lcAll (l := one) (ψ := fun t => dat (eTr t)) (E := fun t => eTr (shT 0 t)) (js := [8]) (xi_listT (xe_var rfl)) (by omega) (fun j hj => hj) fun t ht => ⟨xg_name (List.mem_singleton.mpr rfl), xe_tup (ds := [.int ((t.1 + 1 + 0 : Nat) : Int), .str (sg t.2.1), .int ((t.2.2.1 + 1 + 0 : Nat) : Int), .str (wS t.2.2.2)]) (xa_cons (XE.to (xe_op (row4 (k := 0) rfl rfl) xe_int xr_add) (i0 _ 0)) (xa_cons (row4 (k := 1) rfl rfl) (xa_cons (XE.to (xe_op (row4 (k := 2) rfl rfl) xe_int xr_add) (i0 _ 0)) (xa_cons (row4 (k := 3) rfl rfl) xa_nil)))) (by show 4 ≤ 1000; decide)⟩) (by unfold hmL; rw [List.map_map]; rfl))) fun v5 G5 H5 st5 _ a5 => ?_
    refine q_asg (φ := dat (.list ((hmR many two).map eTr))) a5 (XE.up (XE.to (xe_lcAll (l := two) (ψ := fun t => dat (eTr t)) (E := fun t => eTr (shT many t)) (js := [8]) (xi_listT (xe_var rfl)) (by omega) (fun j hj => hj) fun t ht => ⟨xg_name (List.mem_singleton.mpr rfl), xe_tup (ds := [.int ((t.1 + 1 + many : Nat) : Int), .str (sg t.2.1), .int ((t.2.2.1 + 1 + many : Nat) : Int), .str (wS t.2.2.2)]) (xa_cons (XE.to (xe_op (xe_op (row4 (k := 0) rfl rfl) xe_int xr_add) (xe_var rfl) xr_add) (i1 _)) (xa_cons (row4 (k := 1) rfl rfl) (xa_cons (XE.to (xe_op (xe_op (row4 (k := 2) rfl rfl) xe_int xr_add) (xe_var rfl) xr_add) (i1 _)) (xa_cons (row4 (k := 3) rfl rfl) xa_nil)))) (by show 4 ≤ 1000; decide)⟩) (by unfold hmR; rw [List.map_map]; rfl))) fun v6 G6 H6 st6 _ a6 => ?_
    have hL : (hmL one).length = one.length := by
      unfold hmL
      rw [List.length_map]
    have hR : (hmR many two).length = two.length := by
      unfold hmR
      rw [List.length_map]
    have cat : ∀ {ρ : Env}, ρ[5]? = some (some (dat (.list ((hmL one).map eTr)))) → ρ[6]? = some (some (dat (.list ((hmR many two).map eTr)))) → ∀ {A : Amb}, XE A (tOp rCat (tVar 5) (tVar 6)) ρ (dat (.list ((hmL one ++ hmR many two).map eTr))) := fun {ρ} h5 h6 {A} => XE.to (xe_op (xe_var h5) (xe_var h6) (xr_cat (by rw [List.length_map, List.length_map]; omega))) (by rw [List.map_append])
    refine q_asg (φ := dat (.list ((hmF many (hmL one ++ hmR many two)).map eTr))) a6 (XE.up (XE.to (xe_lc (l := hmL one ++ hmR many two) (ψ := fun t => dat (eTr t)) (F := hmQ many) (E := fun t => eTr (0, t.2)) (js := [8]) (xi_listT (cat rfl rfl)) (by rw [List.length_append]; omega) (fun j hj => hj) fun t ht => ⟨xg_name (List.mem_singleton.mpr rfl), XT.to (xt_or (xt_test (xe_op (row4 (k := 0) rfl rfl) xe_int xr_eqI)) fun _ => xt_test (xe_op (row4 (k := 0) rfl rfl) (xe_op xe_int (xe_var rfl) xr_add) xr_eqI)) (by
        unfold hmQ
        rw [decide_eq_decide.mpr (show ((t.1 : Int) = 1) ↔ t.1 = 1 by omega), decide_eq_decide.mpr (show ((t.1 : Int) = 1 + (many : Int)) ↔ t.1 = 1 + many by omega)]), fun _ => XE.to (xe_op (xe_tup1 xe_int) (XE.to (xe_slT (ds := [.int (t.1 : Int), .str (sg t.2.1), .int (t.2.2.1 : Int), .str (wS t.2.2.2)]) (xe_var rfl) (xo_some xe_int) xo_none (by show ¬ (HT.sIx 4 0 (some 1) = 0 ∧ HT.sIx 4 4 none = 4); decide)) (d' := .tuple [.str (sg t.2.1), .int (t.2.2.1 : Int), .str (wS t.2.2.2)]) rfl) (xr_catT (by simp) (by simp) (by show 1 + 3 ≤ 100000; decide))) rfl⟩) (by unfold hmF; rw [List.map_map]; rfl))) fun v7 G7 H7 st7 _ a7 => ?_
    have hF : (hmF many (hmL one ++ hmR many two)).length ≤ 27 := by
      unfold hmF
      rw [List.length_map]
      have := List.length_filter_le (hmQ many) (hmL one ++ hmR many two)
      rw [List.length_append] at this
      omega
    refine s_ret a7 (xe_exm (xe_lstX (α := List Tr) (P := fun x => x.Perm (hmA many one two)) (f := fun x => [.str (aS cs), .int ((2 + many : Nat) : Int), .list (x.map eTr), .int ((0 : Nat) : Int)]) (φs := [dat (.str (aS cs)), dat (.int ((2 + many : Nat) : Int)), ex (fun es : List PyData => es.Perm ((hmA many one two).map eTr)) fun es => dat (.list es), dat (.int 0)]) (xa_cons (xe_var rfl) (xa_cons (XE.to (xe_op xe_int (xe_var rfl) xr_add) (congrArg PyData.int (by omega))) (xa_cons (xe_call (φ := ex (fun es : List PyData => es.Perm ((hmA many one two).map eTr)) fun es => dat (.list es)) (xa_cons (xe_var rfl) (xa_cons (XE.to (d' := .list ((hmA many one two).map eTr)) (xe_op (cat rfl rfl) (xe_var rfl) (xr_cat (by rw [List.length_map, List.length_map, List.length_append]; omega))) (by unfold hmA; rw [← List.map_append])) xa_nil)) fun vs H Q h => ⟨bag, L, ns, _, by unfold hmA; rw [List.length_map, List.length_append, List.length_append]; omega, h⟩) (xa_cons xe_int xa_nil)))) (by show 4 ≤ 1000; decide) fun G vs h => ?_) fun x hx G v p => ?_) fun v G5 H5 st5 j5 p5 => k v G5 H5 st5 j5 p5
    · obtain ⟨u1, u2, u3, u4, rfl, q1, q2, ⟨es, hes, q3⟩, q4⟩ := ps_four h
      obtain ⟨l, pl, rfl⟩ := perm_unmap hes _ rfl
      exact ⟨l, pl, .cons q1 (.cons q2 (.cons q3 (.cons q4 .nil)))⟩
    · exact ⟨⟨cs, 2 + many, x, 0⟩, hm_ok al hn hn2 h1 h2 hx, p⟩
end
end Ls
/-! F25 -/
set_option maxHeartbeats 1000000
namespace Ls
open PySem PySem.Spec PyProof.Rows L2
/-! ### a row's parts -/
def dsR0 (x : Rw0) : List PyData := [.int (x.1.1 : Int), .int (x.1.2 : Int), .str (sg x.2.1), .int (x.2.2.1 : Int), .int (x.2.2.2 : Int)]
def dsR1 (x : Rw1) : List PyData := [.int (x.1.1 : Int), .int (x.1.2 : Int), .str (sg x.2.1), .int (x.2.2 : Int)]
section
variable {A : Amb} {ρ : Env} {K : PySem.W.Frag} {i : Nat} {te : TE}
/-- row[:2] of any row that begins so -/
theorem sl_02 {p : Nat × Nat} {ds : List PyData} (h : ρ[i]? = some (some (dat (.tuple (.int (p.1 : Int) :: .int (p.2 : Int) :: ds))))) (hn : ds.length ≠ 0) : XE A (tSl (rSlT K) (tVar i) tNoPart (tPart (tC (.int 2)))) ρ (dat (tD (kNN p.1 p.2))) := by
  refine XE.to (xe_slT (ds := .int (p.1 : Int) :: .int (p.2 : Int) :: ds) (xe_var h) xo_none (xo_some xe_int) ?_) ?_
  · rw [List.length_cons, List.length_cons]
    rintro ⟨_, e⟩
    have : HT.sIx (ds.length + 1 + 1) (ds.length + 1 + 1) (some 2) = 2 := by
      unfold HT.sIx
      simp
    omega
  · unfold cutD
    have : HT.sIx (ds.length + 1 + 1) (ds.length + 1 + 1) (some 2) = 2 := by
      unfold HT.sIx
      simp
    rw [List.length_cons, List.length_cons, this]
    have e0 : HT.sIx (ds.length + 1 + 1) 0 none = 0 := rfl
    rw [e0]
    rfl
theorem r0_02 {x : Rw0} (h : ρ[i]? = some (some (dat (eRw0 x)))) : XE A (tSl (rSlT K) (tVar i) tNoPart (tPart (tC (.int 2)))) ρ (dat (tD (kNN x.1.1 x.1.2))) := sl_02 (p := x.1) (ds := [.str (sg x.2.1), .int (x.2.2.1 : Int), .int (x.2.2.2 : Int)]) h (by simp)
theorem r0_24 {x : Rw0} (h : ρ[i]? = some (some (dat (eRw0 x)))) : XE A (tSl (rSlT K) (tVar i) (tPart (tC (.int 2))) (tPart (tC (.int 4)))) ρ (dat (tD [.inr (sg x.2.1), .inl (x.2.2.1 : Int)])) :=
  XE.to (xe_slT (ds := dsR0 x) (xe_var h) (xo_some xe_int) (xo_some xe_int) (by show ¬ (HT.sIx 5 0 (some 2) = 0 ∧ HT.sIx 5 5 (some 4) = 5); decide)) rfl
theorem r0_35 {x : Rw0} (h : ρ[i]? = some (some (dat (eRw0 x)))) : XE A (tSl (rSlT K) (tVar i) (tPart (tC (.int 3))) (tPart (tC (.int 5)))) ρ (dat (tD (kNN x.2.2.1 x.2.2.2))) :=
  XE.to (xe_slT (ds := dsR0 x) (xe_var h) (xo_some xe_int) (xo_some xe_int) (by show ¬ (HT.sIx 5 0 (some 3) = 0 ∧ HT.sIx 5 5 (some 5) = 5); decide)) rfl
theorem r0_ix {x : Rw0} {k : Nat} {d : PyData} (h : ρ[i]? = some (some (dat (eRw0 x)))) (e : (dsR0 x)[k]? = some d) : XE A (tOp (rIxT K) (tVar i) (tC (.int (k : Int)))) ρ (dat d) := xe_op (xe_var h) xe_int (xr_ixTn (n := k) e)
end
theorem own_get {b : Brd} {n : Nat} (h : n < b.ow.length) : b.ow[n]? = some (own b n) := by
  unfold own
  rw [List.getD_eq_getElem?_getD, List.getElem?_eq_getElem h]
  rfl
theorem nice_nn : Nice (fun _ : Nat × Nat => True) (fun p => tD (kNN p.1 p.2)) 1 := (nice_tup2 nice_nat nice_nat).weak fun _ _ => ⟨trivial, trivial⟩
theorem dec_int {a b : Nat} : decide ((a : Int) = (b : Int)) = decide (a = b) := decide_eq_decide.mpr (by omega)
theorem eqv_int (a b : Nat) : PyData.eqv (.int (a : Int)) (.int (b : Int)) = decide (a = b) := nice_nat.eqv a b trivial trivial
theorem bm_in {ms : List Bm} {m : Bm} (hm : m ∈ ms) (low : ∀ m ∈ ms, 97 ≤ m.2.1 ∧ m.2.1 ≤ 122) : ((ms.map eBm).any fun z => PyData.eqv z (.tuple [.int (m.1 : Int), .str (sg m.2.1), .int (m.2.2 : Int)])) = true := (nice_bm.anyIn (low m hm) ms low).trans (by simp [hm])
section
variable {P : Program} {w : World} {K : PySem.W.Frag} {mg : Str → Option Value} {base : Heap}
/-! ### _law_first_plan -/
structure FArgs (b : Brd) (a : Aut) (R : List Rw0) (HL : List Hi) : Prop where
  sp : SpecOk a
  bo : BoardOk a.cs b
  sm : R.length ≤ 6000
  nd : (HL.map hkey).Nodup
  ask : ∀ h ∈ HL, FAsk b a R HL h
def sp_l_first_plan : Sp := fun vs H Q E => ∃ (b : Brd) (a : Aut) (R : List Rw0) (HL : List Hi) (l : Addr) (kvs : List (TKey × V)) (G : Hp), FArgs b a R HL ∧ Same G H ∧ Own G H l (.dT kvs) ∧ DF G kvs (hiF HL) ∧
  Ps G vs [dat (specD a), dat (eNs b.ow), dat (.list (b.ms.map eBm)), dat (.list (R.map eRw0)), isV (.ref l)] ∧ ∀ v G2 H2, Stp A0 G H G2 H2 → Rp G2 v (.bool true) → Q v H2
abbrev N_l_first_plan : List Str := ["_law_spec_here", "_law_owners", "_law_moves", "_law_rows_here", "_law_high", "_law_steps_here", "_law_node", "_law_state", "_law_mine", "_law_row", "_law_words", "_law_move", "_law_goal", "_law_word"]
theorem sc_l_first_plan : FnScope ["_law_spec_here", "_law_owners", "_law_moves", "_law_rows_here", "_law_high", "_law_steps_here", "_law_node", "_law_state", "_law_mine", "_law_row", "_law_words", "_law_move", "_law_goal", "_law_word"] ["_law_spec_here", "_law_owners", "_law_moves", "_law_rows_here", "_law_high"] (defScope s_l_first_plan) := ⟨rfl, rfl, rfl, by decide +kernel, rfl, by decide +kernel, by decide +kernel⟩
theorem ok_l_first_plan {f : Addr} {fd : FuncData} (F : FnP K "_law_first_plan" "_law_first_plan" s_l_first_plan [] [] f fd) (T : Fx K mg) (F_l_steps : Fn P w K mg base "_law_steps" 1 ["_law_spec_here"] [] sp_l_steps) : FnOk P w K mg base CX0 2 f fd ["_law_spec_here", "_law_owners", "_law_moves", "_law_rows_here", "_law_high"] sp_l_first_plan := by
  refine F.ok sc_l_first_plan (fun vs H Q E h => ?_) (fun cdv A outer st H vs Q E hr h => ?_)
  · obtain ⟨_, _, _, _, _, _, _, _, _, _, _, h, _⟩ := h
    exact h.length
  · obtain ⟨b, a, R, HL, l, kvs, G, q, sG, wl, df, ps, k⟩ := h
    obtain ⟨v1, v2, v3, v4, v5, rfl, p1, p2, p3, p4, p5⟩ := ps_five ps
    refine ⟨_, PSs.nox (pss_cons (ps_set (i := 5) sc_l_first_plan.nd rfl (Or.inl rfl) (pe_fn F_l_steps (hr.mono (by decide)) rfl (pa_cons (pv 0) pa_nil)))
  (pss_cons (ps_lock (ps_for PassesOwn.never (by rfl) (pi_keys (pv 4)) (pg_tupK K (n := 2) (by rfl) (pgs_cons (pg_name (i := 6) sc_l_first_plan.nd rfl (Or.inr rfl)) (pgs_cons (pg_name (i := 7) sc_l_first_plan.nd rfl (Or.inr rfl)) pgs_nil))) (pss_cons (ps_setLc (i := 8) (own := [("_law_row", 9)]) (by rfl) sc_l_first_plan.nd rfl rfl (sw_true rfl rfl rfl (by decide +kernel)) (pi_listK K (pv 3)) (blkOk_by (by kernel_rfl)) (fun _ _ _ _ _ => (pg_name (i := 9) sc_l_first_plan.nd rfl (Or.inl rfl))) (fun _ _ _ _ _ => (pts_one (pt_cmpR (op_eqDK K hr.units) (pe_slice (sl_tupK K) (pv 9) po_none (po_some pe_int)) (pe_tup (pa_cons (pv 6) (pa_cons (pv 7) pa_nil))) (nomark _)))) (fun _ _ _ _ _ => (pv 9)))
  (pss_cons (ps_if (PW.pt (pw_or (pt_cmpR op_ne (pe_callB (call_lenK K) (by rfl) T.b_len PySem.boot_len (pa_cons (pv 8) pa_nil)) (pe_ifExp (pt_cmpR op_eq (pe_ix (ix_listK K) (pv 1) (pv 6) (fun _ _ => rfl)) pe_int (nomark _)) pe_int (pe_callB (call_lenK K) (by rfl) T.b_len PySem.boot_len (pa_cons (pe_lc (own := [("_law_move", 11)]) (by rfl) sc_l_first_plan.nd (pi_listK K (pv 2)) (blkOk_by (by kernel_rfl)) (fun _ _ _ _ _ => (pg_name (i := 11) sc_l_first_plan.nd rfl (Or.inl rfl))) (fun _ _ _ _ _ => (pts_one (pt_cmpR (op_eqDK K hr.units) (pe_ix (ix_tupK K) (pv 11) pe_int (fun _ _ => rfl)) (pv 6) (nomark _)))) (fun _ _ _ _ _ => pe_int)) pa_nil))) (nomark _)) (pw_or1 (pt_cmpR op_ne (pe_lenSetD hr T.b_len T.b_set (pe_lc (own := [("_law_row", 9)]) (by rfl) sc_l_first_plan.nd (pi_listK K (pv 8)) (blkOk_by (by kernel_rfl)) (fun _ _ _ _ _ => (pg_name (i := 9) sc_l_first_plan.nd rfl (Or.inl rfl))) (fun _ _ _ _ _ => pts_nil) (fun _ _ _ _ _ => (pe_slice (sl_tupK K) (pv 9) (po_some pe_int) (po_some pe_int))))) (pe_callB (call_lenK K) (by rfl) T.b_len PySem.boot_len (pa_cons (pv 8) pa_nil)) (nomark _))))) (pss_one (ps_ret pe_bl)) pss_nil)
  (pss_one (ps_for PassesOwn.never (by rfl) (pi_listK K (pv 8)) (pg_name (i := 9) sc_l_first_plan.nd rfl (Or.inr rfl)) (pss_cons (ps_setLc (i := 10) (own := [("_law_goal", 12), ("_law_word", 13)]) (by rfl) sc_l_first_plan.nd rfl rfl (sw_true rfl rfl rfl (by decide +kernel)) (pi_listK K (pe_dget (hu_of hr) (pv 5) (pe_tup (pa_cons (pv 7) (pa_cons (pe_ix (ix_tupK K) (pv 9) pe_int (fun _ _ => rfl)) pa_nil))) (fun _ _ => rfl))) (blkOk_by (by kernel_rfl)) (fun _ _ _ _ _ => (pg_tupK K (n := 2) (by rfl) (pgs_cons (pg_name (i := 12) sc_l_first_plan.nd rfl (Or.inl rfl)) (pgs_cons (pg_name (i := 13) sc_l_first_plan.nd rfl (Or.inl rfl)) pgs_nil)))) (fun _ _ _ _ _ => (pts_one (pt_cmpR op_eq (pv 12) (pe_ix (ix_tupK K) (pv 9) pe_int (fun _ _ => rfl)) (nomark _)))) (fun _ _ _ _ _ => (pv 13)))
  (pss_one (ps_if (PW.pt (pw_or (pt_cmpR (op_notInDK K (room65 hr)) (pe_tup (pa_cons (pv 6) (pa_cons (pe_ix (ix_tupK K) (pv 9) pe_int (fun _ _ => rfl)) (pa_cons (pe_ix (ix_tupK K) (pv 9) pe_int (fun _ _ => rfl)) pa_nil)))) (pv 2) (by rfl)) (pw_or (pt_cmpR (op_eqDK K hr.units) (pv 10) (pe_lst pa_nil) (nomark _)) (pw_or (pt_cmp (pc_dnotin (hu_of hr) (pe_slice (sl_tupK K) (pv 9) (po_some pe_int) (po_some pe_int)) (pv 4)) rfl) (pw_or1 (pt_cmpR op_gt (pe_op op_add (pe_dget (hu_of hr) (pv 4) (pe_slice (sl_tupK K) (pv 9) (po_some pe_int) (po_some pe_int)) (fun _ _ => rfl)) (pe_callTy call_int1Q (by rfl) T.b_int bt_int (pa_cons (pe_cmpR op_eq (pe_ix (ix_listK K) (pv 10) pe_int (fun _ _ => rfl)) pe_str (nomark _)) pa_nil))) (pe_dget (hu_of hr) (pv 4) (pe_tup (pa_cons (pv 6) (pa_cons (pv 7) pa_nil))) (fun _ _ => rfl)) (nomark _))))))) (pss_one (ps_ret pe_bl)) pss_nil)))))))))
  (pss_one (ps_ret pe_bl)))), ?_⟩
    have a0 : At A0 G H G H _ [some (dat (specD a)), some (dat (eNs b.ow)), some (dat (.list (b.ms.map eBm))), some (dat (.list (R.map eRw0))), some (isV (.ref l)), none, none, none, none, none, none, none, none, none] := At.begin (vs := [v1, v2, v3, v4, v5]) (N := N_l_first_plan) (EnvOk.nil.skip.skip.skip.skip.skip.skip.skip.skip.skip.cons p5 |>.cons p4 |>.cons p3 |>.cons p2 |>.cons p1) sG trivial
    refine q_asg (φ := dicS (stF a)) a0 (xe_call (xa_cons (xe_var rfl) xa_nil) fun vs H Q h => ⟨a, q.sp, h⟩) fun v6 G1 H1 st1 _ a1 => ?_
    have w1 := wl.step0 st1
    have low : ∀ m ∈ b.ms, 97 ≤ m.2.1 ∧ m.2.1 ≤ 122 := fun m hm => (q.bo.ok.ok m hm).c
    have hsm := q.sm
    have hbm := q.bo.m
    refine q_forKeys (l := l) (kvs := kvs) (i := 4) (a := 6) (b := 7) a1 w1 rfl (fun j k v e => ?_)
      (fun od j G' H' σ' => At A0 G1 (upd H1 l (.frz od (.dT kvs))) G' H' σ' [some (dat (specD a)), some (dat (eNs b.ow)), some (dat (.list (b.ms.map eBm))), some (dat (.list (R.map eRw0))), some (isV (.ref l)), some (dicS (stF a)), none, none, none, none, none, none, none, none]) (fun od j G2 H2 σ2 h => h.stp) (fun od h => h) ?_ ?_
    · obtain ⟨x, _, e, _⟩ := hiF_key ((df.mono st1.g).mem e)
      exact ⟨_, _, e⟩
    · rintro od j x y v G2 H2 σ2 hj h2 hl2
      have d2 : DF G2 kvs (hiF HL) := df.mono (st1.g.trans h2.stp.g)
      have w2 : Own G2 H2 l (.frz od (.dT kvs)) := Own.step0 ⟨upd_same, w1.g⟩ h2.stp
      obtain ⟨h, hh, ek, _⟩ := hiF_key (d2.mem hj)
      have ek : [x, y] = [.inl (h.1 : Int), .inl (h.2.1 : Int)] := ek
      simp only [List.cons.injEq, and_true] at ek
      obtain ⟨rfl, rfl⟩ := ek
      have A := q.ask h hh
      have a3 : At A0 G1 (upd H1 l (.frz od (.dT kvs))) G2 H2 _ [some (dat (specD a)), some (dat (eNs b.ow)), some (dat (.list (b.ms.map eBm))), some (dat (.list (R.map eRw0))), some (isV (.ref l)), some (dicS (stF a)), some (dat (.int (h.1 : Int))), some (dat (.int (h.2.1 : Int))), none, none, none, none, none, none] := h2.re ((h2.env.set 6 (φ := dat (.int (h.1 : Int))) (.int _)).set 7 (φ := dat (.int (h.2.1 : Int))) (.int _))
      refine q_asg (φ := dat (.list ((mine R (hkey h)).map eRw0))) a3 (xe_lc (l := R) (ψ := fun x => dat (eRw0 x)) (F := fun x => decide (x.1 = hkey h)) (E := eRw0) (js := [9]) (xi_listT (xe_var rfl)) (by omega) (fun j hj => hj) fun x hx => ⟨xg_name (List.mem_singleton.mpr rfl), XT.to (xt_test (xe_op (r0_02 rfl) (xe_tup2 (xe_var rfl) (xe_var rfl)) (xr_eqD (nice_nn.shaped (by decide) (a := x.1) trivial) (nice_nn.shaped (by decide) (a := hkey h) trivial)))) (nice_nn.eqv x.1 (hkey h) trivial trivial), fun _ => xe_var rfl⟩) fun v4 G4 H4 st4 _ a4 => ?_
      have hml : (mine R (hkey h)).length ≤ 3 := A.three
      refine q_no a4 (XT.to (xt_or (a := false) (b := false) (xt_test (XE.to (d' := .bool false) (xe_op (xe_cb (xa_cons (xe_var rfl) xa_nil) xc_lenL) (xe_if (φ := dat (.int ((if own b h.1 = 0 then 1 else (bmvs b.ms h.1).length : Nat) : Int))) (b := decide (own b h.1 = 0)) (XT.to (xt_test (xe_op (xe_op (xe_var rfl) (xe_var rfl) (xr_ixLn (eNs_get (own_get A.n)))) xe_int xr_eqI)) dec_int) (fun e => XE.to xe_int (by rw [if_pos (of_decide_eq_true e)]; rfl))
        (fun e => XE.to (xe_cb (xa_cons (xe_lc (l := b.ms) (ψ := fun m => dat (eBm m)) (F := fun m => decide (m.1 = h.1)) (E := fun _ => .int 1) (js := [11]) (xi_listT (xe_var rfl)) (by omega) (fun j hj => hj) fun m hm => ⟨xg_name (List.mem_singleton.mpr rfl), XT.to (xt_test (xe_op (xe_op (xe_var rfl) (xe_int (i := ((0 : Nat) : Int))) (xr_ixTn (n := 0) (ds := [.int (m.1 : Int), .str (sg m.2.1), .int (m.2.2 : Int)]) rfl)) (xe_var rfl) (xr_eqD rfl rfl))) (eqv_int m.1 h.1), fun _ => xe_int⟩) xa_nil) xc_lenL) (by rw [if_neg (of_decide_eq_false e), List.length_map]; unfold bmvs; rw [List.length_map]))) xr_neI)
        (by rw [List.length_map, A.len, decide_eq_true rfl]; rfl))) fun _ => xt_test (XE.to (d' := .bool false) (xe_op (xe_lenSet (ks := (mine R (hkey h)).map fun x => [.inr (sg x.2.1), .inl (x.2.2.1 : Int)]) (XE.to (xe_lcAll (l := mine R (hkey h)) (ψ := fun x => dat (eRw0 x)) (E := fun x => tD [.inr (sg x.2.1), .inl (x.2.2.1 : Int)]) (js := [9]) (xi_listT (xe_var rfl)) (by omega) (fun j hj => hj) fun x hx => ⟨xg_name (List.mem_singleton.mpr rfl), r0_24 rfl⟩) (by rw [List.map_map]; rfl)) (by rw [List.length_map]; exact hml) ?_) (xe_cb (xa_cons (xe_var rfl) xa_nil) xc_lenL) xr_neI) (by rw [List.length_map, List.length_map, decide_eq_true rfl]; rfl))) rfl) fun G5 H5 st5 a5 => ?_
      · have := A.nd
        unfold List.Nodup at this ⊢
        rw [List.pairwise_map] at this ⊢
        refine this.imp fun ne e => ne ?_
        simp only [List.cons.injEq, Sum.inr.injEq, Sum.inl.injEq, sg_inj, and_true] at e
        exact Prod.ext e.1 (by have := e.2; show _ = _; omega)
      refine s_for (l := mine R (hkey h)) a5 (xi_listT (xe_var rfl))
        (fun i G' H' σ' => At A0 G1 (upd H1 l (.frz od (.dT kvs))) G' H' σ' [some (dat (specD a)), some (dat (eNs b.ow)), some (dat (.list (b.ms.map eBm))), some (dat (.list (R.map eRw0))), some (isV (.ref l)), some (dicS (stF a)), some (dat (.int (h.1 : Int))), some (dat (.int (h.2.1 : Int))), none, none, none, none, none, none]) (fun i G' H' σ' h => h.s) (fun G6 H6 st6 => (a5.step0 st6).sub (by repeat' constructor)) ?_ ?_
      · rintro i x G6 H6 σ6 hx a6 v7 G7 H7 st7 p7
        obtain ⟨hc, hms, w0, r, hf, hr0, hle⟩ := A.at_ x (List.mem_of_getElem? hx)
        have a7 := (a6.step0 st7).re ((a6.step0 st7).env.set 9 p7)
        have hdom : inDom a.n a.cs h.2.1 x.2.1 = true := by
          unfold inDom
          rw [decide_eq_true A.s, decide_eq_true hc]
          rfl
        refine q_asg (φ := dat (.list [.str (wS w0)])) a7 (XE.to (xe_lc (l := mvs a.trs h.2.1 x.2.1) (ψ := fun m => dat (eMv m)) (F := fun m => decide (m.1 = x.2.2.2)) (E := fun m => .str (wS m.2)) (js := [12, 13]) (xi_listT (e := eMv) (xe_dget (k := kSC h.2.1 x.2.1) (d := stG a.trs h.2.1 x.2.1) (xe_var rfl) (xe_tup2 (xe_var rfl) (r0_ix (k := 2) rfl rfl)) (by unfold stF; rw [mapG_at, if_pos hdom]))) (by
            have h1 := q.sp.ok.sm
            unfold mvs
            rw [List.length_map]
            exact Nat.le_trans (List.length_filter_le _ _) (by omega)) (fun j hj => hj) fun m hm => ⟨xg_tup2 (by simp) (by simp), XT.to (xt_test (xe_op (xe_var rfl) (r0_ix (k := 4) rfl rfl) xr_eqI)) dec_int, fun _ => xe_var rfl⟩) (by rw [hf]; rfl)) fun v8 G8 H8 st8 _ a8 => ?_
        have w8 : Own G8 H8 l (.frz od (.dT kvs)) := Own.step0 ⟨upd_same, w1.g⟩ a8.stp
        have d8 : DF G8 kvs (hiF HL) := df.mono (st1.g.trans a8.stp.g)
        have hl : PyData.canLay0 (.str (wS w0)) = true := wS_lay w0
        have look : hiF HL (kNN x.2.2.1 x.2.2.2) = some (.int (r : Int)) := hiF_at q.nd hr0
        have look2 : hiF HL (kNN h.1 h.2.1) = some (.int (h.2.2 : Int)) := hiF_at q.nd hh
        refine s_noD (i := 4) (.inr ⟨od, rfl⟩) a8 w8 rfl d8 (XT.to (xt_or (a := false) (b := false) (xt_test (XE.to (d' := .bool false) (xe_op (xe_tup3 (xe_var rfl) (r0_ix (k := 2) rfl rfl) (r0_ix (k := 3) rfl rfl)) (xe_var rfl) (xr_notInD (nice_bm.shaped (by decide) (a := (h.1, x.2.1, x.2.2.1)) (low _ hms)) (nice_bm.list.shaped (by decide) low)))
          (by rw [bm_in (m := (h.1, x.2.1, x.2.2.1)) hms low]; rfl))) fun _ => xt_or (a := false) (b := false) (xt_test (XE.to (d' := .bool false) (xe_op (xe_var rfl) xe_lst0 (xr_eqD (nice_str.list.shaped (by decide) (a := [wS w0]) fun z hz => by rw [List.mem_singleton.mp hz]; exact hl) rfl)) rfl))
          fun _ => xt_or (a := false) (b := false) (xt_B (XE.to (d' := .bool false) (xe_dnin (k := kNN x.2.2.1 x.2.2.2) (r0_35 rfl) (xe_var rfl)) (by rw [look]; rfl)))
          fun _ => xt_test (XE.to (d' := .bool false) (xe_op (xe_op (xe_dget (k := kNN x.2.2.1 x.2.2.2) (xe_var rfl) (r0_35 rfl) look) (xe_cb (xa_cons (xe_op (xe_op (xe_var rfl) (xe_int (i := ((0 : Nat) : Int))) (xr_ixLn (n := 0) rfl)) xe_str xr_eqS) xa_nil) xc_intB) xr_add) (xe_dget (k := kNN h.1 h.2.1) (xe_var rfl) (xe_tup2 (xe_var rfl) (xe_var rfl)) look2) xr_gt)
            (by cases w0 with
              | true =>
                have e : decide (wS true = "slip") = true := decide_eq_true rfl
                rw [e, decide_eq_false]
                have : r + 1 ≤ h.2.2 := hle
                show ¬ ((h.2.2 : Int) < (r : Int) + 1)
                omega
              | false =>
                have e : decide (wS false = "slip") = false := decide_eq_false (by decide +kernel)
                rw [e, decide_eq_false]
                have : r + 0 ≤ h.2.2 := hle
                show ¬ ((h.2.2 : Int) < (r : Int) + 0)
                omega))) rfl) fun H9 st9 a9 => ?_
        exact ⟨G8, st7.g.trans st8.g, a9.re (a9.env.sub (by repeat' constructor))⟩
      · rintro G6 H6 σ6 a6
        exact ⟨G6, a6.re (a6.env.sub (by repeat' constructor))⟩
    · rintro od G2 H2 σ2 h2 st2 w2
      exact k _ _ _ (st1.trans st2) (.bl true)
end
end Ls
/-! F26 -/
set_option maxHeartbeats 1000000
namespace Ls
open PySem PySem.Spec PyProof.Rows L2
section
variable {A : Amb} {ρ : Env} {K : PySem.W.Frag} {i : Nat} {te : TE}
theorem r1_02 {x : Rw1} (h : ρ[i]? = some (some (dat (eRw1 x)))) : XE A (tSl (rSlT K) (tVar i) tNoPart (tPart (tC (.int 2)))) ρ (dat (tD (kNN x.1.1 x.1.2))) := sl_02 (p := x.1) (ds := [.str (sg x.2.1), .int (x.2.2 : Int)]) h (by simp)
theorem r1_2 {x : Rw1} (h : ρ[i]? = some (some (dat (eRw1 x)))) : XE A (tSl (rSlT K) (tVar i) (tPart (tC (.int 2))) tNoPart) ρ (dat (eLt x.2)) :=
  XE.to (xe_slT (ds := dsR1 x) (xe_var h) (xo_some xe_int) xo_none (by show ¬ (HT.sIx 4 0 (some 2) = 0 ∧ HT.sIx 4 4 none = 4); decide)) rfl
theorem bm_1 {m : Bm} (h : ρ[i]? = some (some (dat (eBm m)))) : XE A (tSl (rSlT K) (tVar i) (tPart (tC (.int 1))) tNoPart) ρ (dat (eLt m.2)) :=
  XE.to (xe_slT (ds := [.int (m.1 : Int), .str (sg m.2.1), .int (m.2.2 : Int)]) (xe_var h) (xo_some xe_int) xo_none (by show ¬ (HT.sIx 3 0 (some 1) = 0 ∧ HT.sIx 3 3 none = 3); decide)) rfl
theorem bm_0 {m : Bm} (h : ρ[i]? = some (some (dat (eBm m)))) : XE A (tOp (rIxT K) (tVar i) (tC (.int 0))) ρ (dat (.int (m.1 : Int))) := xe_op (xe_var h) (xe_int (i := ((0 : Nat) : Int))) (xr_ixTn (n := 0) (ds := [.int (m.1 : Int), .str (sg m.2.1), .int (m.2.2 : Int)]) rfl)
end
section
variable {P : Program} {w : World} {K : PySem.W.Frag} {mg : Str → Option Value} {base : Heap}
/-! ### _law_second_plan -/
structure SArgs (b : Brd) (a : Aut) (R : List Rw1) (HL : List Hi) : Prop where
  sp : SpecOk a
  bo : BoardOk a.cs b
  sm : R.length ≤ 6000
  nd : (HL.map hkey).Nodup
  ask : ∀ h ∈ HL, SAsk b a R HL h
def sp_l_second_plan : Sp := fun vs H Q E => ∃ (b : Brd) (a : Aut) (R : List Rw1) (HL : List Hi) (l : Addr) (kvs : List (TKey × V)) (G : Hp), SArgs b a R HL ∧ Same G H ∧ Own G H l (.dT kvs) ∧ DF G kvs (hiF HL) ∧
  Ps G vs [dat (specD a), dat (eNs b.ow), dat (.list (b.ms.map eBm)), dat (.list (R.map eRw1)), isV (.ref l)] ∧ ∀ v G2 H2, Stp A0 G H G2 H2 → Rp G2 v (.bool true) → Q v H2
abbrev N_l_second_plan : List Str := ["_law_spec_here", "_law_owners", "_law_moves", "_law_rows_here", "_law_high", "_law_steps_here", "_law_node", "_law_state", "_law_mine", "_law_letter", "_law_late", "_law_goal", "_law_word", "_law_row", "_law_move"]
theorem sc_l_second_plan : FnScope ["_law_spec_here", "_law_owners", "_law_moves", "_law_rows_here", "_law_high", "_law_steps_here", "_law_node", "_law_state", "_law_mine", "_law_letter", "_law_late", "_law_goal", "_law_word", "_law_row", "_law_move"] ["_law_spec_here", "_law_owners", "_law_moves", "_law_rows_here", "_law_high"] (defScope s_l_second_plan) := ⟨rfl, rfl, rfl, by decide +kernel, rfl, by decide +kernel, by decide +kernel⟩
theorem ok_l_second_plan {f : Addr} {fd : FuncData} (F : FnP K "_law_second_plan" "_law_second_plan" s_l_second_plan [] [] f fd) (T : Fx K mg) (F_l_steps : Fn P w K mg base "_law_steps" 1 ["_law_spec_here"] [] sp_l_steps) : FnOk P w K mg base CX0 2 f fd ["_law_spec_here", "_law_owners", "_law_moves", "_law_rows_here", "_law_high"] sp_l_second_plan := by
  refine F.ok sc_l_second_plan (fun vs H Q E h => ?_) (fun cdv A outer st H vs Q E hr h => ?_)
  · obtain ⟨_, _, _, _, _, _, _, _, _, _, _, h, _⟩ := h
    exact h.length
  · obtain ⟨b, a, R, HL, l, kvs, G, q, sG, wl, df, ps, k⟩ := h
    obtain ⟨v1, v2, v3, v4, v5, rfl, p1, p2, p3, p4, p5⟩ := ps_five ps
    refine ⟨_, PSs.nox (pss_cons (ps_set (i := 5) sc_l_second_plan.nd rfl (Or.inl rfl) (pe_fn F_l_steps (hr.mono (by decide)) rfl (pa_cons (pv 0) pa_nil)))
  (pss_cons (ps_lock (ps_for PassesOwn.never (by rfl) (pi_keys (pv 4)) (pg_tupK K (n := 2) (by rfl) (pgs_cons (pg_name (i := 6) sc_l_second_plan.nd rfl (Or.inr rfl)) (pgs_cons (pg_name (i := 7) sc_l_second_plan.nd rfl (Or.inr rfl)) pgs_nil))) (pss_cons (ps_setLc (i := 8) (own := [("_law_row", 13)]) (by rfl) sc_l_second_plan.nd rfl rfl (sw_true rfl rfl rfl (by decide +kernel)) (pi_listK K (pv 3)) (blkOk_by (by kernel_rfl)) (fun _ _ _ _ _ => (pg_name (i := 13) sc_l_second_plan.nd rfl (Or.inl rfl))) (fun _ _ _ _ _ => (pts_one (pt_cmpR (op_eqDK K hr.units) (pe_slice (sl_tupK K) (pv 13) po_none (po_some pe_int)) (pe_tup (pa_cons (pv 6) (pa_cons (pv 7) pa_nil))) (nomark _)))) (fun _ _ _ _ _ => (pv 13)))
  (pss_cons (ps_if (PW.pt (pw_or (pt_cmpR op_ne (pe_callB (call_lenK K) (by rfl) T.b_len PySem.boot_len (pa_cons (pv 8) pa_nil)) (pe_ix (ix_listK K) (pv 1) (pv 6) (fun _ _ => rfl)) (nomark _)) (pw_or1 (pt_cmpR (op_neDK K hr.units) (pe_lc (own := [("_law_row", 13)]) (by rfl) sc_l_second_plan.nd (pi_listK K (pv 8)) (blkOk_by (by kernel_rfl)) (fun _ _ _ _ _ => (pg_name (i := 13) sc_l_second_plan.nd rfl (Or.inl rfl))) (fun _ _ _ _ _ => (pts_one (pt_cmpR (op_notInDK K (room65 hr)) (pe_op (op_catTK K) (pe_tup (pa_cons (pv 6) pa_nil)) (pe_slice (sl_tupK K) (pv 13) (po_some pe_int) po_none)) (pv 2) (by rfl)))) (fun _ _ _ _ _ => (pv 13))) (pe_lst pa_nil) (nomark _))))) (pss_one (ps_ret pe_bl)) pss_nil)
  (pss_one (ps_for PassesOwn.never (by rfl) (pi_listK K (pe_op op_cat (pe_lc (own := [("_law_row", 13)]) (by rfl) sc_l_second_plan.nd (pi_listK K (pv 8)) (blkOk_by (by kernel_rfl)) (fun _ _ _ _ _ => (pg_name (i := 13) sc_l_second_plan.nd rfl (Or.inl rfl))) (fun _ _ _ _ _ => pts_nil) (fun _ _ _ _ _ => (pe_slice (sl_tupK K) (pv 13) (po_some pe_int) po_none))) (pe_ifExp (pt_cmpR op_eq (pe_ix (ix_listK K) (pv 1) (pv 6) (fun _ _ => rfl)) pe_int (nomark _)) (pe_lc (own := [("_law_move", 14)]) (by rfl) sc_l_second_plan.nd (pi_listK K (pv 2)) (blkOk_by (by kernel_rfl)) (fun _ _ _ _ _ => (pg_name (i := 14) sc_l_second_plan.nd rfl (Or.inl rfl))) (fun _ _ _ _ _ => (pts_one (pt_cmpR (op_eqDK K hr.units) (pe_ix (ix_tupK K) (pv 14) pe_int (fun _ _ => rfl)) (pv 6) (nomark _)))) (fun _ _ _ _ _ => (pe_slice (sl_tupK K) (pv 14) (po_some pe_int) po_none))) (pe_lst pa_nil)))) (pg_tupK K (n := 2) (by rfl) (pgs_cons (pg_name (i := 9) sc_l_second_plan.nd rfl (Or.inl rfl)) (pgs_cons (pg_name (i := 10) sc_l_second_plan.nd rfl (Or.inl rfl)) pgs_nil))) (pss_one (ps_for PassesOwn.never (by rfl) (pi_listK K (pe_dget (hu_of hr) (pv 5) (pe_tup (pa_cons (pv 7) (pa_cons (pv 9) pa_nil))) (fun _ _ => rfl))) (pg_tupK K (n := 2) (by rfl) (pgs_cons (pg_name (i := 11) sc_l_second_plan.nd rfl (Or.inl rfl)) (pgs_cons (pg_name (i := 12) sc_l_second_plan.nd rfl (Or.inl rfl)) pgs_nil))) (pss_one (ps_if (PW.pt (pw_or (pt_cmp (pc_dnotin (hu_of hr) (pe_tup (pa_cons (pv 10) (pa_cons (pv 11) pa_nil))) (pv 4)) rfl) (pw_or1 (PW.pt (pw_and (pt_cmpR op_eq (pv 12) pe_str (nomark _)) (pw_and1 (pt_cmpR op_ge (pe_dget (hu_of hr) (pv 4) (pe_tup (pa_cons (pv 10) (pa_cons (pv 11) pa_nil))) (fun _ _ => rfl)) (pe_dget (hu_of hr) (pv 4) (pe_tup (pa_cons (pv 6) (pa_cons (pv 7) pa_nil))) (fun _ _ => rfl)) (nomark _)))))))) (pss_one (ps_ret pe_bl)) pss_nil))))))))))
  (pss_one (ps_ret pe_bl)))), ?_⟩
    have a0 : At A0 G H G H _ [some (dat (specD a)), some (dat (eNs b.ow)), some (dat (.list (b.ms.map eBm))), some (dat (.list (R.map eRw1))), some (isV (.ref l)), none, none, none, none, none, none, none, none, none, none] := At.begin (vs := [v1, v2, v3, v4, v5]) (N := N_l_second_plan) (EnvOk.nil.skip.skip.skip.skip.skip.skip.skip.skip.skip.skip.cons p5 |>.cons p4 |>.cons p3 |>.cons p2 |>.cons p1) sG trivial
    refine q_asg (φ := dicS (stF a)) a0 (xe_call (xa_cons (xe_var rfl) xa_nil) fun vs H Q h => ⟨a, q.sp, h⟩) fun v6 G1 H1 st1 _ a1 => ?_
    have w1 := wl.step0 st1
    have low : ∀ m ∈ b.ms, 97 ≤ m.2.1 ∧ m.2.1 ≤ 122 := fun m hm => (q.bo.ok.ok m hm).c
    have hsm := q.sm
    have hbm := q.bo.m
    refine q_forKeys (l := l) (kvs := kvs) (i := 4) (a := 6) (b := 7) a1 w1 rfl (fun j k v e => ?_)
      (fun od j G' H' σ' => At A0 G1 (upd H1 l (.frz od (.dT kvs))) G' H' σ' [some (dat (specD a)), some (dat (eNs b.ow)), some (dat (.list (b.ms.map eBm))), some (dat (.list (R.map eRw1))), some (isV (.ref l)), some (dicS (stF a)), none, none, none, none, none, none, none, none, none]) (fun od j G2 H2 σ2 h => h.stp) (fun od h => h) ?_ ?_
    · obtain ⟨x, _, e, _⟩ := hiF_key ((df.mono st1.g).mem e)
      exact ⟨_, _, e⟩
    · rintro od j x y v G2 H2 σ2 hj h2 hl2
      have d2 : DF G2 kvs (hiF HL) := df.mono (st1.g.trans h2.stp.g)
      obtain ⟨h, hh, ek, _⟩ := hiF_key (d2.mem hj)
      have ek : [x, y] = [.inl (h.1 : Int), .inl (h.2.1 : Int)] := ek
      simp only [List.cons.injEq, and_true] at ek
      obtain ⟨rfl, rfl⟩ := ek
      have A := q.ask h hh
      have a3 : At A0 G1 (upd H1 l (.frz od (.dT kvs))) G2 H2 _ [some (dat (specD a)), some (dat (eNs b.ow)), some (dat (.list (b.ms.map eBm))), some (dat (.list (R.map eRw1))), some (isV (.ref l)), some (dicS (stF a)), some (dat (.int (h.1 : Int))), some (dat (.int (h.2.1 : Int))), none, none, none, none, none, none, none] := h2.re ((h2.env.set 6 (φ := dat (.int (h.1 : Int))) (.int _)).set 7 (φ := dat (.int (h.2.1 : Int))) (.int _))
      have hml : (mine R (hkey h)).length ≤ 6000 := Nat.le_trans (List.length_filter_le _ _) hsm
      have hbl : (if own b h.1 = 0 then bmvs b.ms h.1 else []).length ≤ 3 := by
        split
        · exact q.bo.th _
        · exact Nat.zero_le _
      refine q_asg (φ := dat (.list ((mine R (hkey h)).map eRw1))) a3 (xe_lc (l := R) (ψ := fun x => dat (eRw1 x)) (F := fun x => decide (x.1 = hkey h)) (E := eRw1) (js := [13]) (xi_listT (xe_var rfl)) (by omega) (fun j hj => hj) fun x hx => ⟨xg_name (List.mem_singleton.mpr rfl), XT.to (xt_test (xe_op (r1_02 rfl) (xe_tup2 (xe_var rfl) (xe_var rfl)) (xr_eqD (nice_nn.shaped (by decide) (a := x.1) trivial) (nice_nn.shaped (by decide) (a := hkey h) trivial)))) (nice_nn.eqv x.1 (hkey h) trivial trivial), fun _ => xe_var rfl⟩) fun v4 G4 H4 st4 _ a4 => ?_
      refine q_no a4 (XT.to (xt_or (a := false) (b := false) (xt_test (XE.to (d' := .bool false) (xe_op (xe_cb (xa_cons (xe_var rfl) xa_nil) xc_lenL) (xe_op (xe_var rfl) (xe_var rfl) (xr_ixLn (eNs_get (own_get A.n)))) xr_neI) (by rw [List.length_map, A.len, decide_eq_true rfl]; rfl)))
        fun _ => xt_test (XE.to (d' := .bool false) (xe_op (XE.to (d' := .list []) (xe_lc (l := mine R (hkey h)) (ψ := fun x => dat (eRw1 x)) (F := fun _ => false) (E := eRw1) (js := [13]) (xi_listT (xe_var rfl)) (by omega) (fun j hj => hj) fun x hx => ⟨xg_name (List.mem_singleton.mpr rfl), xt_test (XE.to (d' := .bool false) (xe_op (XE.to (d' := eBm (h.1, x.2.1, x.2.2)) (xe_op (xe_tup1 (xe_var rfl)) (r1_2 rfl) (xr_catT (by simp) (by simp) (by show 1 + 2 ≤ 100000; decide))) rfl) (xe_var rfl) (xr_notInD (nice_bm.shaped (by decide) (a := (h.1, x.2.1, x.2.2)) (low _ (A.mv x hx))) (nice_bm.list.shaped (by decide) low))) (by have := bm_in (m := (h.1, x.2.1, x.2.2)) (A.mv x hx) low; unfold eBm; unfold eBm at this; rw [this]; rfl)), fun e => by cases e⟩) (by rw [filter_none fun _ _ => rfl]; rfl)) xe_lst0 (xr_neD rfl rfl)) rfl)) rfl) fun G5 H5 st5 a5 => ?_
      refine s_for (l := (mine R (hkey h)).map (·.2) ++ (if own b h.1 = 0 then bmvs b.ms h.1 else [])) a5 (xi_listT (e := eLt) (XE.to (xe_op (xe_lcAll (l := mine R (hkey h)) (ψ := fun x => dat (eRw1 x)) (E := fun x => eLt x.2) (js := [13]) (xi_listT (xe_var rfl)) (by omega) (fun j hj => hj) fun x hx => ⟨xg_name (List.mem_singleton.mpr rfl), r1_2 rfl⟩)
        (xe_if (φ := dat (.list ((if own b h.1 = 0 then bmvs b.ms h.1 else []).map eLt))) (b := decide (own b h.1 = 0)) (XT.to (xt_test (xe_op (xe_op (xe_var rfl) (xe_var rfl) (xr_ixLn (eNs_get (own_get A.n)))) xe_int xr_eqI)) dec_int)
          (fun e => XE.to (xe_lc (l := b.ms) (ψ := fun m => dat (eBm m)) (F := fun m => decide (m.1 = h.1)) (E := fun m => eLt m.2) (js := [14]) (xi_listT (xe_var rfl)) (by omega) (fun j hj => hj) fun m hm => ⟨xg_name (List.mem_singleton.mpr rfl), XT.to (xt_test (xe_op (bm_0 rfl) (xe_var rfl) (xr_eqD rfl rfl))) (eqv_int m.1 h.1), fun _ => bm_1 rfl⟩) (by rw [if_pos (of_decide_eq_true e)]; unfold bmvs; rw [List.map_map]; rfl))
          (fun e => XE.to xe_lst0 (by rw [if_neg (of_decide_eq_false e)]; rfl)))
        (xr_cat (by rw [List.length_map, List.length_map]; omega))) (by rw [List.map_append, List.map_map]; rfl)))
        (fun i G' H' σ' => At A0 G1 (upd H1 l (.frz od (.dT kvs))) G' H' σ' [some (dat (specD a)), some (dat (eNs b.ow)), some (dat (.list (b.ms.map eBm))), some (dat (.list (R.map eRw1))), some (isV (.ref l)), some (dicS (stF a)), some (dat (.int (h.1 : Int))), some (dat (.int (h.2.1 : Int))), none, none, none, none, none, none, none]) (fun i G' H' σ' h => h.s) (fun G6 H6 st6 => (a5.step0 st6).sub (by repeat' constructor)) ?_ ?_
      · rintro i m G6 H6 σ6 hx a6 v7 G7 H7 st7 p7
        obtain ⟨hc, hall⟩ := A.at_ m (List.mem_of_getElem? hx)
        have hdom : inDom a.n a.cs h.2.1 m.1 = true := by
          unfold inDom
          rw [decide_eq_true A.s, decide_eq_true hc]
          rfl
        refine xg_tup2 (js := [9, 10]) (by simp) (by simp) G7 H7 _ v7 _ (a6.step0 st7).env (a6.step0 st7).s p7 fun σ8 E8 _ => ?_
        have a8 := (a6.step0 st7).re E8
        refine s_for (l := mvs a.trs h.2.1 m.1) a8 (xi_listT (e := eMv) (xe_dget (k := kSC h.2.1 m.1) (d := stG a.trs h.2.1 m.1) (xe_var rfl) (xe_tup2 (xe_var rfl) (xe_var rfl)) (by unfold stF; rw [mapG_at, if_pos hdom])))
          (fun i G' H' σ' => Same G6 G' ∧ At A0 G1 (upd H1 l (.frz od (.dT kvs))) G' H' σ' [some (dat (specD a)), some (dat (eNs b.ow)), some (dat (.list (b.ms.map eBm))), some (dat (.list (R.map eRw1))), some (isV (.ref l)), some (dicS (stF a)), some (dat (.int (h.1 : Int))), some (dat (.int (h.2.1 : Int))), none, none, some (dat (.int (m.2 : Int))), none, none, none, none]) (fun i G' H' σ' h => h.2.s) (fun G9 H9 st9 => ⟨st7.g.trans st9.g, (a8.step0 st9).sub (by repeat' constructor)⟩) ?_ ?_
        · rintro i2 tw G9 H9 σ9 hx2 ⟨s9, a9⟩ v10 G10 H10 st10 p10
          obtain ⟨r, hr0, hlt⟩ := hall tw (List.mem_of_getElem? hx2)
          refine xg_tup2 (js := [11, 12]) (by simp) (by simp) G10 H10 _ v10 _ (a9.step0 st10).env (a9.step0 st10).s p10 fun σ11 E11 _ => ?_
          have a11 := (a9.step0 st10).re E11
          have w11 : Own G10 H10 l (.frz od (.dT kvs)) := Own.step0 ⟨upd_same, w1.g⟩ a11.stp
          have d11 : DF G10 kvs (hiF HL) := df.mono (st1.g.trans a11.stp.g)
          have look : hiF HL (kNN m.2 tw.1) = some (.int (r : Int)) := hiF_at q.nd hr0
          have look2 : hiF HL (kNN h.1 h.2.1) = some (.int (h.2.2 : Int)) := hiF_at q.nd hh
          refine s_noD (i := 4) (.inr ⟨od, rfl⟩) a11 w11 rfl d11 (XT.to (xt_or (a := false) (b := false) (xt_B (XE.to (d' := .bool false) (xe_dnin (k := kNN m.2 tw.1) (xe_tup2 (xe_var rfl) (xe_var rfl)) (xe_var rfl)) (by rw [look]; rfl)))
            fun _ => XT.to (xt_and (b := false) (xt_test (xe_op (xe_var rfl) xe_str xr_eqS)) fun e => xt_test (XE.to (d' := .bool false) (xe_op (xe_dget (k := kNN m.2 tw.1) (xe_var rfl) (xe_tup2 (xe_var rfl) (xe_var rfl)) look) (xe_dget (k := kNN h.1 h.2.1) (xe_var rfl) (xe_tup2 (xe_var rfl) (xe_var rfl)) look2) xr_ge) ?_)) (Bool.and_false _)) rfl) fun H12 st12 a12 => ?_
          · have e2 : tw.2 = false := by
              cases z : tw.2 with
              | false => rfl
              | true =>
                rw [z] at e
                have : decide (wS true = "safe") = false := by decide +kernel
                rw [this] at e
                cases e
            have := hlt e2
            rw [decide_eq_false (by omega)]
          · exact ⟨G10, st10.g, s9.trans st10.g, a12.sub (by repeat' constructor)⟩
        · rintro G9 H9 σ9 ⟨s9, a9⟩
          exact ⟨G9, s9, a9.sub (by repeat' constructor)⟩
      · rintro G6 H6 σ6 a6
        exact ⟨G6, a6.re (a6.env.sub (by repeat' constructor))⟩
    · rintro od G2 H2 σ2 h2 st2 w2
      exact k _ _ _ (st1.trans st2) (.bl true)
end
end Ls
/-! Pn -/
set_option maxHeartbeats 1000000
/-! Lists of ours as values; Plan's methods over them; what the law's own def needs. -/
namespace Ls
open PySem PySem.Spec PyProof.Rows L2
section
variable {X : Cx} {pos : Pos} (K : PySem.W.Frag)
theorem pg_unlK {es : List Expr} {k : Nat} {t : TGs} {n : Nat} (hc : X.calm = true) (h : PGs X es t) (hK : X.K = K := by rfl)
    (hn : (assignEach es X.env).length = n := by rfl) (hst : (assignEach es X.env).findIdx? (·.1) = none := by rfl) : PG X (.Tuple es k pos) (gUnl K n t) := by
  subst hK
  exact pg_unl hc h hn hst
end
section
variable {A : Amb} {ρ : Env} {te ta tb tc to : TE} {tt tu : TT} {φ ψ χ : SP} {K : PySem.W.Frag} {G0 H0 G H : Hp} {σ : L2.St} {D : Ends} {t u tz tw : TS} {r : R2} {ds es : List PyData} {l : Addr} {xs ys : List V}
theorem xg_unl {gs : TGs} {js : List Nat} {ρ2 : Env} {n : Nat} (h : XGs gs (ds.map dat) js ρ ρ2) (hn : ds.length = n) : XG (gUnl K n gs) (dat (.list ds)) js ρ ρ2 := fun G H σ v Q E s p k => by
  obtain ⟨a, xs, rfl, ha, r⟩ := Rp.list_inv p
  exact ⟨a, xs, rfl, SqL.of (s _ _ ha), by rw [r.length, hn], h G H σ xs Q E s (ps_of_rp r) k⟩
theorem xg_unl2 {i j : Nat} {d e : PyData} {js : List Nat} (hi : i ∈ js) (hj : j ∈ js) : XG (gUnl K 2 (gCons (gName i) (gCons (gName j) gNil))) (dat (.list [d, e])) js ρ ((ρ.set i (some (dat d))).set j (some (dat e))) :=
  xg_unl (ds := [d, e]) (xgs_cons (xg_name hi) (xgs_cons (xg_name hj) xgs_nil)) rfl
/-! ### a new list of ours -/
def OwnQ (G H : Hp) (ds : List PyData) (Q : VK) : Prop := ∀ l xs G2 H2, Stp A0 G H G2 H2 → H l = none → Own G2 H2 l (.lst xs) → RpAll G2 xs ds → Q (.ref l) H2
theorem own_seal {Q : VK} (k : ∀ v G2 H2, Stp A0 G H G2 H2 → Rp G2 v (.list ds) → Q v H2) : OwnQ G H ds Q := fun l xs G2 H2 t hl w r => by
  obtain ⟨t2, s2⟩ := stp_seal t hl w
  exact k _ _ _ t2 (.lst upd_same (r.mono s2))
theorem copy_own (E : EnvOk G σ ρ) (s : Same G H) (h : XE A0 te ρ (dat (.list ds))) {Q : VK} (k : OwnQ G H ds Q) : tCB (rListQ K) (tCons te tNil) σ H Q := by
  unfold tCB
  refine (xa_cons h xa_nil) G H σ _ E s trivial fun vs G2 H2 t j2 p => ?_
  obtain ⟨v, rfl, p2⟩ := ps_one p
  obtain ⟨b, xs, rfl, hb, r⟩ := Rp.list_inv p2
  refine ⟨b, xs, rfl, .inl (SqL.of (t.s _ _ hb)), fun l hl => ?_⟩
  exact k l xs G2 _ (t.trans (Stp.only t.s (same_new hl))) (t.k _ hl) ⟨upd_same, t.s.free hl⟩ r
theorem lst_own {ta : TA} (E : EnvOk G σ ρ) (s : Same G H) (h : XA A0 ta ρ (ds.map dat)) (hl : ds.length ≤ 1000) {Q : VK} (k : OwnQ G H ds Q) : tLst ta σ H Q :=
  h G H σ _ E s trivial fun vs G2 H2 t j2 p => ⟨by rw [(ps_dats p).length]; exact Nat.le_trans hl (by decide), fun q hq => k q vs G2 _ (t.trans (Stp.only t.s (same_new hq))) (t.k _ hq) ⟨upd_same, t.s.free hq⟩ (ps_dats p)⟩
/-- list(x), x a list of ours -/
theorem copy_var {i : Nat} (a : At A0 G0 H0 G H σ ρ) (w : Own G H l (.lst xs)) (r : RpAll G xs ds) (hi : ρ[i]? = some (some (isV (.ref l)))) {Q : VK} (k : ∀ v G2 H2, Stp A0 G H G2 H2 → Rp G2 v (.list ds) → Q v H2) : tCB (rListQ K) (tCons (tVar i) tNil) σ H Q :=
  ⟨_, a.own hi, l, xs, rfl, .inl (SqL.of w.h), fun p hp => k _ _ _ (Stp.new a.s hp) (.lst upd_same (r.mono (same_new (a.s.free hp))))⟩
/-- x.append(None), x a new list that nobody else knows -/
theorem q_appN (a : At A0 G0 H0 G H σ ρ) (hv : ∀ {Q : VK}, OwnQ G H ds Q → to σ H Q) (hz : ds.length ≤ 100000) (k : ∀ G2 H2, At A0 G0 H0 G2 H2 σ ρ → Stp A0 G H G2 H2 → tz D σ H2) : tSeq (tDrop (tBM K "list" rAppend to (tCons (tC .non) tNil))) tz D σ H := by
  refine hv fun l xs G2 H2 t hl w r => ?_
  refine ⟨.inl ⟨rfl, xs, SqL.of w.h⟩, ?_⟩
  have t2 : Stp A0 G H G2 (upd H2 l (.lst (xs ++ [.non]))) := stp_own t.same t.g t.s t.n hl w.g
  exact ⟨l, xs, .non, rfl, rfl, w.h, by rw [r.length]; exact Nat.lt_of_le_of_lt hz (by decide), k G2 _ (a.step0 t2) t2⟩
/-- .. a list of ours, found by an expression -/
theorem q_appX (a : At A0 G0 H0 G H σ ρ) (w : Own G H l (.lst xs)) (f : H0 l = none) (hz : xs.length ≤ 100000) (ho : XE A0 to ρ (isV (.ref l))) (k : ∀ G2 H2 H3, Stp A0 G H G2 H2 → H3 = upd H2 l (.lst (xs ++ [.non])) → At A0 G0 H0 G2 H3 σ ρ → tz D σ H3) : tSeq (tDrop (tBM K "list" rAppend to (tCons (tC .non) tNil))) tz D σ H := by
  unfold tSeq tDrop tBM
  refine a.e ho fun v G2 H2 t a2 p => ?_
  have e : v = .ref l := p
  subst e
  have w2 := w.step0 t
  refine ⟨.inl ⟨rfl, xs, SqL.of w2.h⟩, ?_⟩
  obtain ⟨a3, w3⟩ := a2.mut (o' := .lst (xs ++ [.non])) w2 f nb0
  exact ⟨l, xs, .non, rfl, rfl, w2.h, Nat.lt_of_le_of_lt hz (by decide), k G2 H2 _ t rfl a3⟩
/-- a list of these very values -/
def lstV (cs : List V) : SP := ⟨fun G v => ∃ a, v = .ref a ∧ G a = some (.lst cs), fun s ⟨a, e, h⟩ => ⟨a, e, s _ _ h⟩⟩
theorem xr_ixLV {cs : List V} {n : Nat} {c : V} (h : cs[n]? = some c) : XR A (rIxL K) (lstV cs) (dat (.int (n : Int))) (isV c) := fun G H x y Q s j hx hy k => by
  obtain ⟨a, rfl, ha⟩ := hx
  exact ⟨a, cs, (n : Int), c, rfl, hy.int_inv, SqL.of (s _ _ ha), atI_nat h, k c G H (Stp.refl s) j rfl⟩
theorem lst_in {ta : TA} {Q : VK} (h : ta σ H (fun vs H1 => vs.length ≤ sizeLine ∧ ∀ p, H1 p = none → Q (.ref p) (upd H1 p (.lst vs)))) : tLst ta σ H Q := h
theorem cons_in {tr : TA} {Q : List V → Hp → Prop} (h : te σ H (fun v H1 => tr σ H1 fun vs H2 => Q (v :: vs) H2)) : tCons te tr σ H Q := h
/-- x = [[..], [..]] : two lists of ours -/
theorem q_twoLists {ta tb : TA} {i : Nat} (a : At A0 G0 H0 G H σ ρ) (h0 : XA A0 ta ρ (ds.map dat)) (h1 : XA A0 tb ρ (es.map dat)) (hl0 : ds.length ≤ 1000) (hl1 : es.length ≤ 1000)
    (k : ∀ l m xs ys v G2 H2, Stp A0 G H G2 H2 → H l = none → H m = none → l ≠ m → Own G2 H2 l (.lst xs) → Own G2 H2 m (.lst ys) → RpAll G2 xs ds → RpAll G2 ys es → At A0 G0 H0 G2 H2 (σ.set i (some v)) (ρ.set i (some (lstV [.ref l, .ref m]))) → tz D (σ.set i (some v)) H2) :
    tSeq (tAsg (tLst (tCons (tLst ta) (tCons (tLst tb) tNil))) (gName i)) tz D σ H := by
  unfold tSeq tAsg
  refine lst_in (cons_in ?_)
  refine lst_own (ρ := ρ) a.env a.s h0 hl0 fun l xs G1 H1 t1 fl w0 r0 => ?_
  refine cons_in ?_
  refine lst_own (ρ := ρ) (a.env.mono t1.g) t1.s h1 hl1 fun m ys G2 H2 t2 fm w1 r1 => ?_
  refine ⟨by show 2 ≤ sizeLine; decide, fun p hp => ?_⟩
  have w0' := w0.step0 t2
  have t3 := Stp.new (o := .lst [.ref l, .ref m]) t2.s hp
  have ne : l ≠ m := fun e => by
    subst e
    rw [w0.h] at fm
    cases fm
  have a3 := ((a.step0 t1).step0 t2).step0 t3
  exact k l m xs ys _ _ _ ((t1.trans t2).trans t3) fl (t1.k _ fm) ne (w0'.step0 t3) (w1.step0 t3) (r0.mono (t2.g.trans t3.g)) (r1.mono t3.g) (a3.re (a3.env.set i (φ := lstV [.ref l, .ref m]) ⟨p, rfl, upd_same⟩))
/-- x, y, d = e, f, {} by a tuple: the dict is ours -/
theorem q_trip {i j m : Nat} (a : At A0 G0 H0 G H σ ρ) (h1 : XE A0 ta ρ φ) (h2 : XE A0 tb ρ ψ)
    (k : ∀ l v w G2 H2, Stp A0 G H G2 H2 → H0 l = none → Own G2 H2 l (.dT []) → At A0 G0 H0 G2 H2 (((σ.set i (some v)).set j (some w)).set m (some (.ref l))) (((ρ.set i (some φ)).set j (some ψ)).set m (some (isV (.ref l)))) → tz D (((σ.set i (some v)).set j (some w)).set m (some (.ref l))) H2) :
    tSeq (tAsg (tTup (tCons ta (tCons tb (tCons tDNewT tNil)))) (gTup K 3 (gCons (gName i) (gCons (gName j) (gCons (gName m) gNil))))) tz D σ H := by
  refine h1 G H σ _ a.env a.s trivial fun v1 G1 H1 t1 _ p1 => ?_
  refine h2 G1 H1 σ _ (a.env.mono t1.g) t1.s trivial fun v2 G2 H2 t2 _ p2 => ?_
  intro l hl
  refine ⟨by show 3 ≤ sizeLine; decide, fun p hp => ?_⟩
  have a2 := (a.step0 t1).step0 t2
  obtain ⟨a3, w3, f3⟩ := a2.fresh (o := .dT []) hl
  have t3 : Stp A0 G2 H2 G2 (upd H2 l (.dT [])) := Stp.only t2.s (same_new hl)
  have t4 := Stp.new (o := .tup [v1, v2, .ref l]) a3.s hp
  have a4 := a3.step0 t4
  refine ⟨p, [v1, v2, .ref l], rfl, SqT.of upd_same, rfl, _, _, rfl, _, _, rfl, _, _, rfl, rfl, ?_⟩
  exact k l v1 v2 _ _ (((t1.trans t2).trans t3).trans t4) f3 (w3.step0 t4) (a4.re (((a4.env.set i (φ.mono (t2.g.trans t4.g) p1)).set j (ψ.mono t4.g p2)).set m (φ := isV (.ref l)) rfl))
/-- an if that is not taken, its test by hand -/
theorem q_noX (a : At A0 G0 H0 G H σ ρ) (h : ∀ Q : Bool → Hp → Prop, (∀ G2 H2, Stp A0 G H G2 H2 → Q false H2) → tt σ H Q) (k : ∀ G2 H2, Stp A0 G H G2 H2 → At A0 G0 H0 G2 H2 σ ρ → tz D σ H2) : tSeq (tIfS tt t tNext) tz D σ H :=
  h _ fun G2 H2 st => by
    rw [if_neg Bool.false_ne_true]
    exact k G2 H2 st (a.step0 st)
/-- self.f = e, however e is found -/
theorem q_fldV {C x dx : Addr} {ns : List Str} {us : List V} {i : Nat} {f : Str} (a : At A0 G0 H0 G H σ ρ) (m : Mkg G H C x dx ns us) (fr : H0 x = none) (hi : ρ[i]? = some (some (isV (.ref x)))) (c : Cls K C) (n : NoAttr K C f) (hf : ns.contains f = false) (hl : ns.length < 100) (hv : ∀ {Q : VK}, (∀ v G2 H2, Stp A0 G H G2 H2 → φ.p G2 v → Q v H2) → te σ H Q)
    (k : ∀ v G2 H2 H3, Stp A0 G H G2 H2 → φ.p G2 v → H3 = upd H2 x (.ins C dx ((ns ++ [f]).zip (us ++ [v]))) → At A0 G0 H0 G2 H3 σ ρ → Mkg G2 H3 C x dx (ns ++ [f]) (us ++ [v]) → D.nx σ H3) : sFld K (tVar i) te f D σ H :=
  hv fun v G2 H2 t p => by
    have a2 := a.step0 t
    have m2 := m.step t
    refine ⟨_, a2.own hi, x, C, dx, _, rfl, m2.o.h, c, n, Nat.lt_of_le_of_lt zip_le (by omega), ?_⟩
    rw [putF_zip m2.l hf]
    obtain ⟨a3, w3⟩ := a2.mut (o' := .ins C dx ((ns ++ [f]).zip (us ++ [v]))) m2.o fr nb0
    exact k v G2 H2 _ t p rfl a3 ⟨w3, m2.d.mut m2.ne, by simp [m2.l]⟩
end
section
variable {P : Program} {w : World} {K : PySem.W.Frag} {mg : Str → Option Value} {base : Heap}
/-! ### Plan over lists of ours -/
def sp_p_rowsN (K : PySem.W.Frag) : Sp := fun vs H Q E => ∃ (pl : Int) (rows ranks : List PyData) (G : Hp), Same G H ∧ Ps G vs [planS K pl rows ranks] ∧ OwnQ G H rows Q
theorem ok_p_rowsN {f : Addr} {fd : FuncData} (F : FnP K "rows" "Plan.rows" s_p_rows [] [] f fd) (T : Fx K mg) : FnOk P w K mg base CX0 1 f fd ["self"] (sp_p_rowsN K) := by
  refine F.ok sc_p_rows (fun vs H Q E h => ?_) (fun cdv A outer st H vs Q E hr h => ?_)
  · obtain ⟨_, _, _, _, _, h, _⟩ := h
    exact h.length
  · obtain ⟨pl, rows, ranks, G, sG, ps, k⟩ := h
    obtain ⟨v1, rfl, p1⟩ := ps_one ps
    refine ⟨_, PSs.nox (pss_one (ps_ret (pe_callTy (call_listK K) (by rfl) T.b_list bt_list (pa_cons (pe_fldK K (pv 0) rfl) pa_nil)))), ?_⟩
    have a : At A0 G H G H _ [some (planS K pl rows ranks)] := At.begin (vs := [v1]) (N := ["self"]) (EnvOk.nil.cons p1) sG trivial
    exact copy_own a.env a.s (xe_fld (i := 1) (xe_var rfl) T.c_Plan T.n_p2 (by decide +kernel) rfl) k
def sp_p_ranksN (K : PySem.W.Frag) : Sp := fun vs H Q E => ∃ (pl : Int) (rows ranks : List PyData) (G : Hp), Same G H ∧ Ps G vs [planS K pl rows ranks] ∧ OwnQ G H ranks Q
theorem ok_p_ranksN {f : Addr} {fd : FuncData} (F : FnP K "ranks" "Plan.ranks" s_p_ranks [] [] f fd) (T : Fx K mg) : FnOk P w K mg base CX0 1 f fd ["self"] (sp_p_ranksN K) := by
  refine F.ok sc_p_ranks (fun vs H Q E h => ?_) (fun cdv A outer st H vs Q E hr h => ?_)
  · obtain ⟨_, _, _, _, _, h, _⟩ := h
    exact h.length
  · obtain ⟨pl, rows, ranks, G, sG, ps, k⟩ := h
    obtain ⟨v1, rfl, p1⟩ := ps_one ps
    refine ⟨_, PSs.nox (pss_one (ps_ret (pe_callTy (call_listK K) (by rfl) T.b_list bt_list (pa_cons (pe_fldK K (pv 0) rfl) pa_nil)))), ?_⟩
    have a : At A0 G H G H _ [some (planS K pl rows ranks)] := At.begin (vs := [v1]) (N := ["self"]) (EnvOk.nil.cons p1) sG trivial
    exact copy_own a.env a.s (xe_fld (i := 2) (xe_var rfl) T.c_Plan T.n_p3 (by decide +kernel) rfl) k
def sp_p_initN (K : PySem.W.Frag) : Sp := fun vs H Q E => ∃ (pl : Int) (rows ranks : List PyData) (l m : Addr) (xs ys : List V) (G H1 : Hp) (x dx : Addr), H1 x = none ∧ H1 dx = none ∧ dx ≠ x ∧ H = upd (upd H1 dx (.own x)) x (.ins (He.ga K "Plan") dx []) ∧ vs = [.ref x, .int pl, .ref l, .ref m] ∧
  Same G H1 ∧ Own G H1 l (.lst xs) ∧ Own G H1 m (.lst ys) ∧ RpAll G xs rows ∧ RpAll G ys ranks ∧ ∀ G2 H2, Stp A0 G H1 G2 H2 → (planS K pl rows ranks).p G2 (.ref x) → Q .non H2
theorem ok_p_initN {f : Addr} {fd : FuncData} (F : FnP K "__init__" "Plan.__init__" s_p_init [] [] f fd) (T : Fx K mg) : FnOk P w K mg base CX0 1 f fd ["self", "player", "rows", "ranks"] (sp_p_initN K) := by
  refine F.ok sc_p_init (fun vs H Q E h => ?_) (fun cdv A outer st H vs Q E hr h => ?_)
  · obtain ⟨_, _, _, _, _, _, _, _, _, _, _, _, _, _, _, h, _⟩ := h
    rw [h]
    rfl
  · obtain ⟨pl, rows, ranks, l, m, xs, ys, G, Hb, x, dx, hx, hdx, hne, rfl, rfl, sG, wl, wm, r0, r1, k⟩ := h
    refine ⟨_, PSs.nox (pss_cons (ps_fld (pv 0) (pv 1) rfl)
  (pss_cons (ps_fld (pv 0) (pe_callTy (call_listK K) (by rfl) T.b_list bt_list (pa_cons (pv 2) pa_nil)) rfl)
  (pss_one (ps_fld (pv 0) (pe_callTy (call_listK K) (by rfl) T.b_list bt_list (pa_cons (pv 3) pa_nil)) rfl)))), ?_⟩
    obtain ⟨a, mk⟩ := init_begin (C := He.ga K "Plan") (vs := [.ref x, .int pl, .ref l, .ref m]) (N := N_p_init) (ρ := [some (isV (.ref x)), some (dat (.int pl)), some (isV (.ref l)), some (isV (.ref m))]) sG hx hdx hne ((((EnvOk.nil.cons (φ := isV (.ref m)) rfl).cons (φ := isV (.ref l)) rfl).cons (φ := dat (.int pl)) (Rp.int pl)).cons (φ := isV (.ref x)) rfl)
    have lift : ∀ {l : Addr} {xs : List V}, Own G Hb l (.lst xs) → Own G (upd (upd Hb dx (.own x)) x (.ins (He.ga K "Plan") dx [])) l (.lst xs) := fun w => ⟨by rw [upd_ne (ne_of_none w.h hx), upd_ne (ne_of_none w.h hdx)]; exact w.h, w.g⟩
    refine q_fld a mk hx rfl T.c_Plan T.n_p1 (by decide +kernel) (by decide) (xe_var (φ := dat (.int pl)) rfl) fun u1 G1 H1 H1' st1 q1 e1 a1 m1 => ?_
    have wl1 : Own G1 H1' l (.lst xs) := by
      rw [e1]
      exact ((lift wl).step0 st1).mut (Own.apart ((lift wl).step0 st1) (mk.step st1).o (by intro z; cases z))
    have wm1 : Own G1 H1' m (.lst ys) := by
      rw [e1]
      exact ((lift wm).step0 st1).mut (Own.apart ((lift wm).step0 st1) (mk.step st1).o (by intro z; cases z))
    refine q_fldV (D := { nx := _, rt := _ }) (φ := dat (.list rows)) a1 m1 hx rfl T.c_Plan T.n_p2 (by decide +kernel) (by decide) (fun {Q} kk => copy_var a1 wl1 (r0.mono st1.g) rfl kk) fun u2 G2 H2 H2' st2 q2 e2 a2 m2 => ?_
    have wm2 : Own G2 H2' m (.lst ys) := by
      rw [e2]
      exact (wm1.step0 st2).mut (Own.apart (wm1.step0 st2) (m1.step st2).o (by intro z; cases z))
    refine q_fldV (φ := dat (.list ranks)) a2 m2 hx rfl T.c_Plan T.n_p3 (by decide +kernel) (by decide) (fun {Q} kk => copy_var a2 wm2 (r1.mono (st1.g.trans st2.g)) rfl kk) fun u3 G3 H3 H3' st3 q3 e3 a3 m3 => ?_
    obtain ⟨G4, st4, p4⟩ := m3.done (φs := [dat (.int pl), dat (.list rows), dat (.list ranks)]) a3 hx hdx (.cons (q1.mono (st2.g.trans st3.g)) (.cons (q2.mono st3.g) (.cons q3 .nil)))
    exact k G4 _ st4 p4
end
end Ls
/-! Ry -/
set_option maxHeartbeats 1000000
/-! What plan told, as the law uses it, whoever wins. -/
namespace Ls
open PySem PySem.Spec PyProof.Rows L2
theorem shaped_list {ds : List PyData} (h : ∀ d ∈ ds, d.canLay0 = true ∧ d.depth ≤ 1) : SeqAt.shaped (.list ds) = true := by
  have h1 : ∀ l : List PyData, (∀ d ∈ l, d.canLay0 = true ∧ d.depth ≤ 1) → PyData.canLayAll0 l = true ∧ PyData.depthAll l ≤ 1 := fun l => by
    induction l with
    | nil => exact fun _ => ⟨rfl, Nat.zero_le _⟩
    | cons d r ih =>
      intro h
      obtain ⟨i1, i2⟩ := ih fun y hy => h y (List.mem_cons_of_mem _ hy)
      obtain ⟨d1, d2⟩ := h d List.mem_cons_self
      refine ⟨?_, Nat.max_le.mpr ⟨d2, i2⟩⟩
      show (PyData.canLay0 d && PyData.canLayAll0 r) = true
      rw [d1, i1]
      rfl
  obtain ⟨a1, a2⟩ := h1 ds h
  unfold SeqAt.shaped
  have a3 : PyData.canLay0 (.list ds) = true := a1
  rw [a3, Bool.true_and]
  exact decide_eq_true (show PyData.depthAll ds + 1 ≤ 64 by omega)
theorem flat_tuple {ds : List PyData} (h : ∀ d ∈ ds, d.canLay0 = true ∧ d.depth = 0) : (PyData.tuple ds).canLay0 = true ∧ (PyData.tuple ds).depth ≤ 1 := by
  have h1 : ∀ l : List PyData, (∀ d ∈ l, d.canLay0 = true ∧ d.depth = 0) → PyData.canLayAll0 l = true ∧ PyData.depthAll l ≤ 0 := fun l => by
    induction l with
    | nil => exact fun _ => ⟨rfl, Nat.zero_le _⟩
    | cons d r ih =>
      intro h
      obtain ⟨i1, i2⟩ := ih fun y hy => h y (List.mem_cons_of_mem _ hy)
      obtain ⟨d1, d2⟩ := h d List.mem_cons_self
      refine ⟨?_, Nat.max_le.mpr ⟨Nat.le_of_eq d2, i2⟩⟩
      show (PyData.canLay0 d && PyData.canLayAll0 r) = true
      rw [d1, i1]
      rfl
  obtain ⟨a1, a2⟩ := h1 ds h
  exact ⟨a1, show PyData.depthAll ds + 1 ≤ 1 by omega⟩
theorem like_int (n : Nat) (i : Int) : LikeD (n + 1) (.int i) := .inl ⟨i, rfl⟩
theorem like_str (n : Nat) {z : Str} (h : PyData.canLay0 (.str z) = true) : LikeD (n + 1) (.str z) := .inr (.inl ⟨z, h, rfl⟩)
theorem like_tup {n : Nat} {ds : List PyData} (hl : ds.length ≤ 100000) (h : ∀ x ∈ ds, LikeD n x) : LikeD (n + 1) (.tuple ds) := .inr (.inr ⟨ds, hl, .inr rfl, h⟩)
theorem like_lst {n : Nat} {ds : List PyData} (hl : ds.length ≤ 100000) (h : ∀ x ∈ ds, LikeD n x) : LikeD (n + 1) (.list ds) := .inr (.inr ⟨ds, hl, .inl rfl, h⟩)
structure Ready (b : Brd) (a : Aut) (st : Nat) (pl : Int) (rows ranks : List PyData) (HL : List Hi) : Prop where
  told : Told b a st rows ranks HL
  sh : SeqAt.shaped (.list rows) = true
  shk : SeqAt.shaped (.list ranks) = true
  srt : PySem.W.AllAlike rows ∧ PySem.W.Sortable rows ∧ ∀ d ∈ rows, d.depth ≤ 60
  srk : PySem.W.AllAlike ranks ∧ PySem.W.Sortable ranks ∧ ∀ d ∈ ranks, d.depth ≤ 60
  len : rows.length ≤ 6000
  key : ∀ d ∈ rows, ∃ (p : Nat × Nat) (ds : List PyData), d = .tuple (.int (p.1 : Int) :: .int (p.2 : Int) :: ds) ∧ ds.length ≠ 0 ∧ (hiF HL (kNN p.1 p.2)).isSome = true
  like : LikeD 3 (.list rows)
  likek : LikeD 3 (.list ranks)
  cas : (pl = 0 ∧ ∃ R : List Rw0, rows = R.map eRw0 ∧ FArgs b a R HL) ∨ (pl = 1 ∧ ∃ R : List Rw1, rows = R.map eRw1 ∧ SArgs b a R HL)
theorem hiF_in {HL : List Hi} {h : Hi} {p : Nat × Nat} (hh : h ∈ HL) (e : hkey h = p) : (hiF HL (kNN p.1 p.2)).isSome = true := by
  cases q : hiF HL (kNN p.1 p.2) with
  | some d => rfl
  | none =>
    unfold hiF at q
    have q2 := List.find?_eq_none.mp (Option.map_eq_none_iff.mp q) h hh
    subst e
    exact absurd (decide_eq_true rfl) q2
theorem hi_parts (h : Hi) : (eHi h).canLay0 = true ∧ (eHi h).depth ≤ 1 := flat_tuple fun d hd => by
  simp only [List.mem_cons, List.not_mem_nil, or_false] at hd
  rcases hd with rfl | rfl | rfl <;> exact ⟨rfl, rfl⟩
theorem rw0_parts {x : Rw0} (h : 97 ≤ x.2.1 ∧ x.2.1 ≤ 122) : (eRw0 x).canLay0 = true ∧ (eRw0 x).depth ≤ 1 := flat_tuple fun d hd => by
  simp only [List.mem_cons, List.not_mem_nil, or_false] at hd
  rcases hd with rfl | rfl | rfl | rfl | rfl
  · exact ⟨rfl, rfl⟩
  · exact ⟨rfl, rfl⟩
  · exact ⟨let_sign h, rfl⟩
  · exact ⟨rfl, rfl⟩
  · exact ⟨rfl, rfl⟩
theorem rw1_parts {x : Rw1} (h : 97 ≤ x.2.1 ∧ x.2.1 ≤ 122) : (eRw1 x).canLay0 = true ∧ (eRw1 x).depth ≤ 1 := flat_tuple fun d hd => by
  simp only [List.mem_cons, List.not_mem_nil, or_false] at hd
  rcases hd with rfl | rfl | rfl | rfl
  · exact ⟨rfl, rfl⟩
  · exact ⟨rfl, rfl⟩
  · exact ⟨let_sign h, rfl⟩
  · exact ⟨rfl, rfl⟩
theorem hi_like (h : Hi) : LikeD 2 (eHi h) := like_tup (by show 3 ≤ 100000; decide) fun d hd => by
  simp only [List.mem_cons, List.not_mem_nil, or_false] at hd
  rcases hd with rfl | rfl | rfl <;> exact like_int _ _
theorem rw0_like {x : Rw0} (h : 97 ≤ x.2.1 ∧ x.2.1 ≤ 122) : LikeD 2 (eRw0 x) := like_tup (by show 5 ≤ 100000; decide) fun d hd => by
  simp only [List.mem_cons, List.not_mem_nil, or_false] at hd
  rcases hd with rfl | rfl | rfl | rfl | rfl
  · exact like_int _ _
  · exact like_int _ _
  · exact like_str _ (let_sign h)
  · exact like_int _ _
  · exact like_int _ _
theorem rw1_like {x : Rw1} (h : 97 ≤ x.2.1 ∧ x.2.1 ≤ 122) : LikeD 2 (eRw1 x) := like_tup (by show 4 ≤ 100000; decide) fun d hd => by
  simp only [List.mem_cons, List.not_mem_nil, or_false] at hd
  rcases hd with rfl | rfl | rfl | rfl
  · exact like_int _ _
  · exact like_int _ _
  · exact like_str _ (let_sign h)
  · exact like_int _ _
theorem ready_of {b : Brd} {a : Aut} {st : Nat} {x : Int × List PyData × List PyData} (C : Cond b a st) (sp : SpecOk a) (bo : BoardOk a.cs b) (h : PlanR b a st x) : ∃ HL, Ready b a st x.1 x.2.1 x.2.2 HL := by
  rcases h.res with ⟨e, hA⟩ | ⟨e, hB⟩
  · obtain ⟨R, HL, e1, T, len, low, key, ask⟩ := first_asks C bo h.pos h.clo hA
    refine ⟨HL, T, ?_, ?_, ?_, ?_, ?_, ?_, ?_, ?_, .inl ⟨e, R, e1, sp, bo, len, T.nd, ask⟩⟩
    · rw [e1]
      refine shaped_list fun d hd => ?_
      obtain ⟨x, hx, rfl⟩ := List.mem_map.mp hd
      exact rw0_parts (low x hx)
    · rw [T.rk]
      refine shaped_list fun d hd => ?_
      obtain ⟨x, hx, rfl⟩ := List.mem_map.mp hd
      exact hi_parts x
    · rw [e1]
      exact sortable_rw0 R
    · rw [T.rk]
      exact sortable_hi HL
    · rw [e1, List.length_map]
      exact len
    · rw [e1]
      intro d hd
      obtain ⟨x, hx, rfl⟩ := List.mem_map.mp hd
      obtain ⟨y, hy, e2⟩ := key x hx
      exact ⟨x.1, [.str (sg x.2.1), .int (x.2.2.1 : Int), .int (x.2.2.2 : Int)], rfl, by simp, hiF_in hy e2⟩
    · rw [e1]
      refine like_lst (by rw [List.length_map]; omega) fun d hd => ?_
      obtain ⟨x, hx, rfl⟩ := List.mem_map.mp hd
      exact rw0_like (low x hx)
    · rw [T.rk]
      refine like_lst (by rw [List.length_map]; have := T.len; omega) fun d hd => ?_
      obtain ⟨x, hx, rfl⟩ := List.mem_map.mp hd
      exact hi_like x
  · obtain ⟨R, HL, e1, T, len, low, key, ask⟩ := second_asks C bo h.pos h.clo hB
    refine ⟨HL, T, ?_, ?_, ?_, ?_, ?_, ?_, ?_, ?_, .inr ⟨e, R, e1, sp, bo, len, T.nd, ask⟩⟩
    · rw [e1]
      refine shaped_list fun d hd => ?_
      obtain ⟨x, hx, rfl⟩ := List.mem_map.mp hd
      exact rw1_parts (low x hx)
    · rw [T.rk]
      refine shaped_list fun d hd => ?_
      obtain ⟨x, hx, rfl⟩ := List.mem_map.mp hd
      exact hi_parts x
    · rw [e1]
      exact sortable_rw1 R
    · rw [T.rk]
      exact sortable_hi HL
    · rw [e1, List.length_map]
      exact len
    · rw [e1]
      intro d hd
      obtain ⟨x, hx, rfl⟩ := List.mem_map.mp hd
      obtain ⟨y, hy, e2⟩ := key x hx
      exact ⟨x.1, [.str (sg x.2.1), .int (x.2.2 : Int)], rfl, by simp, hiF_in hy e2⟩
    · rw [e1]
      refine like_lst (by rw [List.length_map]; omega) fun d hd => ?_
      obtain ⟨x, hx, rfl⟩ := List.mem_map.mp hd
      exact rw1_like (low x hx)
    · rw [T.rk]
      refine like_lst (by rw [List.length_map]; have := T.len; omega) fun d hd => ?_
      obtain ⟨x, hx, rfl⟩ := List.mem_map.mp hd
      exact hi_like x
theorem eqv_shaped {d : PyData} (h : SeqAt.shaped d = true) : PyData.eqv d d = true := SeqAt.eqv_refl d (SeqAt.canLay_of_shaped h)
end Ls
/-! Lw -/
set_option maxHeartbeats 1000000
namespace Ls
open PySem PySem.Spec PyProof.Rows L2
section
variable {A : Amb} {ρ : Env} {te ta tb tc to : TE} {tt tu : TT} {φ ψ χ : SP} {K : PySem.W.Frag} {mg : Str → Option Value} {G0 H0 G H : Hp} {σ : L2.St} {D : Ends} {t u tz tw : TS} {r : R2} {l m : Addr} {xs ys : List V} {pl : Int} {rows ranks : List PyData} {kvs : List (TKey × V)} {b : Brd} {a : Aut} {st : Nat} {HL : List Hi}
theorem XR.imp (h : XR A r φ ψ χ) {χ' : SP} (i : ∀ G v, χ.p G v → χ'.p G v) : XR A r φ ψ χ' := fun G H x y Q s j hx hy k => h G H x y Q s j hx hy fun v G2 H2 t j2 p => k v G2 H2 t j2 (i G2 v p)
/-- is a pull 0 -/
theorem xe_pull0 {bag L : Addr} {ns : List Int} {E : XK} {m i : Nat} (hi : ρ[i]? = some (some (isV (.ref bag)))) (h0 : 0 < m) (h1 : m ≤ 1000000) (h : XE (bagA bag L ns) te ρ (dat (.int (m : Int)))) : XE (bagA bag L ns) (tOp rEq (tCall sp_l_pull [] E (tCons (tVar i) (tCons te tNil))) (tC (.int 0))) ρ (ex (fun _ : Bool => True) fun g => dat (.bool g)) :=
  xe_op (xe_pull hi h0 h1 h) xe_int (xr_exl fun r _ => xr_eqI.imp fun G v p => ⟨_, trivial, p⟩)
theorem xe_rows {i : Nat} (h : ρ[i]? = some (some (planS K pl rows ranks))) : XE A0 (tMeth (He.ga K "Plan") "rows" (sp_p_rowsN K) [] E0 (tVar i) tNil) ρ (dat (.list rows)) :=
  xe_meth (xe_var h) (by decide +kernel) xa_nil fun vs H Q ⟨G, s, _, p, k⟩ => ⟨pl, rows, ranks, G, s, p, own_seal fun v G2 H2 t p2 => k v G2 H2 t trivial p2⟩
theorem xe_ranks {i : Nat} (h : ρ[i]? = some (some (planS K pl rows ranks))) : XE A0 (tMeth (He.ga K "Plan") "ranks" (sp_p_ranksN K) [] E0 (tVar i) tNil) ρ (dat (.list ranks)) :=
  xe_meth (xe_var h) (by decide +kernel) xa_nil fun vs H Q ⟨G, s, _, p, k⟩ => ⟨pl, rows, ranks, G, s, p, own_seal fun v G2 H2 t p2 => k v G2 H2 t trivial p2⟩
theorem rows_own {i : Nat} (E : EnvOk G σ ρ) (s : Same G H) (hi : ρ[i]? = some (some (planS K pl rows ranks))) {Q : VK} (k : OwnQ G H rows Q) : tMeth (He.ga K "Plan") "rows" (sp_p_rowsN K) [] E0 (tVar i) tNil σ H Q := by
  obtain ⟨v, e, p⟩ := E.at_ i _ hi
  refine ⟨v, e, ?_⟩
  obtain ⟨x, dx, us, rfl, h1, hl, ps⟩ := id p
  refine ⟨x, dx, _, rfl, s _ _ h1, look_none (by decide +kernel), ?_⟩
  exact ⟨pl, rows, ranks, G, s, .cons p .nil, k⟩
theorem ranks_own {i : Nat} (E : EnvOk G σ ρ) (s : Same G H) (hi : ρ[i]? = some (some (planS K pl rows ranks))) {Q : VK} (k : OwnQ G H ranks Q) : tMeth (He.ga K "Plan") "ranks" (sp_p_ranksN K) [] E0 (tVar i) tNil σ H Q := by
  obtain ⟨v, e, p⟩ := E.at_ i _ hi
  refine ⟨v, e, ?_⟩
  obtain ⟨x, dx, us, rfl, h1, hl, ps⟩ := id p
  refine ⟨x, dx, _, rfl, s _ _ h1, look_none (by decide +kernel), ?_⟩
  exact ⟨pl, rows, ranks, G, s, .cons p .nil, k⟩
theorem xc_plen (h : rows.length ≤ 6000) : XC A0 (rOwnM (He.ga K "Plan") (sp_p_len K) fun v => ∃ i : Int, v = .int i ∧ 0 ≤ i ∧ i < 2 ^ 60) [planS K pl rows ranks] (dat (.int (rows.length : Int))) :=
  xc_ownM (fun vs H Q h => ⟨pl, rows, ranks, h⟩) fun G v p => ⟨_, p.int_inv, by omega, by
    have : (rows.length : Int) ≤ 6000 := by omega
    exact Int.lt_of_le_of_lt this (by decide)⟩
theorem xc_prepr (hp : pl = 0 ∨ pl = 1) (h : rows.length ≤ 6000) : XC A0 (rOwnM (He.ga K "Plan") (sp_p_repr K) fun v => ∃ z : Str, v = .str z) [planS K pl rows ranks] (dat (.str (reprP pl rows.length))) :=
  xc_ownM (fun vs H Q h2 => ⟨pl, rows, ranks, hp, by omega, h2⟩) fun G v p => ⟨_, p.str_inv⟩
/-- x = Plan(n, l, m), the lists ours -/
theorem q_mkPlan {tA : TA} {i : Nat} (a : At A0 G0 H0 G H σ ρ) (h : XA A0 tA ρ [dat (.int pl), isV (.ref l), isV (.ref m)]) (wl : Own G H l (.lst xs)) (wm : Own G H m (.lst ys)) (r0 : RpAll G xs rows) (r1 : RpAll G ys ranks)
    (k : ∀ v G2 H2, Stp A0 G H G2 H2 → At A0 G0 H0 G2 H2 (σ.set i (some v)) (ρ.set i (some (planS K pl rows ranks))) → tz D (σ.set i (some v)) H2) : tSeq (tAsg (tMake (He.ga K "Plan") (sp_p_initN K) [] E0 tA) (gName i)) tz D σ H := by
  unfold tSeq tAsg tMake
  refine h G H σ _ a.env a.s trivial fun vs G1 H1 t1 _ p1 => ?_
  intro x dx hx hdx ne
  obtain ⟨v1, v2, v3, rfl, q1, q2, q3⟩ := ps_three p1
  have e1 : v1 = .int pl := Rp.int_inv q1
  have e2 : v2 = .ref l := q2
  have e3 : v3 = .ref m := q3
  subst e1 e2 e3
  exact ⟨pl, rows, ranks, l, m, xs, ys, G1, H1, x, dx, hx, hdx, ne, rfl, rfl, t1.s, wl.step0 t1, wm.step0 t1, r0.mono t1.g, r1.mono t1.g, fun G2 H2 t2 p2 => ⟨rfl, k _ G2 H2 (t1.trans t2) ((a.step0 (t1.trans t2)).re ((a.step0 (t1.trans t2)).env.set i p2))⟩⟩
abbrev tFirst (K : PySem.W.Frag) : TT := tAnd (tTest (tOp rEq (tFld K (tVar 9) "player") (tC (.int 0)))) (tNot (tB (tCall sp_l_first_plan [] E0 (tCons (tVar 3) (tCons (tVar 4) (tCons (tVar 5) (tCons (tVar 10) (tCons (tVar 12) tNil))))))))
abbrev tSecond (K : PySem.W.Frag) : TT := tAnd (tTest (tOp rNe (tFld K (tVar 9) "player") (tC (.int 0)))) (tNot (tB (tCall sp_l_second_plan [] E0 (tCons (tVar 3) (tCons (tVar 4) (tCons (tVar 5) (tCons (tVar 10) (tCons (tVar 12) tNil))))))))
theorem first_no (T : Fx K mg) (at_ : At A0 G0 H0 G H σ ρ) (w : Own G H l (.dT kvs)) (d : DF G kvs (hiF HL)) (R : Ready b a st pl rows ranks HL) (h3 : ρ[3]? = some (some (dat (specD a)))) (h4 : ρ[4]? = some (some (dat (eNs b.ow)))) (h5 : ρ[5]? = some (some (dat (.list (b.ms.map eBm))))) (h9 : ρ[9]? = some (some (planS K pl rows ranks))) (h10 : ρ[10]? = some (some (dat (.list rows)))) (h12 : ρ[12]? = some (some (isV (.ref l))))
    (Q : Bool → Hp → Prop) (k : ∀ G2 H2, Stp A0 G H G2 H2 → Q false H2) : tFirst K σ H Q := by
  refine (xt_test (A := A0) (xe_op (xe_fld (i := 0) (xe_var h9) T.c_Plan T.n_p1 (by decide +kernel) rfl) xe_int xr_eqI)) G H σ _ at_.env at_.s trivial fun G1 H1 t1 _ => ?_
  rcases R.cas with ⟨e, R0, er, FA⟩ | ⟨e, _⟩
  · subst e er
    rw [if_pos (decide_eq_true rfl)]
    unfold tNot tB tCall
    refine (xa_cons (A := A0) (xe_var h3) (xa_cons (xe_var h4) (xa_cons (xe_var h5) (xa_cons (xe_var h10) (xa_cons (xe_var h12) xa_nil))))) G1 H1 σ _ (at_.env.mono t1.g) t1.s trivial fun vs G2 H2 t2 _ p2 => ?_
    rw [List.append_nil]
    exact ⟨b, a, R0, HL, l, kvs, G2, FA, t2.s, (w.step0 t1).step0 t2, d.mono (t1.g.trans t2.g), p2, fun v G3 H3 t3 p3 => ⟨true, p3.bl_inv, k G3 H3 ((t1.trans t2).trans t3)⟩⟩
  · subst e
    rw [if_neg (by simp)]
    exact k G1 H1 t1
theorem second_no (T : Fx K mg) (at_ : At A0 G0 H0 G H σ ρ) (w : Own G H l (.dT kvs)) (d : DF G kvs (hiF HL)) (R : Ready b a st pl rows ranks HL) (h3 : ρ[3]? = some (some (dat (specD a)))) (h4 : ρ[4]? = some (some (dat (eNs b.ow)))) (h5 : ρ[5]? = some (some (dat (.list (b.ms.map eBm))))) (h9 : ρ[9]? = some (some (planS K pl rows ranks))) (h10 : ρ[10]? = some (some (dat (.list rows)))) (h12 : ρ[12]? = some (some (isV (.ref l))))
    (Q : Bool → Hp → Prop) (k : ∀ G2 H2, Stp A0 G H G2 H2 → Q false H2) : tSecond K σ H Q := by
  refine (xt_test (A := A0) (xe_op (xe_fld (i := 0) (xe_var h9) T.c_Plan T.n_p1 (by decide +kernel) rfl) xe_int xr_neI)) G H σ _ at_.env at_.s trivial fun G1 H1 t1 _ => ?_
  rcases R.cas with ⟨e, _⟩ | ⟨e, R0, er, FA⟩
  · subst e
    rw [if_neg (by simp)]
    exact k G1 H1 t1
  · subst e er
    rw [if_pos (by simp)]
    unfold tNot tB tCall
    refine (xa_cons (A := A0) (xe_var h3) (xa_cons (xe_var h4) (xa_cons (xe_var h5) (xa_cons (xe_var h10) (xa_cons (xe_var h12) xa_nil))))) G1 H1 σ _ (at_.env.mono t1.g) t1.s trivial fun vs G2 H2 t2 _ p2 => ?_
    rw [List.append_nil]
    exact ⟨b, a, R0, HL, l, kvs, G2, FA, t2.s, (w.step0 t1).step0 t2, d.mono (t1.g.trans t2.g), p2, fun v G3 H3 t3 p3 => ⟨true, p3.bl_inv, k G3 H3 ((t1.trans t2).trans t3)⟩⟩
end
end Ls
/-! F15 -/
set_option maxHeartbeats 1000000
namespace Ls
open PySem PySem.Spec PyProof.Rows L2
section
variable {P : Program} {w : World} {K : PySem.W.Frag} {mg : Str → Option Value} {base : Heap}
def sp_plan (K : PySem.W.Frag) : Sp := fun vs H Q E => ∃ (b : Brd) (a : Aut) (st : Nat), Cond b a st ∧ spA A0 [boardS K b, autS K a, dat (.int (st : Int))] (ex (PlanR b a st) fun x => planS K x.1 x.2.1 x.2.2) vs H Q E
abbrev N_plan : List Str := ["board", "automaton", "start", "player", "found", "options", "names", "rows", "ranks", "told", "at", "number", "table"]
theorem sc_plan : FnScope ["board", "automaton", "start", "player", "found", "options", "names", "rows", "ranks", "told", "at", "number", "table"] ["board", "automaton", "start"] (defScope s_plan) := ⟨rfl, rfl, rfl, by decide +kernel, rfl, by decide +kernel, by decide +kernel⟩
theorem ok_plan {f : Addr} {fd : FuncData} (F : FnP K "plan" "plan" s_plan [.int 0] [] f fd) (T : Fx K mg) (F_winner : Fn P w K mg base "winner" 5 ["board", "automaton", "start"] [] (sp_winner K)) (F_board_options : Fn P w K mg base "board_options" 4 ["board", "automaton", "start"] [] (sp_board_options K)) (F_first_ranks : Fn P w K mg base "first_ranks" 2 ["options"] [] sp_first_ranks)
    (F_reply_of : Fn P w K mg base "reply_of" 1 ["options", "ranks", "at", "challenge"] [] sp_reply_of) (F_second_table : Fn P w K mg base "second_table" 2 ["options"] [] sp_second_table) (M_b_owner : Md P w K mg base (He.ga K "Board") "owner" 3 ["self", "node"] (sp_b_owner K))
    (M_Plan : Mc P w K mg base "Plan" (He.ga K "Plan") 1 ["self", "player", "rows", "ranks"] (sp_p_init K)) : FnOk P w K mg base CX0 6 f fd ["board", "automaton", "start"] (sp_plan K) := by
  refine F.ok sc_plan (fun vs H Q E h => ?_) (fun cdv A outer st H vs Q E hr h => ?_)
  · obtain ⟨_, _, _, _, h⟩ := h
    exact spA_len h
  · obtain ⟨b, au, s0, pc, G, sG, _, ps, k⟩ := h
    obtain ⟨v1, v2, v3, rfl, p1, p2, p3⟩ := ps_three ps
    refine ⟨_, PSs.nox (pss_cons (ps_set (i := 3) sc_plan.nd rfl (Or.inl rfl) (pe_fn F_winner (hr.mono (by decide)) rfl (pa_cons (pv 0) (pa_cons (pv 1) (pa_cons (pv 2) pa_nil)))))
  (pss_cons (ps_asg (pe_fn F_board_options (hr.mono (by decide)) rfl (pa_cons (pv 0) (pa_cons (pv 1) (pa_cons (pv 2) pa_nil)))) (pg_tupK K (n := 3) (by rfl) (pgs_cons (pg_name (i := 4) sc_plan.nd rfl (Or.inl rfl)) (pgs_cons (pg_name (i := 5) sc_plan.nd rfl (Or.inl rfl)) (pgs_cons (pg_name (i := 6) sc_plan.nd rfl (Or.inl rfl)) pgs_nil)))))
  (pss_cons (ps_par (i := 7) (j := 8) (by rfl) sc_plan.nd rfl rfl (by decide) rfl rfl (pa_cons (pe_lst pa_nil) (pa_cons (pe_lst pa_nil) pa_nil)) (by rfl))
  (pss_cons (ps_if (pt_cmpR op_eq (pv 3) pe_int (nomark _)) (pss_cons (ps_set (i := 9) sc_plan.nd rfl (Or.inl rfl) (pe_fn F_first_ranks (hr.mono (by decide)) rfl (pa_cons (pv 5) pa_nil)))
  (pss_cons (ps_for PassesOwn.never (by rfl) (pi_range1 (by rfl) T.b_range (pa_cons (pe_callB (call_lenK K) (by rfl) T.b_len PySem.boot_len (pa_cons (pv 4) pa_nil)) pa_nil)) (pg_name (i := 10) sc_plan.nd rfl (Or.inl rfl)) (pss_one (ps_if (pt_cmp (pc_notN (pe_ix (ix_listK K) (pv 9) (pv 10) (fun _ _ => rfl)))) (pss_cons (ps_expr (pe_bm PySem.F.plainAttrs_list PySem.F.slot_list_append PySem.F.type_list_append mt_append (pv 8) (pa_cons (pe_op (op_catTK K) (pe_ix (ix_listK K) (pv 4) (pv 10) (fun _ _ => rfl)) (pe_tup (pa_cons (pe_ix (ix_listK K) (pv 9) (pv 10) (fun _ _ => rfl)) pa_nil))) pa_nil)))
  (pss_one (ps_for PassesOwn.never (by rfl) (pi_range1 (by rfl) T.b_range (pa_cons (pe_callB (call_lenK K) (by rfl) T.b_len PySem.boot_len (pa_cons (pe_ix (ix_listK K) (pv 5) (pv 10) (fun _ _ => rfl)) pa_nil)) pa_nil)) (pg_name (i := 11) sc_plan.nd rfl (Or.inl rfl)) (pss_one (ps_expr (pe_bm PySem.F.plainAttrs_list PySem.F.slot_list_append PySem.F.type_list_append mt_append (pv 7) (pa_cons (pe_op (op_catTK K) (pe_ix (ix_listK K) (pv 4) (pv 10) (fun _ _ => rfl)) (pe_ix (ix_listK K) (pe_ix (ix_listK K) (pe_ix (ix_listK K) (pv 6) (pv 10) (fun _ _ => rfl)) (pv 11) (fun _ _ => rfl)) (pe_fn F_reply_of (hr.mono (by decide)) rfl (pa_cons (pv 5) (pa_cons (pv 9) (pa_cons (pv 10) (pa_cons (pv 11) pa_nil))))) (fun _ _ => rfl))) pa_nil))))))) pss_nil)))
  (pss_one (ps_ret (pe_mk M_Plan (hr.mono (by decide)) rfl (pa_cons pe_int (pa_cons (pe_callB (cr_sortedDK K hr) (by rfl) T.b_sorted bt_sorted (pa_cons (pv 7) pa_nil)) (pa_cons (pe_callB (cr_sortedDK K hr) (by rfl) T.b_sorted bt_sorted (pa_cons (pv 8) pa_nil)) pa_nil)))))))) pss_nil)
  (pss_cons (ps_set (i := 12) sc_plan.nd rfl (Or.inl rfl) (pe_fn F_second_table (hr.mono (by decide)) rfl (pa_cons (pv 5) pa_nil)))
  (pss_cons (ps_for PassesOwn.never (by rfl) (pi_range1 (by rfl) T.b_range (pa_cons (pe_callB (call_lenK K) (by rfl) T.b_len PySem.boot_len (pa_cons (pv 4) pa_nil)) pa_nil)) (pg_name (i := 10) sc_plan.nd rfl (Or.inl rfl)) (pss_one (ps_if (pt_cmp (pc_notN (pe_ix (ix_listK K) (pv 12) (pv 10) (fun _ _ => rfl)))) (pss_cons (ps_expr (pe_bm PySem.F.plainAttrs_list PySem.F.slot_list_append PySem.F.type_list_append mt_append (pv 8) (pa_cons (pe_op (op_catTK K) (pe_ix (ix_listK K) (pv 4) (pv 10) (fun _ _ => rfl)) (pe_tup (pa_cons (pe_ix (ix_tupK K) (pe_ix (ix_listK K) (pv 12) (pv 10) (fun _ _ => rfl)) pe_int (fun _ _ => rfl)) pa_nil))) pa_nil)))
  (pss_one (ps_if (pt_cmpR op_eq (pe_md (pv 0) T.c_Board M_b_owner (hr.mono (by decide)) (pa_cons (pe_ix (ix_tupK K) (pe_ix (ix_listK K) (pv 4) (pv 10) (fun _ _ => rfl)) pe_int (fun _ _ => rfl)) pa_nil)) pe_int (nomark _)) (pss_one (ps_expr (pe_bm PySem.F.plainAttrs_list PySem.F.slot_list_append PySem.F.type_list_append mt_append (pv 7) (pa_cons (pe_op (op_catTK K) (pe_ix (ix_listK K) (pv 4) (pv 10) (fun _ _ => rfl)) (pe_slice (sl_tupK K) (pe_ix (ix_listK K) (pe_ix (ix_listK K) (pe_ix (ix_listK K) (pv 6) (pv 10) (fun _ _ => rfl)) (pe_ix (ix_tupK K) (pe_ix (ix_listK K) (pv 12) (pv 10) (fun _ _ => rfl)) pe_int (fun _ _ => rfl)) (fun _ _ => rfl)) pe_int (fun _ _ => rfl)) po_none (po_some pe_int))) pa_nil)))) pss_nil))) pss_nil)))
  (pss_one (ps_ret (pe_mk M_Plan (hr.mono (by decide)) rfl (pa_cons pe_int (pa_cons (pe_callB (cr_sortedDK K hr) (by rfl) T.b_sorted bt_sorted (pa_cons (pv 7) pa_nil)) (pa_cons (pe_callB (cr_sortedDK K hr) (by rfl) T.b_sorted bt_sorted (pa_cons (pv 8) pa_nil)) pa_nil)))))))))))), ?_⟩
    have a : At A0 G H G H _ [some (boardS K b), some (autS K au), some (dat (.int (s0 : Int))), none, none, none, none, none, none, none, none, none, none] := At.begin (vs := [v1, v2, v3]) (N := N_plan) (((EnvOk.nil.skip.skip.skip.skip.skip.skip.skip.skip.skip.skip.cons p3).cons p2).cons p1) sG trivial
    refine q_asg (φ := dat (.int (wnr b au s0 : Int))) a (xe_call (xa_cons (xe_var rfl) (xa_cons (xe_var rfl) (xa_cons (xe_var rfl) xa_nil))) fun vs H Q h => ⟨b, au, s0, pc, h⟩) fun v1 G1 H1 st1 _ a1 => ?_
    refine q_asgEx (P := fun F => F = bfs b au s0 ∧ PosOk b au s0 F ∧ ∀ p ∈ F, CloAt b au F p) (f := fun F => dat (.tuple [.list (F.map eQ), eG (gameOf b au F), eNm (namesOf b au F)])) (js := [4, 5, 6]) a1 (xe_call (xa_cons (xe_var rfl) (xa_cons (xe_var rfl) (xa_cons (xe_var rfl) xa_nil))) fun vs H Q h => ⟨b, au, s0, pc.bo, pc.ao, pc.sm, pc.lt, pc.le, h⟩)
      (fun F _ => xg_tup (ds := [.list (F.map eQ), eG (gameOf b au F), eNm (namesOf b au F)]) (xgs_cons (xg_name (by simp)) (xgs_cons (xg_name (by simp)) (xgs_cons (xg_name (by simp)) xgs_nil))) rfl) fun F hF σ2 G2 H2 st2 a2 => ?_
    obtain ⟨hFe, hp, hc⟩ := hF
    have gok : GOk (gB b au s0) := by
      unfold gB
      rw [← hFe]
      exact game_ok hp hc
    have gsm : GSm (gB b au s0) := by
      unfold gB
      rw [← hFe]
      exact game_sm pc.ao hp pc.sm
    have hp' : PosOk b au s0 (bfs b au s0) := hFe ▸ hp
    have hc' : ∀ p ∈ bfs b au s0, CloAt b au (bfs b au s0) p := hFe ▸ hc
    have hF100 := hp'.len pc.sm
    have glen : (gB b au s0).length = (bfs b au s0).length := by
      unfold gB gameOf
      rw [List.length_map]
    refine q_par2new a2 Fam.nil fun lr lh H3 nlr nlh st3 fam3 a3 => ?_
    have a3 : At A0 G H G2 H3 _ [some (boardS K b), some (autS K au), some (dat (.int (s0 : Int))), some (dat (.int (wnr b au s0 : Int))), some (dat (.list ((bfs b au s0).map eQ))), some (dat (eG (gB b au s0))), some (dat (eNm (namesOf b au (bfs b au s0)))), some (isV (.ref lr)), some (isV (.ref lh)), none, none, none, none] := a3.sub (by subst hFe; repeat' constructor)
    have hget : ∀ {i : Nat} {p : Nat × Nat}, (bfs b au s0)[i]? = some p → (gB b au s0)[i]? = some ((rowR b au (bfs b au s0) p).map fun ch => ch.map (·.1)) ∧ (namesOf b au (bfs b au s0))[i]? = some ((rowR b au (bfs b au s0) p).map fun ch => ch.map (·.2)) := fun h => ⟨map_get h, map_get h⟩
    have hrow : ∀ {i : Nat} {p : Nat × Nat}, (bfs b au s0)[i]? = some p → row (gB b au s0) i = (rowR b au (bfs b au s0) p).map fun ch => ch.map (·.1) := fun h => by
      unfold row
      rw [List.getD_eq_getElem?_getD, (hget h).1]
      rfl
    -- if player == 0
    refine q_if (b := decide ((wnr b au s0 : Int) = 0)) a3 (xt_test (xe_op (xe_var rfl) xe_int xr_eqI)) (fun e G4 H4 st4 a4 => ?_) (fun e G4 H4 st4 a4 => ?_)
    · have hw : WinF b au s0 := by
        apply Classical.byContradiction
        intro h
        rw [wnr_no h] at e
        exact absurd (of_decide_eq_true e) (by decide)
      refine q_asg (φ := ex (fun k => lotsF (gB b au s0) (k + 1) = lotsF (gB b au s0) k) fun k => dat (eRk (ranksF (gB b au s0) (k + 1)))) a4 (xe_call (xa_cons (xe_var rfl) xa_nil) fun vs H Q h => ⟨gB b au s0, gok, gsm, h⟩) fun v5 G5 H5 st5 _ a5 => ?_
      obtain ⟨kk, hkk, a5⟩ := a5.pick (i := 9) rfl
      have rkl : (ranksF (gB b au s0) (kk + 1)).length = (bfs b au s0).length := by rw [ranksF_len, glen]
      -- for at in range(len(found))
      refine q_for (l := List.range (bfs b au s0).length) a5 (xi_rangeT (xa_cons ((xe_cb (xa_cons (xe_var rfl) xa_nil) xc_lenL).to (by rw [List.length_map])) xa_nil) (by omega))
        (fun i G' H' σ' => At A0 G H G' H' σ' [some (boardS K b), some (autS K au), some (dat (.int (s0 : Int))), some (dat (.int (wnr b au s0 : Int))), some (dat (.list ((bfs b au s0).map eQ))), some (dat (eG (gB b au s0))), some (dat (eNm (namesOf b au (bfs b au s0)))), some (isV (.ref lr)), some (isV (.ref lh)), some (dat (eRk (ranksF (gB b au s0) (kk + 1)))), none, none, none] ∧ ∃ xr xh PL, Fam H G' H' [lr, lh] [xr, xh] ∧ PL.length = i ∧ (∀ (j : Nat) part, PL[j]? = some part → Rows0 b au (bfs b au s0) (ranksF (gB b au s0) (kk + 1)) j part) ∧ RpAll G' xr (PL.flatten.map eRw0) ∧ RpAll G' xh ((hiL (bfs b au s0) (oat (ranksF (gB b au s0) (kk + 1))) i).map eHi))
        (fun i G1 H1 σ1 h => h.1.s) (fun G6 H6 st6 => ⟨(a5.step0 st6).sub (by repeat' constructor), [], [], [], ((fam3.step st4).step st5).step st6, rfl, (fun j part h => by simp at h), .nil, .nil⟩) ?_ ?_
      · rintro i xi G6 H6 σ6 hxi ⟨a6, xr6, xh6, PL, fam6, hPL, part6, rr6, rh6⟩ v7 G7 H7 st7 p7
        obtain ⟨hi, rfl⟩ := range_get hxi
        have a7 := (a6.step0 st7).re ((a6.step0 st7).env.set 10 p7)
        have fam7 := fam6.step st7
        obtain ⟨p, hpp⟩ : ∃ p, (bfs b au s0)[xi]? = some p := ⟨(bfs b au s0)[xi], List.getElem?_eq_getElem hi⟩
        have hrk : (List.map eO (ranksF (gB b au s0) (kk + 1)))[xi]? = some (eO (oat (ranksF (gB b au s0) (kk + 1)) xi)) := eRk_get (by rw [rkl]; exact hi)
        have hxr : xr6.length ≤ 6000 := by
          rw [rr6.length, List.length_map]
          have := flat_le (k := 60) fun j x hx => (part6 j x hx).small pc.ao pc.sm (by have := (List.getElem?_eq_some_iff.mp hx).1; omega)
          rw [hPL] at this
          omega
        have hxh : xh6.length ≤ 100 := by
          rw [rh6.length, List.length_map]
          have := hiL_len (bfs b au s0) (oat (ranksF (gB b au s0) (kk + 1))) xi
          omega
        refine s_if (b := (oat (ranksF (gB b au s0) (kk + 1)) xi).isSome) a7 (xt_B (xe_notN (xe_op (xe_var rfl) (xe_var rfl) (xr_ixLn hrk)) fun G v h => by rw [none_eO h]; cases oat (ranksF (gB b au s0) (kk + 1)) xi <;> rfl)) (fun e2 G8 H8 st8 a8 => ?_) (fun e2 G8 H8 st8 a8 => ?_)
        · obtain ⟨r, hr2⟩ := Option.isSome_iff_exists.mp e2
          rw [hr2] at hrk
          have fam8 := fam7.step st8
          -- ranks.append(found[at] + (told[at],))
          refine q_appF (j := 1) (φ := dat (eHi (p.1, p.2, r))) a8 fam8 rfl rfl rfl (by omega) (fun {Q} kk2 => a8.e (xe_op (xe_op (xe_var rfl) (xe_var rfl) (xr_ixLn (map_get (f := eQ) hpp))) (xe_tup1 (d := .int (r : Int)) (xe_op (xe_var rfl) (xe_var rfl) (xr_ixLn hrk))) (xr_catT (ds := [.int (p.1 : Int), .int (p.2 : Int)]) (es := [.int (r : Int)]) (by simp) (by simp) (by simp))) fun v9 G9 H9 st9 _ p9 => kk2 v9 G9 H9 st9 p9) fun v9 G9 H9 st9 p9 a9 fam9 w9 => ?_
          have rr9 := (((rr6.mono st7.g).mono st8.g).mono st9.g)
          have rh9 : RpAll G9 (xh6 ++ [v9]) ((hiL (bfs b au s0) (oat (ranksF (gB b au s0) (kk + 1))) (xi + 1)).map eHi) := by
            rw [hiL_next, hiP_some hpp hr2, List.map_append]
            exact (((rh6.mono st7.g).mono st8.g).mono st9.g).append (.cons p9 .nil)
          -- for number in range(len(options[at]))
          have hlr : (rowR b au (bfs b au s0) p).length ≤ 60 := (rowR_sm pc.ao pc.sm _ p).1
          refine s_for (l := List.range (rowR b au (bfs b au s0) p).length) a9 (xi_rangeT (xa_cons ((xe_cb (xa_cons (xe_op (xe_var rfl) (xe_var rfl) (xr_ixLn (map_get (f := eRow) (hget hpp).1))) xa_nil) xc_lenL).to (by rw [List.length_map, List.length_map])) xa_nil) (by omega))
            (fun c G' H' σ' => At A0 G H G' H' σ' [some (boardS K b), some (autS K au), some (dat (.int (s0 : Int))), some (dat (.int (wnr b au s0 : Int))), some (dat (.list ((bfs b au s0).map eQ))), some (dat (eG (gB b au s0))), some (dat (eNm (namesOf b au (bfs b au s0)))), some (isV (.ref lr)), some (isV (.ref lh)), some (dat (eRk (ranksF (gB b au s0) (kk + 1)))), some (dat (.int (xi : Int))), none, none] ∧ ∃ xr part, Fam H G' H' [lr, lh] [xr, xh6 ++ [v9]] ∧ part.length = c ∧ (∀ (c' : Nat) x, part[c']? = some x → One0 b au (bfs b au s0) (ranksF (gB b au s0) (kk + 1)) p r c' x) ∧ RpAll G' xr ((PL.flatten ++ part).map eRw0) ∧ Same G9 G')
            (fun i G1 H1 σ1 h => h.1.s) (fun G10 H10 st10 => ⟨(a9.step0 st10).sub (by repeat' constructor), xr6, [], fam9.step st10, rfl, (fun c' x h => by simp at h), by rw [List.append_nil]; exact rr9.mono st10.g, st10.g⟩) ?_ ?_
          · rintro c xc G10 H10 σ10 hxc ⟨a10, xr10, part, fam10, hpl, one10, rr10, s10⟩ v11 G11 H11 st11 p11
            obtain ⟨hci, rfl⟩ := range_get hxc
            have a11 := (a10.step0 st11).re ((a10.step0 st11).env.set 11 p11)
            obtain ⟨ch, hch⟩ : ∃ ch, (rowR b au (bfs b au s0) p)[xc]? = some ch := ⟨(rowR b au (bfs b au s0) p)[xc], List.getElem?_eq_getElem hci⟩
            have hrowc : (row (gB b au s0) xi)[xc]? = some (ch.map (·.1)) := by
              rw [hrow hpp]
              exact map_get hch
            have gd := ranksF_good gok (kk + 1) xi r hr2 _ (List.mem_of_getElem? hrowc)
            have hxr10 : xr10.length ≤ 100000 := by
              rw [rr10.length, List.length_map, List.length_append, hpl]
              have := rr6.length
              rw [List.length_map] at this
              omega
            refine s_appF (j := 0) (φ := ex (fun j : Nat => ∃ q, (ch.map (·.1))[j]? = some q ∧ GoodR (ranksF (gB b au s0) (kk + 1)) r q) fun j => dat (eRw0 (p, (ch.getD j default).2))) a11 (fam10.step st11) rfl rfl rfl hxr10 (fun {Q} kk2 => a11.e (xe_op (xe_op (xe_var rfl) (xe_var rfl) (xr_ixLn (map_get (f := eQ) hpp))) (xe_op (xe_op (xe_op (xe_var rfl) (xe_var rfl) (xr_ixLn (map_get (f := eNrow) (hget hpp).2))) (xe_var rfl) (xr_ixLn (map_get (f := eNch) (map_get (f := fun ch : List Item => ch.map (·.2)) hch)))) (xe_call (φ := ex (fun j : Nat => ∃ q, (ch.map (·.1))[j]? = some q ∧ GoodR (ranksF (gB b au s0) (kk + 1)) r q) fun j => dat (.int (j : Int))) (xa_cons (xe_var rfl) (xa_cons (xe_var rfl) (xa_cons (xe_var rfl) (xa_cons (xe_var rfl) xa_nil)))) fun vs H Q h => ⟨gB b au s0, ranksF (gB b au s0) (kk + 1), xi, xc, r, ch.map (·.1), gok, gsm, ranksF_len _ _, by rw [glen]; exact hi, hrowc, hr2, gd, h⟩)
                (xr_ex (g := fun j => dat (eN3 (ch.getD j default).2)) fun j hj => xr_ixLn (d := eN3 (ch.getD j default).2) (by
                  obtain ⟨q, hq, _⟩ := hj
                  rw [List.getElem?_map] at hq
                  obtain ⟨it, hit, _⟩ := Option.map_eq_some_iff.mp hq
                  rw [List.getD_eq_getElem?_getD, hit]
                  exact map_get (f := eN3) (map_get (f := fun it : Item => it.2) hit))))
                (xr_ex (g := fun j => dat (eRw0 (p, (ch.getD j default).2))) fun j hj => xr_catT (ds := [.int (p.1 : Int), .int (p.2 : Int)]) (es := [.str (sg (ch.getD j default).2.1), .int ((ch.getD j default).2.2.1 : Int), .int ((ch.getD j default).2.2.2 : Int)]) (by simp) (by simp) (by simp))) fun v12 G12 H12 st12 _ p12 => kk2 v12 G12 H12 st12 p12) fun v12 G12 H12 st12 p12 a12 fam12 w12 => ?_
            obtain ⟨j, ⟨q, hq, gq⟩, p12⟩ := p12
            rw [List.getElem?_map] at hq
            obtain ⟨it, hit, eq⟩ := Option.map_eq_some_iff.mp hq
            have ed : ch.getD j default = it := by rw [List.getD_eq_getElem?_getD, hit]; rfl
            have p12 : Rp G12 v12 (eRw0 (p, (ch.getD j default).2)) := p12
            rw [ed] at p12
            refine ⟨G12, st11.g.trans st12.g, a12.sub (by repeat' constructor), _, part ++ [(p, it.2)], fam12, by simp [hpl], ?_, ?_, s10.trans (st11.g.trans st12.g)⟩
            · intro c' x hx
              by_cases hl : c' < part.length
              · rw [List.getElem?_append_left hl] at hx
                exact one10 c' x hx
              · rw [List.getElem?_append_right (by omega)] at hx
                have e0 : c' - part.length = 0 := by
                  have := (List.getElem?_eq_some_iff.mp hx).1
                  simp at this
                  omega
                rw [e0] at hx
                have ex : (p, it.2) = x := by simpa using hx
                have ec : c' = xc := by omega
                rw [ec, ← ex]
                exact ⟨ch, it, hch, List.mem_of_getElem? hit, by rw [eq]; exact gq, rfl⟩
            · rw [← List.append_assoc, List.map_append]
              exact ((rr10.mono st11.g).mono st12.g).append (.cons p12 .nil)
          · rintro G10 H10 σ10 ⟨a10, xr10, part, fam10, hpl, one10, rr10, s10⟩
            rw [List.length_range] at hpl
            refine ⟨G10, (st7.g.trans st8.g).trans (st9.g.trans s10), a10.sub (by repeat' constructor), xr10, _, PL ++ [part], fam10, by simp [hPL], nth_snoc part6 ?_, ?_, rh9.mono s10⟩
            · rw [hPL]
              refine ⟨fun z => ?_, fun p2 r2 h1 h2 => ?_, fun p2 r2 h1 h2 c x hx => ?_⟩
              · rw [hr2] at z
                cases z
              · rw [hpp] at h1
                obtain rfl := Option.some.inj h1
                exact hpl
              · rw [hpp] at h1
                obtain rfl := Option.some.inj h1
                rw [hr2] at h2
                obtain rfl := Option.some.inj h2
                exact one10 c x hx
            · rw [List.flatten_append]
              simpa using rr10
        · have hnone : oat (ranksF (gB b au s0) (kk + 1)) xi = none := by
            cases h : oat (ranksF (gB b au s0) (kk + 1)) xi with
            | none => rfl
            | some r =>
              rw [h] at e2
              cases e2
          refine ⟨G8, st7.g.trans st8.g, a8.sub (by repeat' constructor), xr6, xh6, PL ++ [[]], fam7.step st8, by simp [hPL], nth_snoc part6 ?_, ?_, ?_⟩
          · rw [hPL]
            refine ⟨fun _ => rfl, fun p2 r2 _ h2 => ?_, fun p2 r2 _ h2 => ?_⟩
            · rw [hnone] at h2
              cases h2
            · rw [hnone] at h2
              cases h2
          · rw [List.flatten_append]
            simpa using (rr6.mono st7.g).mono st8.g
          · rw [hiL_next, hiP_none hnone, List.append_nil]
            exact (rh6.mono st7.g).mono st8.g
      · rintro G6 H6 σ6 ⟨a6, xr6, xh6, PL, fam6, hPL, part6, rr6, rh6⟩
        rw [List.length_range] at hPL rh6
        obtain ⟨fam7, wr, nr⟩ := fam6.tail
        obtain ⟨a7, s7⟩ := a6.seal wr (fam6.fr _ List.mem_cons_self) nb0
        have fam7 := fam7.seal (o := .lst xr6) nr
        obtain ⟨fam8, wh, nh⟩ := fam7.tail
        obtain ⟨a8, s8⟩ := a7.seal wh (fam7.fr _ List.mem_cons_self) nb0
        have q1 : Rp (upd (upd G6 lr (.lst xr6)) lh (.lst xh6)) (.ref lr) (.list (PL.flatten.map eRw0)) := .lst (s8 _ _ upd_same) (rr6.mono (s7.trans s8))
        have q2 : Rp (upd (upd G6 lr (.lst xr6)) lh (.lst xh6)) (.ref lh) (.list ((hiL (bfs b au s0) (oat (ranksF (gB b au s0) (kk + 1))) (bfs b au s0).length).map eHi)) := .lst upd_same (rh6.mono (s7.trans s8))
        have a9 := a8.re ((a8.env.put (j := 7) (a8.own (i := 7) rfl) (φ := dat (.list (PL.flatten.map eRw0))) q1).put (j := 8) (a8.own (i := 8) rfl) (φ := dat (.list ((hiL (bfs b au s0) (oat (ranksF (gB b au s0) (kk + 1))) (bfs b au s0).length).map eHi))) q2)
        obtain ⟨sa, sb, sc⟩ := sortable_rw0 PL.flatten
        obtain ⟨ta, tb, tc⟩ := sortable_hi (hiL (bfs b au s0) (oat (ranksF (gB b au s0) (kk + 1))) (bfs b au s0).length)
        refine s_ret a9 (xe_make (φ := planS K 0 (sortD (PL.flatten.map eRw0)) (sortD ((hiL (bfs b au s0) (oat (ranksF (gB b au s0) (kk + 1))) (bfs b au s0).length).map eHi))) (xa_cons xe_int (xa_cons (xe_cb (xa_cons (xe_var rfl) xa_nil) (xc_sorted sa sb sc)) (xa_cons (xe_cb (xa_cons (xe_var rfl) xa_nil) (xc_sorted ta tb tc)) xa_nil))) fun vs H Q h => ⟨0, _, _, h⟩) fun v10 G10 H10 st10 _ p10 => ?_
        exact k v10 G10 H10 st10 trivial ⟨(0, _, _), ⟨hp', hc', .inl ⟨rfl, hw, kk, PL, hkk, hPL, part6, rfl, rfl⟩⟩, p10⟩
    · have hw : ¬ WinF b au s0 := by
        intro h
        rw [wnr_yes h] at e
        exact absurd (of_decide_eq_false e) (by decide)
      refine q_asg (φ := ex (fun t => TSpec (gB b au s0) t) fun t => dat (eTb t)) a4 (xe_call (xa_cons (xe_var rfl) xa_nil) fun vs H Q h => ⟨gB b au s0, gok, gsm, h⟩) fun v5 G5 H5 st5 _ a5 => ?_
      obtain ⟨t, hts, a5⟩ := a5.pick (i := 12) rfl
      have tbl : t.length = (bfs b au s0).length := by rw [hts.len, glen]
      refine q_for (l := List.range (bfs b au s0).length) a5 (xi_rangeT (xa_cons ((xe_cb (xa_cons (xe_var rfl) xa_nil) xc_lenL).to (by rw [List.length_map])) xa_nil) (by omega))
        (fun i G' H' σ' => At A0 G H G' H' σ' [some (boardS K b), some (autS K au), some (dat (.int (s0 : Int))), some (dat (.int (wnr b au s0 : Int))), some (dat (.list ((bfs b au s0).map eQ))), some (dat (eG (gB b au s0))), some (dat (eNm (namesOf b au (bfs b au s0)))), some (isV (.ref lr)), some (isV (.ref lh)), none, none, none, some (dat (eTb t))] ∧ ∃ xr xh PL, Fam H G' H' [lr, lh] [xr, xh] ∧ PL.length = i ∧ (∀ (j : Nat) part, PL[j]? = some part → Rows1 b au (bfs b au s0) t j part) ∧ RpAll G' xr (PL.flatten.map eRw1) ∧ RpAll G' xh ((hiL (bfs b au s0) (fun j => (oat t j).map fun x : Nat × Nat × Nat => x.2.2) i).map eHi))
        (fun i G1 H1 σ1 h => h.1.s) (fun G6 H6 st6 => ⟨(a5.step0 st6).sub (by repeat' constructor), [], [], [], ((fam3.step st4).step st5).step st6, rfl, (fun j part h => by simp at h), .nil, .nil⟩) ?_ ?_
      · rintro i xi G6 H6 σ6 hxi ⟨a6, xr6, xh6, PL, fam6, hPL, part6, rr6, rh6⟩ v7 G7 H7 st7 p7
        obtain ⟨hi, rfl⟩ := range_get hxi
        have a7 := (a6.step0 st7).re ((a6.step0 st7).env.set 10 p7)
        have fam7 := fam6.step st7
        obtain ⟨p, hpp⟩ : ∃ p, (bfs b au s0)[xi]? = some p := ⟨(bfs b au s0)[xi], List.getElem?_eq_getElem hi⟩
        have hrng := hp'.rng p (List.mem_of_getElem? hpp)
        have htk : (t.map (eOpt eT3))[xi]? = some (eOpt eT3 (oat t xi)) := eTb_get (by rw [tbl]; exact hi)
        have hxr : xr6.length ≤ 100 := by
          rw [rr6.length, List.length_map]
          have := flat_le (k := 1) fun j x hx => (part6 j x hx).small (by have := (List.getElem?_eq_some_iff.mp hx).1; omega)
          rw [hPL] at this
          omega
        have hxh : xh6.length ≤ 100 := by
          rw [rh6.length, List.length_map]
          have := hiL_len (bfs b au s0) (fun j => (oat t j).map fun x : Nat × Nat × Nat => x.2.2) xi
          omega
        refine s_if (b := (oat t xi).isSome) a7 (xt_B (xe_notN (xe_op (xe_var rfl) (xe_var rfl) (xr_ixLn htk)) fun G v h => by rw [none_eTb h]; cases oat t xi <;> rfl)) (fun e2 G8 H8 st8 a8 => ?_) (fun e2 G8 H8 st8 a8 => ?_)
        · obtain ⟨⟨c, stg, kq⟩, hr2⟩ := Option.isSome_iff_exists.mp e2
          rw [hr2] at htk
          have htk : (t.map (eOpt eT3))[xi]? = some (.tuple [.int (c : Int), .int (stg : Int), .int (kq : Int)]) := htk
          have fam8 := fam7.step st8
          -- ranks.append(found[at] + (table[at][2],))
          refine q_appF (j := 1) (φ := dat (eHi (p.1, p.2, kq))) a8 fam8 rfl rfl rfl (by omega) (fun {Q} kk2 => a8.e (xe_op (xe_op (xe_var rfl) (xe_var rfl) (xr_ixLn (map_get (f := eQ) hpp))) (xe_tup1 (d := .int (kq : Int)) (xe_op (xe_op (xe_var rfl) (xe_var rfl) (xr_ixLn htk)) xe_int (xr_ixTn (n := 2) rfl))) (xr_catT (ds := [.int (p.1 : Int), .int (p.2 : Int)]) (es := [.int (kq : Int)]) (by simp) (by simp) (by simp))) fun v9 G9 H9 st9 _ p9 => kk2 v9 G9 H9 st9 p9) fun v9 G9 H9 st9 p9 a9 fam9 w9 => ?_
          have rr9 := (((rr6.mono st7.g).mono st8.g).mono st9.g)
          have hval : (fun j => (oat t j).map fun x : Nat × Nat × Nat => x.2.2) xi = some kq := by
            show (oat t xi).map _ = _
            rw [hr2]
            rfl
          have rh9 : RpAll G9 (xh6 ++ [v9]) ((hiL (bfs b au s0) (fun j => (oat t j).map fun x : Nat × Nat × Nat => x.2.2) (xi + 1)).map eHi) := by
            rw [hiL_next, hiP_some hpp hval, List.map_append]
            exact (((rh6.mono st7.g).mono st8.g).mono st9.g).append (.cons p9 .nil)
          have hown : b.ow[p.1]? = some (own b p.1) := by
            unfold own
            rw [List.getD_eq_getElem?_getD, List.getElem?_eq_getElem hrng.1]
            rfl
          refine s_if (b := decide ((own b p.1 : Int) = 1)) a9 (xt_test (xe_op (xe_meth (φ := dat (.int (own b p.1 : Int))) (xe_var rfl) (by decide +kernel) (xa_cons (xe_op (xe_op (xe_var rfl) (xe_var rfl) (xr_ixLn (map_get (f := eQ) hpp))) xe_int (xr_ixTn (n := 0) rfl)) xa_nil) fun vs H Q h => ⟨b, p.1, own b p.1, pc.bo, hown, h⟩) xe_int xr_eqI)) (fun e3 G10 H10 st10 a10 => ?_) (fun e3 G10 H10 st10 a10 => ?_)
          · have ho1 : own b p.1 = 1 := by
              have := of_decide_eq_true e3
              omega
            obtain ⟨chg, hcg, _⟩ := hts.good xi c stg kq hr2
            rw [hrow hpp, List.getElem?_map] at hcg
            obtain ⟨ch, hch, _⟩ := Option.map_eq_some_iff.mp hcg
            obtain ⟨it, hit⟩ : ∃ it, ch[0]? = some it := by
              have hm := List.mem_of_getElem? hch
              unfold rowR fullR at hm
              rw [if_neg (by omega)] at hm
              unfold rowB at hm
              obtain ⟨m, hmb, rfl⟩ := List.mem_map.mp hm
              have hne := pc.ao.all p.2 m.1 hrng.2 (pc.le _ (bl_mem.mp hmb))
              have hne2 : tl au.trs p.2 m.1 ≠ [] := fun z => hne (by
                have := tl_perm au.trs p.2 m.1
                rw [z] at this
                exact this.symm.eq_nil)
              unfold chal
              cases ht2 : tl au.trs p.2 m.1 with
              | nil => exact absurd ht2 hne2
              | cons x r => exact ⟨_, rfl⟩
            -- rows.append(..)
            refine s_appF (j := 0) (φ := dat (eRw1 (p, it.2.1, it.2.2.1))) a10 (fam9.step st10) rfl rfl rfl (by omega) (fun {Q} kk2 => a10.e (xe_op (xe_op (xe_var rfl) (xe_var rfl) (xr_ixLn (map_get (f := eQ) hpp))) (xe_slT (ds := [.str (sg it.2.1), .int (it.2.2.1 : Int), .int (it.2.2.2 : Int)]) (lo := none) (hi := some 2) (xe_op (xe_op (xe_op (xe_var rfl) (xe_var rfl) (xr_ixLn (map_get (f := eNrow) (hget hpp).2))) (xe_op (xe_op (xe_var rfl) (xe_var rfl) (xr_ixLn htk)) xe_int (xr_ixTn (n := 0) rfl)) (xr_ixLn (map_get (f := eNch) (map_get (f := fun ch : List Item => ch.map (·.2)) hch)))) xe_int (xr_ixLn (n := 0) (d := eN3 it.2) (map_get (f := eN3) (map_get (f := fun it : Item => it.2) hit)))) xo_none (xo_some xe_int) (by show ¬ (HT.sIx 3 0 none = 0 ∧ HT.sIx 3 3 (some 2) = 3); decide)) (xr_catT (ds := [.int (p.1 : Int), .int (p.2 : Int)]) (es := [.str (sg it.2.1), .int (it.2.2.1 : Int)]) (by simp) (by simp) (by simp))) fun v12 G12 H12 st12 _ p12 => kk2 v12 G12 H12 st12 p12) fun v12 G12 H12 st12 p12 a12 fam12 w12 => ?_
            refine ⟨G12, ((st7.g.trans st8.g).trans st9.g).trans (st10.g.trans st12.g), a12.sub (by repeat' constructor), _, _, PL ++ [[(p, it.2.1, it.2.2.1)]], fam12, by simp [hPL], nth_snoc part6 ?_, ?_, rh9.mono (st10.g.trans st12.g)⟩
            · rw [hPL]
              refine ⟨fun z => ?_, fun p2 h1 h2 => ?_, fun p2 c2 s2 k2 h1 h2 h3 => ?_⟩
              · rw [hr2] at z
                cases z
              · rw [hpp] at h1
                obtain rfl := Option.some.inj h1
                exact absurd ho1 h2
              · rw [hpp] at h1
                obtain rfl := Option.some.inj h1
                rw [hr2] at h2
                obtain rfl : c = c2 := congrArg (·.1) (Option.some.inj h2)
                exact ⟨ch, it, hch, hit, rfl⟩
            · rw [List.flatten_append, List.map_append]
              exact ((rr9.mono st10.g).mono st12.g).append (.cons p12 .nil)
          · have ho1 : own b p.1 ≠ 1 := by
              have := of_decide_eq_false e3
              omega
            refine ⟨G10, ((st7.g.trans st8.g).trans st9.g).trans st10.g, a10.sub (by repeat' constructor), xr6, _, PL ++ [[]], fam9.step st10, by simp [hPL], nth_snoc part6 ?_, ?_, rh9.mono st10.g⟩
            · rw [hPL]
              refine ⟨fun _ => rfl, fun _ _ _ => rfl, fun p2 c2 s2 k2 h1 h2 h3 => ?_⟩
              rw [hpp] at h1
              obtain rfl := Option.some.inj h1
              exact absurd h3 ho1
            · rw [List.flatten_append]
              simpa using rr9.mono st10.g
        · have hnone : oat t xi = none := by
            cases h : oat t xi with
            | none => rfl
            | some r =>
              rw [h] at e2
              cases e2
          refine ⟨G8, st7.g.trans st8.g, a8.sub (by repeat' constructor), xr6, xh6, PL ++ [[]], fam7.step st8, by simp [hPL], nth_snoc part6 ?_, ?_, ?_⟩
          · rw [hPL]
            refine ⟨fun _ => rfl, fun _ _ _ => rfl, fun p2 c2 s2 k2 _ h2 => ?_⟩
            rw [hnone] at h2
            cases h2
          · rw [List.flatten_append]
            simpa using (rr6.mono st7.g).mono st8.g
          · rw [hiL_next, hiP_none (by show (oat t xi).map _ = none; rw [hnone]; rfl), List.append_nil]
            exact (rh6.mono st7.g).mono st8.g
      · rintro G6 H6 σ6 ⟨a6, xr6, xh6, PL, fam6, hPL, part6, rr6, rh6⟩
        rw [List.length_range] at hPL rh6
        obtain ⟨fam7, wr, nr⟩ := fam6.tail
        obtain ⟨a7, s7⟩ := a6.seal wr (fam6.fr _ List.mem_cons_self) nb0
        have fam7 := fam7.seal (o := .lst xr6) nr
        obtain ⟨fam8, wh, nh⟩ := fam7.tail
        obtain ⟨a8, s8⟩ := a7.seal wh (fam7.fr _ List.mem_cons_self) nb0
        have q1 : Rp (upd (upd G6 lr (.lst xr6)) lh (.lst xh6)) (.ref lr) (.list (PL.flatten.map eRw1)) := .lst (s8 _ _ upd_same) (rr6.mono (s7.trans s8))
        have q2 : Rp (upd (upd G6 lr (.lst xr6)) lh (.lst xh6)) (.ref lh) (.list ((hiL (bfs b au s0) (fun j => (oat t j).map fun x : Nat × Nat × Nat => x.2.2) (bfs b au s0).length).map eHi)) := .lst upd_same (rh6.mono (s7.trans s8))
        have a9 := a8.re ((a8.env.put (j := 7) (a8.own (i := 7) rfl) (φ := dat (.list (PL.flatten.map eRw1))) q1).put (j := 8) (a8.own (i := 8) rfl) (φ := dat (.list ((hiL (bfs b au s0) (fun j => (oat t j).map fun x : Nat × Nat × Nat => x.2.2) (bfs b au s0).length).map eHi))) q2)
        obtain ⟨sa, sb, sc⟩ := sortable_rw1 PL.flatten
        obtain ⟨ta, tb, tc⟩ := sortable_hi (hiL (bfs b au s0) (fun j => (oat t j).map fun x : Nat × Nat × Nat => x.2.2) (bfs b au s0).length)
        refine s_ret a9 (xe_make (φ := planS K 1 (sortD (PL.flatten.map eRw1)) (sortD ((hiL (bfs b au s0) (fun j => (oat t j).map fun x : Nat × Nat × Nat => x.2.2) (bfs b au s0).length).map eHi))) (xa_cons xe_int (xa_cons (xe_cb (xa_cons (xe_var rfl) xa_nil) (xc_sorted sa sb sc)) (xa_cons (xe_cb (xa_cons (xe_var rfl) xa_nil) (xc_sorted ta tb tc)) xa_nil))) fun vs H Q h => ⟨1, _, _, h⟩) fun v10 G10 H10 st10 _ p10 => ?_
        exact k v10 G10 H10 st10 trivial ⟨(1, _, _), ⟨hp', hc', .inr ⟨rfl, hw, t, PL, hts, hPL, part6, rfl, rfl⟩⟩, p10⟩
end
end Ls
/-! F27 -/
set_option maxHeartbeats 1000000
namespace Ls
open PySem PySem.Spec PyProof.Rows L2
theorem key_new {HL : List Hi} {i : Nat} {h : Hi} (nd : (HL.map hkey).Nodup) (hi : HL[i]? = some h) : hkey h ∉ (HL.take i).map hkey := fun m => by
  obtain ⟨y, hy, e⟩ := List.mem_map.mp m
  obtain ⟨j, hj⟩ := List.mem_iff_getElem?.mp hy
  rw [List.getElem?_take] at hj
  split at hj
  · rename_i lt
    have h1 : (HL.map hkey)[j]? = some (hkey h) := by rw [List.getElem?_map, hj, ← e]; rfl
    have h2 : (HL.map hkey)[i]? = some (hkey h) := by rw [List.getElem?_map, hi]; rfl
    have := get_inj nd h1 h2
    omega
  · cases hj
section
variable {P : Program} {w : World} {K : PySem.W.Frag} {mg : Str → Option Value} {base : Heap}
def sp_law (K : PySem.W.Frag) : Sp := fun vs H Q E => ∃ (a : Addr) (ns : List Int), vs = [.ref a] ∧ SqL K H a (ns.map V.int) ∧ ∀ H', Q (.bl true) H'
abbrev N_law : List Str := ["_law_script", "_law_bag", "_law_turn", "_law_spec_here", "_law_owners", "_law_moves", "_law_board_here", "_law_made_z", "_law_node", "_law_told", "_law_rows_here", "_law_ranks", "_law_high", "_law_row", "_law_handed", "_law_mine"]
theorem sc_law : FnScope ["_law_script", "_law_bag", "_law_turn", "_law_spec_here", "_law_owners", "_law_moves", "_law_board_here", "_law_made_z", "_law_node", "_law_told", "_law_rows_here", "_law_ranks", "_law_high", "_law_row", "_law_handed", "_law_mine"] ["_law_script"] (defScope s_law) := ⟨rfl, rfl, rfl, by decide +kernel, rfl, by decide +kernel, by decide +kernel⟩
theorem ok_law {f : Addr} {fd : FuncData} (F : FnP K "law" "law" s_law [] [] f fd) (T : Fx K mg) (F_l_draws : Fn P w K mg base "_law_draws" 1 ["_law_script"] [] (sp_l_draws K)) (F_l_pull : Fn P w K mg base "_law_pull" 1 ["_law_bag", "_law_sides"] [] sp_l_pull)
    (F_l_harmful : Fn P w K mg base "_law_harmful" 4 ["_law_bag"] [] sp_l_harmful) (F_l_spec : Fn P w K mg base "_law_spec" 4 ["_law_bag", "_law_most", "_law_guesses"] [] sp_l_spec) (F_l_board : Fn P w K mg base "_law_board" 3 ["_law_bag", "_law_alphabet_here", "_law_most"] [] sp_l_board)
    (M_Board : Mc P w K mg base "Board" (He.ga K "Board") 3 ["self", "owners", "moves"] (sp_b_init K)) (F_l_made : Fn P w K mg base "_law_made" 5 ["_law_spec_here"] [] (sp_l_made K)) (F_plan : Fn P w K mg base "plan" 6 ["board", "automaton", "start"] [] (sp_plan K))
    (M_p_rows : Md P w K mg base (He.ga K "Plan") "rows" 1 ["self"] (sp_p_rowsN K)) (M_p_ranks : Md P w K mg base (He.ga K "Plan") "ranks" 1 ["self"] (sp_p_ranksN K)) (M_p_len : Md P w K mg base (He.ga K "Plan") "__len__" 1 ["self"] (sp_p_len K)) (M_p_repr : Md P w K mg base (He.ga K "Plan") "__repr__" 1 ["self"] (sp_p_repr K))
    (F_l_first_plan : Fn P w K mg base "_law_first_plan" 2 ["_law_spec_here", "_law_owners", "_law_moves", "_law_rows_here", "_law_high"] [] sp_l_first_plan) (F_l_second_plan : Fn P w K mg base "_law_second_plan" 2 ["_law_spec_here", "_law_owners", "_law_moves", "_law_rows_here", "_law_high"] [] sp_l_second_plan)
    (F_l_like : Fn P w K mg base "_law_like" 5 ["_law_a", "_law_b"] [] (sp_l_like 4)) (M_Plan : Mc P w K mg base "Plan" (He.ga K "Plan") 1 ["self", "player", "rows", "ranks"] (sp_p_initN K)) : FnOk P w K mg base CX0 8 f fd ["_law_script"] (sp_law K) := by
  refine F.ok sc_law (fun vs H Q E h => ?_) (fun cdv A outer st H vs Q E hr h => ?_)
  · obtain ⟨_, _, rfl, _⟩ := h
    rfl
  · obtain ⟨sa, ns, rfl, hS, k⟩ := h
    refine ⟨_, PSs.nox (pss_cons (ps_set (i := 1) sc_law.nd rfl (Or.inl rfl) (pe_fn F_l_draws (hr.mono (by decide)) rfl (pa_cons (pv 0) pa_nil)))
  (pss_cons (ps_for PassesOwn.never (by rfl) (pi_range1 (by rfl) T.b_range (pa_cons pe_int pa_nil)) (pg_name (i := 2) sc_law.nd rfl (Or.inl rfl)) (pss_cons (ps_set (i := 3) sc_law.nd rfl (Or.inl rfl) (pe_ifExp (pt_cmpR op_eq (pe_fn F_l_pull (hr.mono (by decide)) rfl (pa_cons (pv 1) (pa_cons pe_int pa_nil))) pe_int (nomark _)) (pe_fn F_l_harmful (hr.mono (by decide)) rfl (pa_cons (pv 1) pa_nil)) (pe_fn F_l_spec (hr.mono (by decide)) rfl (pa_cons (pv 1) (pa_cons pe_int (pa_cons (pe_cmpR op_eq (pe_fn F_l_pull (hr.mono (by decide)) rfl (pa_cons (pv 1) (pa_cons pe_int pa_nil))) pe_int (nomark _)) pa_nil))))))
  (pss_cons (ps_asg (pe_fn F_l_board (hr.mono (by decide)) rfl (pa_cons (pv 1) (pa_cons (pe_ix (ix_listK K) (pv 3) pe_int (fun _ _ => rfl)) (pa_cons pe_int pa_nil)))) (pg_unlK K (n := 2) (by rfl) (pgs_cons (pg_name (i := 4) sc_law.nd rfl (Or.inl rfl)) (pgs_cons (pg_name (i := 5) sc_law.nd rfl (Or.inl rfl)) pgs_nil))))
  (pss_cons (ps_par (i := 6) (j := 7) (by rfl) sc_law.nd rfl rfl (by decide) rfl rfl (pa_cons (pe_mk M_Board (hr.mono (by decide)) rfl (pa_cons (pv 4) (pa_cons (pv 5) pa_nil))) (pa_cons (pe_fn F_l_made (hr.mono (by decide)) rfl (pa_cons (pv 3) pa_nil)) pa_nil)) (by rfl))
  (pss_one (ps_for PassesOwn.never (by rfl) (pi_range1 (by rfl) T.b_range (pa_cons (pe_callB (call_lenK K) (by rfl) T.b_len PySem.boot_len (pa_cons (pv 4) pa_nil)) pa_nil)) (pg_name (i := 8) sc_law.nd rfl (Or.inl rfl)) (pss_cons (ps_set (i := 9) sc_law.nd rfl (Or.inl rfl) (pe_fn F_plan (hr.mono (by decide)) rfl (pa_cons (pv 6) (pa_cons (pv 7) (pa_cons (pv 8) pa_nil)))))
  (pss_cons (ps_asg (pe_tup (pa_cons (pe_md0 (pv 9) T.c_Plan M_p_rows (hr.mono (by decide))) (pa_cons (pe_md0 (pv 9) T.c_Plan M_p_ranks (hr.mono (by decide))) (pa_cons pe_dnewT pa_nil)))) (pg_tupK K (n := 3) (by rfl) (pgs_cons (pg_name (i := 10) sc_law.nd rfl (Or.inl rfl)) (pgs_cons (pg_name (i := 11) sc_law.nd rfl (Or.inl rfl)) (pgs_cons (pg_name (i := 12) sc_law.nd rfl (Or.inr rfl)) pgs_nil)))))
  (pss_cons (ps_for PassesOwn.never (by rfl) (pi_listK K (pv 11)) (pg_name (i := 13) sc_law.nd rfl (Or.inl rfl)) (pss_cons (ps_if (pt_cmp (pc_din (hu_of hr) (pe_slice (sl_tupK K) (pv 13) po_none (po_some pe_int)) (pv 12)) rfl) (pss_one (ps_ret pe_bl)) pss_nil)
  (pss_one (ps_dput (hu_of hr) (pv 12) (pe_slice (sl_tupK K) (pv 13) po_none (po_some pe_int)) (pe_ix (ix_tupK K) (pv 13) pe_int (fun _ _ => rfl)) rfl))))
  (pss_cons (ps_if (PW.pt (pw_or (pt_cmp (pc_dnotin (hu_of hr) (pe_tup (pa_cons (pv 8) (pa_cons (pe_ix (ix_listK K) (pv 3) pe_int (fun _ _ => rfl)) pa_nil))) (pv 12)) rfl) (pw_or (pt_cmpR (op_neDK K hr.units) (pv 10) (pe_callB (cr_sortedDK K hr) (by rfl) T.b_sorted bt_sorted (pa_cons (pv 10) pa_nil)) (nomark _)) (pw_or (pt_cmpR (op_neDK K hr.units) (pv 11) (pe_callB (cr_sortedDK K hr) (by rfl) T.b_sorted bt_sorted (pa_cons (pv 11) pa_nil)) (nomark _)) (pw_or1 (pt_cmpR op_ne (pe_callB (call_lenO M_p_len (hr.mono (by decide))) (by rfl) T.b_len PySem.boot_len (pa_cons (pv 9) pa_nil)) (pe_callB (call_lenK K) (by rfl) T.b_len PySem.boot_len (pa_cons (pv 10) pa_nil)) (nomark _))))))) (pss_one (ps_ret pe_bl)) pss_nil)
  (pss_cons (ps_if (PW.pt (pw_and (pt_cmpR op_eq (pe_fldK K (pv 9) rfl) pe_int (nomark _)) (pw_and1 (pt_not (pt_val (pe_fn F_l_first_plan (hr.mono (by decide)) rfl (pa_cons (pv 3) (pa_cons (pv 4) (pa_cons (pv 5) (pa_cons (pv 10) (pa_cons (pv 12) pa_nil))))))))))) (pss_one (ps_ret pe_bl)) pss_nil)
  (pss_cons (ps_if (PW.pt (pw_and (pt_cmpR op_ne (pe_fldK K (pv 9) rfl) pe_int (nomark _)) (pw_and1 (pt_not (pt_val (pe_fn F_l_second_plan (hr.mono (by decide)) rfl (pa_cons (pv 3) (pa_cons (pv 4) (pa_cons (pv 5) (pa_cons (pv 10) (pa_cons (pv 12) pa_nil))))))))))) (pss_one (ps_ret pe_bl)) pss_nil)
  (pss_cons (ps_if (PW.pt (pw_or (pt_cmpR op_ne (pe_callB (call_reprO M_p_repr (hr.mono (by decide))) (by rfl) T.b_repr bt_repr (pa_cons (pv 9) pa_nil)) (pe_op op_add_str (pe_op op_add_str (pe_op op_add_str (pe_op op_add_str pe_str (pe_callTy call_strQ (by rfl) T.b_str bt_str (pa_cons (pe_fldK K (pv 9) rfl) pa_nil))) pe_str) (pe_callTy call_strQ (by rfl) T.b_str bt_str (pa_cons (pe_callB (call_lenK K) (by rfl) T.b_len PySem.boot_len (pa_cons (pv 10) pa_nil)) pa_nil))) pe_str) (nomark _)) (pw_or1 (pt_cmpR (op_neDK K hr.units) (pe_lc (own := [("_law_row", 13)]) (by rfl) sc_law.nd (pi_listK K (pv 10)) (blkOk_by (by kernel_rfl)) (fun _ _ _ _ _ => (pg_name (i := 13) sc_law.nd rfl (Or.inl rfl))) (fun _ _ _ _ _ => (pts_one (pt_cmp (pc_dnotin (hu_of hr) (pe_slice (sl_tupK K) (pv 13) po_none (po_some pe_int)) (pv 12)) rfl))) (fun _ _ _ _ _ => (pv 13))) (pe_lst pa_nil) (nomark _))))) (pss_one (ps_ret pe_bl)) pss_nil)
  (pss_cons (ps_expr (pe_bm PySem.F.plainAttrs_list PySem.F.slot_list_append PySem.F.type_list_append mt_append (pe_md0 (pv 9) T.c_Plan M_p_rows (hr.mono (by decide))) (pa_cons pe_non pa_nil)))
  (pss_cons (ps_expr (pe_bm PySem.F.plainAttrs_list PySem.F.slot_list_append PySem.F.type_list_append mt_append (pe_md0 (pv 9) T.c_Plan M_p_ranks (hr.mono (by decide))) (pa_cons pe_non pa_nil)))
  (pss_one (ps_if (pt_not (pt_val (pe_fn F_l_like (hr.mono (by decide)) rfl (pa_cons (pe_lst (pa_cons (pe_md0 (pv 9) T.c_Plan M_p_rows (hr.mono (by decide))) (pa_cons (pe_md0 (pv 9) T.c_Plan M_p_ranks (hr.mono (by decide))) pa_nil))) (pa_cons (pe_lst (pa_cons (pv 10) (pa_cons (pv 11) pa_nil))) pa_nil))))) (pss_one (ps_ret pe_bl)) pss_nil)))))))))))))))))
  (pss_cons (ps_set (i := 14) sc_law.nd rfl (Or.inl rfl) (pe_lst (pa_cons (pe_lst (pa_cons (pe_tup (pa_cons pe_int (pa_cons pe_int (pa_cons pe_str (pa_cons pe_int pa_nil))))) pa_nil)) (pa_cons (pe_lst (pa_cons (pe_tup (pa_cons pe_int (pa_cons pe_int (pa_cons pe_int pa_nil)))) pa_nil)) pa_nil))))
  (pss_cons (ps_set (i := 15) sc_law.nd rfl (Or.inl rfl) (pe_mk M_Plan (hr.mono (by decide)) rfl (pa_cons pe_int (pa_cons (pe_ix (ix_listK K) (pv 14) pe_int (fun _ _ => rfl)) (pa_cons (pe_ix (ix_listK K) (pv 14) pe_int (fun _ _ => rfl)) pa_nil)))))
  (pss_cons (ps_expr (pe_bm PySem.F.plainAttrs_list PySem.F.slot_list_append PySem.F.type_list_append mt_append (pe_ix (ix_listK K) (pv 14) pe_int (fun _ _ => rfl)) (pa_cons pe_non pa_nil)))
  (pss_cons (ps_expr (pe_bm PySem.F.plainAttrs_list PySem.F.slot_list_append PySem.F.type_list_append mt_append (pe_ix (ix_listK K) (pv 14) pe_int (fun _ _ => rfl)) (pa_cons pe_non pa_nil)))
  (pss_one (ps_ret (pe_fn F_l_like (hr.mono (by decide)) rfl (pa_cons (pe_lst (pa_cons (pe_fldK K (pv 15) rfl) (pa_cons (pe_md0 (pv 15) T.c_Plan M_p_rows (hr.mono (by decide))) (pa_cons (pe_md0 (pv 15) T.c_Plan M_p_ranks (hr.mono (by decide))) (pa_cons (pe_callB (call_lenO M_p_len (hr.mono (by decide))) (by rfl) T.b_len PySem.boot_len (pa_cons (pv 15) pa_nil)) pa_nil))))) (pa_cons (pe_lst (pa_cons pe_int (pa_cons (pe_lst (pa_cons (pe_tup (pa_cons pe_int (pa_cons pe_int (pa_cons pe_str (pa_cons pe_int pa_nil))))) pa_nil)) (pa_cons (pe_lst (pa_cons (pe_tup (pa_cons pe_int (pa_cons pe_int (pa_cons pe_int pa_nil)))) pa_nil)) (pa_cons pe_int pa_nil))))) pa_nil))))))))))), ?_⟩
    have Eb : EnvOk H (start N_law [.ref sa]) [some (scrS K ns), none, none, none, none, none, none, none, none, none, none, none, none, none, none, none] := EnvOk.nil.skip.skip.skip.skip.skip.skip.skip.skip.skip.skip.skip.skip.skip.skip.skip.cons ⟨sa, rfl, hS⟩
    refine ⟨.ref sa, rfl, ?_⟩
    refine ⟨ns, H, Same.refl H, .cons ⟨sa, rfl, hS⟩ .nil, fun bag L ms G2 H2 t2 hb j2 => ?_⟩
    have a2 : At (bagA bag L ms) G2 H2 G2 H2 _ [some (scrS K ns), some (isV (.ref bag)), none, none, none, none, none, none, none, none, none, none, none, none, none, none] := ⟨(Eb.mono t2.g).set 1 (φ := isV (.ref bag)) rfl, Stp.refl t2.s, j2⟩
    refine q_for (l := List.range 2) a2 (xi_rangeT (xa_cons xe_int xa_nil) (by decide)) (fun i G' H' σ' => At (bagA bag L ms) G2 H2 G' H' σ' [none, some (isV (.ref bag)), none, none, none, none, none, none, none, none, none, none, none, none, none, none]) (fun i G' H' σ' h => h.s) (fun G3 H3 st3 => (a2.step0 st3).sub (by repeat' constructor)) ?_ ?_
    · rintro i x G3 H3 σ3 hx a3 v4 G4 H4 st4 p4
      have a4 := (a3.step0 st4).re ((a3.step0 st4).env.set 2 p4)
      refine q_asgEx (P := SpecOk) (f := fun a => dat (specD a)) a4 (xe_ifX (P := fun _ => True) (xe_pull0 (m := 3) rfl (by decide) (by decide) xe_int) (fun _ => xe_call (xa_cons (xe_var rfl) xa_nil) fun vs H Q h => ⟨bag, L, ms, h⟩) fun _ => xe_call (φs := [isV (.ref bag), dat (.int 3), ex (fun _ : Bool => True) fun g => dat (.bool g)]) (xa_cons (xe_var rfl) (xa_cons xe_int (xa_cons (xe_pull0 (m := 2) rfl (by decide) (by decide) xe_int) xa_nil))) fun vs H Q h => ?_) (fun m _ => xg_name (List.mem_singleton.mpr rfl)) fun au sp σ5 G5 H5 st5 a5 => ?_
      · obtain ⟨Gz, sz, jz, pz, kz⟩ := h
        obtain ⟨u1, u2, u3, rfl, q1, q2, ⟨g, _, q3⟩⟩ := ps_three pz
        exact ⟨bag, L, ms, g, Gz, sz, jz, .cons q1 (.cons q2 (.cons q3 .nil)), kz⟩
      refine q_asgEx (P := BoardOk au.cs) (f := fun b => dat (brdD b)) a5 (xe_call (xa_cons (xe_var rfl) (xa_cons (xe_op (xe_var rfl) (xe_int (i := ((0 : Nat) : Int))) (xr_ixLn (n := 0) rfl)) (xa_cons xe_int xa_nil))) fun vs H Q h => ⟨bag, L, ms, au.cs, sp.ok.al, h⟩) (fun b _ => xg_unl2 (js := [4, 5]) (by simp) (by simp)) fun b bo σ6 G6 H6 st6 a6 => ?_
      refine q_par (φ := boardS K b) (ψ := autS K au) a6 (xa_cons (xe_make (xa_cons (xe_var rfl) (xa_cons (xe_var rfl) xa_nil)) fun vs H Q h => ⟨b, bo.ok, h⟩) (xa_cons (XE.up (xe_call (xa_cons (xe_var rfl) xa_nil) fun vs H Q h => ⟨au, sp.ok, h⟩)) xa_nil)) fun v7 w7 G7 H7 st7 _ _ a7 => ?_
      have ho := bo.o
      have hn4 := sp.n
      have hm15 := bo.m
      have s37 : Same G3 G7 := ((st4.g.trans st5.g).trans st6.g).trans st7.g
      have a7' : At A0 G7 H7 G7 H7 _ [none, some (isV (.ref bag)), none, some (dat (specD au)), some (dat (eNs b.ow)), some (dat (.list (b.ms.map eBm))), some (boardS K b), some (autS K au), none, none, none, none, none, none, none, none] := (⟨a7.env, Stp.refl a7.s, trivial⟩ : At A0 G7 H7 G7 H7 _ _).sub (by repeat' constructor)
      refine s_for (l := List.range b.ow.length) a7' (xi_rangeT (xa_cons (XE.to (xe_cb (xa_cons (xe_var rfl) xa_nil) xc_lenL) (by rw [List.length_map])) xa_nil) (by omega)) (fun i G' H' σ' => At A0 G7 H7 G' H' σ' [none, some (isV (.ref bag)), none, some (dat (specD au)), some (dat (eNs b.ow)), some (dat (.list (b.ms.map eBm))), some (boardS K b), some (autS K au), none, none, none, none, none, none, none, none]) (fun i G' H' σ' h => h.s) (fun G8 H8 st8 => a7'.step0 st8) ?_ ?_
      · rintro i x G8 H8 σ8 hx a8 v9 G9 H9 st9 p9
        obtain ⟨hi, rfl⟩ := range_get hx
        have C : Cond b au x := ⟨bo.ok, sp.ok, ⟨by omega, by omega, by omega⟩, hi, bo.c⟩
        have a9 := (a8.step0 st9).re ((a8.step0 st9).env.set 8 p9)
        refine q_asgEx (P := PlanR b au x) (f := fun y => planS K y.1 y.2.1 y.2.2) a9 (xe_call (xa_cons (xe_var rfl) (xa_cons (xe_var rfl) (xa_cons (xe_var rfl) xa_nil))) fun vs H Q h => ⟨b, au, x, C, h⟩) (fun m _ => xg_name (List.mem_singleton.mpr rfl)) fun y hy σ10 G10 H10 st10 a10 => ?_
        obtain ⟨pl, rows, ranks⟩ := y
        obtain ⟨HL, R⟩ := ready_of C sp bo hy
        have R : Ready b au x pl rows ranks HL := R
        have hpl : pl = 0 ∨ pl = 1 := by
          rcases R.cas with h | h
          · exact .inl h.1
          · exact .inr h.1
        have hlen := R.len
        have hHL := R.told.len
        refine q_trip (φ := dat (.list rows)) (ψ := dat (.list ranks)) a10 (xe_rows rfl) (xe_ranks rfl) fun l v11 w11 G11 H11 st11 fl w0 a11 => ?_
        refine q_for (l := HL) a11 (xi_listT (e := eHi) (XE.to (xe_var rfl) (by rw [R.told.rk])))
          (fun i G' H' σ' => ∃ kvs, Same G11 G' ∧ kvs.length ≤ i ∧ Own G' H' l (.dT kvs) ∧ DF G' kvs (hiF (HL.take i)) ∧ At A0 G7 H7 G' H' σ' [none, some (isV (.ref bag)), none, some (dat (specD au)), some (dat (eNs b.ow)), some (dat (.list (b.ms.map eBm))), some (boardS K b), some (autS K au), some (dat (.int (x : Int))), some (planS K pl rows ranks), some (dat (.list rows)), some (dat (.list ranks)), some (isV (.ref l)), none, none, none]) (fun i G' H' σ' ⟨_, _, _, _, _, h⟩ => h.s) (fun G12 H12 st12 => ⟨[], st12.g, Nat.le_refl _, w0.step0 st12, DF.nil, (a11.step0 st12).sub (by repeat' constructor)⟩) ?_ ?_
        · rintro i2 h G12 H12 σ12 hx2 ⟨kvs, s12, z, w1, d, a12⟩ v13 G13 H13 st13 p13
          have a13 := (a12.step0 st13).re ((a12.step0 st13).env.set 13 p13)
          have hk := key_new R.told.nd hx2
          have no : hiF (HL.take i2) (kNN h.1 h.2.1) = none := hiF_no hk
          have hi2 : i2 < HL.length := (List.getElem?_eq_some_iff.mp hx2).1
          refine q_noD (i := 12) (.inl rfl) a13 (w1.step0 st13) rfl (d.mono st13.g) (xt_B (XE.to (d' := .bool false) (xe_din (k := kNN h.1 h.2.1) (sl_02 (p := hkey h) (ds := [.int (h.2.2 : Int)]) rfl (by simp)) (xe_var rfl)) (by rw [no]; rfl))) fun H14 st14 a14 => ?_
          refine s_dput (i := 12) (k := kNN h.1 h.2.1) (d := .int (h.2.2 : Int)) a14 ((w1.step0 st13).step0 st14) fl rfl (d.mono st13.g) (by omega) (xe_op (xe_var rfl) (xe_int (i := ((2 : Nat) : Int))) (xr_ixTn (n := 2) (ds := [.int (h.1 : Int), .int (h.2.1 : Int), .int (h.2.2 : Int)]) rfl)) (sl_02 (p := hkey h) (ds := [.int (h.2.2 : Int)]) rfl (by simp)) fun G15 H15 kvs2 st15 z15 d15 a15 w15 => ?_
          refine ⟨G15, st13.g.trans st15.g, kvs2, s12.trans (st13.g.trans st15.g), by omega, w15, ?_, a15.sub (by repeat' constructor)⟩
          rw [take_snoc hx2, ← hiF_put hk]
          exact d15
        · rintro G12 H12 σ12 ⟨kvs, s12, z, w1, d, a12⟩
          rw [List.take_length] at d
          obtain ⟨r0, hr0⟩ := R.told.st
          have look : hiF HL (kNN x au.ini) = some (.int (r0 : Int)) := hiF_at R.told.nd hr0
          refine q_noD (i := 12) (.inl rfl) a12 w1 rfl d (XT.to (xt_or (a := false) (b := false) (xt_B (XE.to (d' := .bool false) (xe_dnin (k := kNN x au.ini) (xe_tup2 (xe_var rfl) (xe_op (xe_var rfl) (xe_int (i := ((3 : Nat) : Int))) (xr_ixLn (n := 3) rfl))) (xe_var rfl)) (by rw [look]; rfl)))
            fun _ => xt_or (a := false) (b := false) (xt_test (XE.to (d' := .bool false) (xe_op (xe_var rfl) (xe_cb (xa_cons (xe_var rfl) xa_nil) (xc_sorted R.srt.1 R.srt.2.1 R.srt.2.2)) (xr_neD R.sh (by rw [R.told.s1]; exact R.sh))) (by rw [R.told.s1, eqv_shaped R.sh]; rfl)))
            fun _ => xt_or (a := false) (b := false) (xt_test (XE.to (d' := .bool false) (xe_op (xe_var rfl) (xe_cb (xa_cons (xe_var rfl) xa_nil) (xc_sorted R.srk.1 R.srk.2.1 R.srk.2.2)) (xr_neD R.shk (by rw [R.told.s2]; exact R.shk))) (by rw [R.told.s2, eqv_shaped R.shk]; rfl)))
            fun _ => xt_test (XE.to (d' := .bool false) (xe_op (xe_cb (xa_cons (xe_var rfl) xa_nil) (xc_plen hlen)) (xe_cb (xa_cons (xe_var rfl) xa_nil) xc_lenL) xr_neI) (by rw [decide_eq_true rfl]; rfl))) rfl) fun H13 st13 a13 => ?_
          have w13 := w1.step0 st13
          refine q_noX a13 (first_no T a13 w13 d R rfl rfl rfl rfl rfl rfl) fun G14 H14 st14 a14 => ?_
          have w14 := w13.step0 st14
          have d14 := d.mono st14.g
          refine q_noX a14 (second_no T a14 w14 d14 R rfl rfl rfl rfl rfl rfl) fun G15 H15 st15 a15 => ?_
          have w15 := w14.step0 st15
          have d15 := d14.mono st15.g
          have n1 : pl.natAbs < 10 ^ 20 := by rcases hpl with rfl | rfl <;> decide
          have n2 : ((rows.length : Nat) : Int).natAbs < 10 ^ 20 := by
            rw [Int.natAbs_natCast]
            exact Nat.lt_of_le_of_lt hlen (by decide)
          have n3 : pl.natAbs < 2 ^ 64 := by rcases hpl with rfl | rfl <;> decide
          have n4 : ((rows.length : Nat) : Int).natAbs < 2 ^ 64 := by
            rw [Int.natAbs_natCast]
            exact Nat.lt_of_le_of_lt hlen (by decide)
          have b1 : ("Plan(" : Str).length ≤ 10 := by decide +kernel
          have b2 := fit_app b1 (str_len_int pl n1)
          have b3 := fit_app b2 (show (", " : Str).length ≤ 10 by decide +kernel)
          have b4 := fit_app b3 (str_len_int (rows.length : Int) n2)
          have c2 := str_len_int pl n1
          have c4 := str_len_int (rows.length : Int) n2
          have c3 : (", " : Str).length ≤ 10 := by decide +kernel
          have c5 : (" rows)" : Str).length ≤ 10 := by decide +kernel
          refine q_noD (i := 12) (.inl rfl) a15 w15 rfl d15 (XT.to (xt_or (a := false) (b := false) (xt_test (XE.to (d' := .bool false) (xe_op (xe_cb (xa_cons (xe_var rfl) xa_nil) (xc_prepr hpl hlen)) (xe_op (xe_op (xe_op (xe_op xe_str (xe_cb (xa_cons (xe_fld (i := 0) (xe_var rfl) T.c_Plan T.n_p1 (by decide +kernel) rfl) xa_nil) (xc_str n3)) (xr_addSg (by show _ + (toString pl : Str).length ≤ _; omega))) xe_str (xr_addSg (by omega))) (xe_cb (xa_cons (xe_cb (xa_cons (xe_var rfl) xa_nil) xc_lenL) xa_nil) (xc_str n4)) (xr_addSg (by omega))) xe_str (xr_addSg (by omega))) xr_neS) (by rw [decide_eq_true (by rfl)]; rfl)))
            fun _ => xt_test (XE.to (d' := .bool false) (xe_op (XE.to (d' := .list []) (xe_lc (l := rows) (ψ := dat) (F := fun _ => false) (E := id) (js := [13]) (xi_list (xe_var rfl)) (by omega) (fun j hj => hj) fun y hy => ⟨xg_name (List.mem_singleton.mpr rfl), ?_, fun e => by cases e⟩) (by rw [filter_none fun _ _ => rfl]; rfl)) xe_lst0 (xr_neD rfl rfl)) rfl)) rfl) fun H16 st16 a16 => ?_
          · obtain ⟨p, ds, rfl, hds, hin⟩ := R.key y hy
            exact xt_B (XE.to (d' := .bool false) (xe_dnin (k := kNN p.1 p.2) (sl_02 (p := p) (ds := ds) rfl hds) (xe_var rfl)) (by rw [hin]; rfl))
          refine q_appN (ds := rows) a16 (fun {Q} kk => rows_own a16.env a16.s rfl kk) (by omega) fun G17 H17 a17 st17 => ?_
          refine q_appN (ds := ranks) a17 (fun {Q} kk => ranks_own a17.env a17.s rfl kk) (by rw [R.told.rk, List.length_map]; omega) fun G18 H18 a18 st18 => ?_
          have lk : LikeD 4 (.list [.list rows, .list ranks]) := like_lst (by show 2 ≤ 100000; decide) fun d hd => by
            simp only [List.mem_cons, List.not_mem_nil, or_false] at hd
            rcases hd with rfl | rfl
            · exact R.like
            · exact R.likek
          refine s_no a18 (xt_not (b := true) (xt_B (xe_call (φ := dat (.bool true)) (xa_cons (xe_lst (ds := [.list rows, .list ranks]) (xa_cons (xe_rows rfl) (xa_cons (xe_ranks rfl) xa_nil)) (by show 2 ≤ 1000; decide)) (xa_cons (xe_lst (ds := [.list rows, .list ranks]) (xa_cons (xe_var rfl) (xa_cons (xe_var rfl) xa_nil)) (by show 2 ≤ 1000; decide)) xa_nil)) fun vs H Q h => ⟨_, lk, h⟩))) fun G19 H19 st19 a19 => ?_
          exact ⟨G19, ((((((((st9.g.trans st10.g).trans st11.g).trans s12).trans st14.g).trans st15.g).trans st17.g).trans st18.g).trans st19.g), a19.sub (by repeat' constructor)⟩
      · rintro G8 H8 σ8 a8
        exact ⟨G8, s37.trans a8.stp.g, (⟨a8.env, a7.stp.trans a8.stp.up, a8.stp.j a7.j⟩ : At (bagA bag L ms) G2 H2 G8 H8 σ8 _).sub (by repeat' constructor)⟩
    · rintro G3 H3 σ3 a3
      have a4 : At A0 G3 H3 G3 H3 σ3 [none, some (isV (.ref bag)), none, none, none, none, none, none, none, none, none, none, none, none, none, none] := ⟨a3.env, Stp.refl a3.s, trivial⟩
      refine q_twoLists (ds := [.tuple [.int 0, .int 0, .str "a", .int 0]]) (es := [.tuple [.int 0, .int 0, .int 1]]) a4
        (xa_cons (xe_tup (ds := [.int 0, .int 0, .str "a", .int 0]) (xa_cons xe_int (xa_cons xe_int (xa_cons xe_str (xa_cons xe_int xa_nil)))) (by show 4 ≤ 1000; decide)) xa_nil)
        (xa_cons (xe_tup (ds := [.int 0, .int 0, .int 1]) (xa_cons xe_int (xa_cons xe_int (xa_cons xe_int xa_nil))) (by show 3 ≤ 1000; decide)) xa_nil) (by decide) (by decide) fun l m xs ys v5 G5 H5 st5 fl fm ne wl wm r0 r1 a5 => ?_
      have ih0 : ∀ {ρ : Env}, ρ[14]? = some (some (lstV [.ref l, .ref m])) → XE A0 (tOp (rIxL K) (tVar 14) (tC (.int 0))) ρ (isV (.ref l)) := fun h => xe_op (xe_var h) (xe_int (i := ((0 : Nat) : Int))) (xr_ixLV (n := 0) rfl)
      have ih1 : ∀ {ρ : Env}, ρ[14]? = some (some (lstV [.ref l, .ref m])) → XE A0 (tOp (rIxL K) (tVar 14) (tC (.int 1))) ρ (isV (.ref m)) := fun h => xe_op (xe_var h) (xe_int (i := ((1 : Nat) : Int))) (xr_ixLV (n := 1) rfl)
      refine q_mkPlan (pl := 1) a5 (xa_cons xe_int (xa_cons (ih0 rfl) (xa_cons (ih1 rfl) xa_nil))) wl wm r0 r1 fun v6 G6 H6 st6 a6 => ?_
      have wl6 := wl.step0 st6
      have wm6 := wm.step0 st6
      refine q_appX a6 wl6 fl (by rw [r0.length]; decide) (ih0 rfl) fun G7 H7 H7' st7 e7 a7 => ?_
      have wm7 : Own G7 H7' m (.lst ys) := by
        rw [e7]
        exact (wm6.step0 st7).mut fun e => ne e.symm
      refine q_appX a7 wm7 fm (by rw [r1.length]; decide) (ih1 rfl) fun G8 H8 H8' st8 e8 a8 => ?_
      have la : PyData.canLay0 (.str "a") = true := by decide +kernel
      have lk : LikeD 4 (.list [.int 1, .list [.tuple [.int 0, .int 0, .str "a", .int 0]], .list [.tuple [.int 0, .int 0, .int 1]], .int 1]) := like_lst (by show 4 ≤ 100000; decide) fun d hd => by
        simp only [List.mem_cons, List.not_mem_nil, or_false] at hd
        rcases hd with rfl | rfl | rfl | rfl
        · exact like_int _ _
        · refine like_lst (by show 1 ≤ 100000; decide) fun d hd => ?_
          rw [List.mem_singleton.mp hd]
          refine like_tup (by show 4 ≤ 100000; decide) fun d hd => ?_
          simp only [List.mem_cons, List.not_mem_nil, or_false] at hd
          rcases hd with rfl | rfl | rfl | rfl
          · exact like_int _ _
          · exact like_int _ _
          · exact like_str _ la
          · exact like_int _ _
        · refine like_lst (by show 1 ≤ 100000; decide) fun d hd => ?_
          rw [List.mem_singleton.mp hd]
          refine like_tup (by show 3 ≤ 100000; decide) fun d hd => ?_
          simp only [List.mem_cons, List.not_mem_nil, or_false] at hd
          rcases hd with rfl | rfl | rfl
          · exact like_int _ _
          · exact like_int _ _
          · exact like_int _ _
        · exact like_int _ _
      refine s_ret a8 (xe_call (φ := dat (.bool true)) (xa_cons (xe_lst (ds := [.int 1, .list [.tuple [.int 0, .int 0, .str "a", .int 0]], .list [.tuple [.int 0, .int 0, .int 1]], .int 1]) (xa_cons (xe_fld (i := 0) (xe_var rfl) T.c_Plan T.n_p1 (by decide +kernel) rfl) (xa_cons (xe_rows rfl) (xa_cons (xe_ranks rfl) (xa_cons (xe_cb (xa_cons (xe_var rfl) xa_nil) (xc_plen (by decide))) xa_nil)))) (by show 4 ≤ 1000; decide))
        (xa_cons (xe_lst (ds := [.int 1, .list [.tuple [.int 0, .int 0, .str "a", .int 0]], .list [.tuple [.int 0, .int 0, .int 1]], .int 1]) (xa_cons xe_int (xa_cons (xe_lst1 (xe_tup (ds := [.int 0, .int 0, .str "a", .int 0]) (xa_cons xe_int (xa_cons xe_int (xa_cons xe_str (xa_cons xe_int xa_nil)))) (by show 4 ≤ 1000; decide))) (xa_cons (xe_lst1 (xe_tup (ds := [.int 0, .int 0, .int 1]) (xa_cons xe_int (xa_cons xe_int (xa_cons xe_int xa_nil))) (by show 3 ≤ 1000; decide))) (xa_cons xe_int xa_nil)))) (by show 4 ≤ 1000; decide)) xa_nil)) fun vs H Q h => ⟨_, lk, h⟩) fun v9 G9 H9 st9 _ p9 => ?_
      rw [Rp.bl_inv p9]
      exact k _
end
end Ls
/-! Fin -/
set_option maxHeartbeats 2000000
/-! All defs keep their promises; the statement. Printed by gen_fin.py. -/
namespace Ls
open PySem PySem.Spec PyProof.Rows L2
section
variable {P : Program} {w : World} {K : PySem.W.Frag} {h : Heap} {mg : Str → Option Value} {base : Heap}
theorem fx_of (X : K.In h) (G : h.Ns mainGlobals mg) (c : He.SaysD fa fn K) : Fx K mg where
  b_isinstance := He.free_ok X G (c.fact 30 (f := .free "isinstance") rfl)
  b_int := He.free_ok X G (c.fact 31 (f := .free "int") rfl)
  b_bool := He.free_ok X G (c.fact 32 (f := .free "bool") rfl)
  b_str := He.free_ok X G (c.fact 33 (f := .free "str") rfl)
  b_len := He.free_ok X G (c.fact 34 (f := .free "len") rfl)
  b_all := He.free_ok X G (c.fact 35 (f := .free "all") rfl)
  b_any := He.free_ok X G (c.fact 36 (f := .free "any") rfl)
  b_range := He.free_ok X G (c.fact 37 (f := .free "range") rfl)
  b_enumerate := He.free_ok X G (c.fact 38 (f := .free "enumerate") rfl)
  b_sorted := He.free_ok X G (c.fact 39 (f := .free "sorted") rfl)
  b_list := He.free_ok X G (c.fact 40 (f := .free "list") rfl)
  b_tuple := He.free_ok X G (c.fact 41 (f := .free "tuple") rfl)
  b_min := He.free_ok X G (c.fact 42 (f := .free "min") rfl)
  b_max := He.free_ok X G (c.fact 43 (f := .free "max") rfl)
  b_set := He.free_ok X G (c.fact 44 (f := .free "set") rfl)
  b_repr := He.free_ok X G (c.fact 45 (f := .free "repr") rfl)
  b_zip := He.free_ok X G (c.fact 46 (f := .free "zip") rfl)
  mMS := He.int_ok X G (c.fact 48 (f := .int "MOST_STATES" 65) rfl)
  mMN := He.int_ok X G (c.fact 49 (f := .int "MOST_NODES" 20000) rfl)
  mLET := He.str_ok X G (c.fact 50 (f := .str "LETTERS" "abcdefghijklmnopqrstuvwxyz") rfl)
  mSAFE := He.str_ok X G (c.fact 51 (f := .str "SAFE" "safe") rfl)
  mSLIP := He.str_ok X G (c.fact 52 (f := .str "SLIP" "slip") rfl)
  c_Automaton := He.cls_ok (c.fact 53 (f := .cls "Automaton") rfl)
  c_Board := He.cls_ok (c.fact 62 (f := .cls "Board") rfl)
  c_Plan := He.cls_ok (c.fact 71 (f := .cls "Plan") rfl)
  n_a1 := He.noat_ok (c.fact 54 (f := .noat "Automaton" "alphabet") rfl)
  n_a2 := He.noat_ok (c.fact 55 (f := .noat "Automaton" "size") rfl)
  n_a3 := He.noat_ok (c.fact 56 (f := .noat "Automaton" "initial") rfl)
  n_a4 := He.noat_ok (c.fact 57 (f := .noat "Automaton" "own_moves") rfl)
  n_b1 := He.noat_ok (c.fact 63 (f := .noat "Board" "own_owners") rfl)
  n_b2 := He.noat_ok (c.fact 64 (f := .noat "Board" "own_moves") rfl)
  n_p1 := He.noat_ok (c.fact 72 (f := .noat "Plan" "player") rfl)
  n_p2 := He.noat_ok (c.fact 73 (f := .noat "Plan" "own_rows") rfl)
  n_p3 := He.noat_ok (c.fact 74 (f := .noat "Plan" "own_ranks") rfl)
theorem law_of (X : K.In h) (G : h.Ns mainGlobals mg) (c : He.SaysD fa fn K) : ∃ fd : FuncData, (∀ (s : Shared) (v : Value), BindsTo s fd ⟨[v], []⟩ [("_law_script", v)]) ∧ ∀ base : Heap, FnOk P w K mg base CX0 8 (He.ga K "law") fd ["_law_script"] (sp_law K) := by
  have T := fx_of X G c
  obtain ⟨fd_is_number, D_is_number⟩ := c.def_ 0 (d := d_is_number) rfl
  obtain ⟨fd_is_word, D_is_word⟩ := c.def_ 1 (d := d_is_word) rfl
  obtain ⟨fd_is_alphabet, D_is_alphabet⟩ := c.def_ 2 (d := d_is_alphabet) rfl
  obtain ⟨fd_is_transition, D_is_transition⟩ := c.def_ 3 (d := d_is_transition) rfl
  obtain ⟨fd_a_init, D_a_init⟩ := c.def_ 4 (d := d_a_init) rfl
  obtain ⟨fd_a_check_state, D_a_check_state⟩ := c.def_ 5 (d := d_a_check_state) rfl
  obtain ⟨fd_a_check_letter, D_a_check_letter⟩ := c.def_ 6 (d := d_a_check_letter) rfl
  obtain ⟨fd_a_moves, D_a_moves⟩ := c.def_ 7 (d := d_a_moves) rfl
  obtain ⟨fd_calm_positions, D_calm_positions⟩ := c.def_ 8 (d := d_calm_positions) rfl
  obtain ⟨fd_first_ranks, D_first_ranks⟩ := c.def_ 9 (d := d_first_ranks) rfl
  obtain ⟨fd_reply_of, D_reply_of⟩ := c.def_ 10 (d := d_reply_of) rfl
  obtain ⟨fd_forced, D_forced⟩ := c.def_ 11 (d := d_forced) rfl
  obtain ⟨fd_second_table, D_second_table⟩ := c.def_ 12 (d := d_second_table) rfl
  obtain ⟨fd_b_init, D_b_init⟩ := c.def_ 13 (d := d_b_init) rfl
  obtain ⟨fd_b_is_move, D_b_is_move⟩ := c.def_ 14 (d := d_b_is_move) rfl
  obtain ⟨fd_b_check_node, D_b_check_node⟩ := c.def_ 15 (d := d_b_check_node) rfl
  obtain ⟨fd_b_owner, D_b_owner⟩ := c.def_ 16 (d := d_b_owner) rfl
  obtain ⟨fd_b_moves_of, D_b_moves_of⟩ := c.def_ 17 (d := d_b_moves_of) rfl
  obtain ⟨fd_b_letters, D_b_letters⟩ := c.def_ 18 (d := d_b_letters) rfl
  obtain ⟨fd_board_options, D_board_options⟩ := c.def_ 19 (d := d_board_options) rfl
  obtain ⟨fd_winner, D_winner⟩ := c.def_ 20 (d := d_winner) rfl
  obtain ⟨fd_p_init, D_p_init⟩ := c.def_ 21 (d := d_p_init) rfl
  obtain ⟨fd_p_rows, D_p_rows⟩ := c.def_ 22 (d := d_p_rows) rfl
  obtain ⟨fd_p_ranks, D_p_ranks⟩ := c.def_ 23 (d := d_p_ranks) rfl
  obtain ⟨fd_p_len, D_p_len⟩ := c.def_ 24 (d := d_p_len) rfl
  obtain ⟨fd_p_repr, D_p_repr⟩ := c.def_ 25 (d := d_p_repr) rfl
  obtain ⟨fd_plan, D_plan⟩ := c.def_ 26 (d := d_plan) rfl
  obtain ⟨fd_l_draws, D_l_draws⟩ := c.def_ 27 (d := d_l_draws) rfl
  obtain ⟨fd_l_pull, D_l_pull⟩ := c.def_ 28 (d := d_l_pull) rfl
  obtain ⟨fd_l_any, D_l_any⟩ := c.def_ 29 (d := d_l_any) rfl
  obtain ⟨fd_l_mixed, D_l_mixed⟩ := c.def_ 30 (d := d_l_mixed) rfl
  obtain ⟨fd_l_like, D_l_like⟩ := c.def_ 31 (d := d_l_like) rfl
  obtain ⟨fd_l_alphabet, D_l_alphabet⟩ := c.def_ 32 (d := d_l_alphabet) rfl
  obtain ⟨fd_l_rows, D_l_rows⟩ := c.def_ 33 (d := d_l_rows) rfl
  obtain ⟨fd_l_spec, D_l_spec⟩ := c.def_ 34 (d := d_l_spec) rfl
  obtain ⟨fd_l_made, D_l_made⟩ := c.def_ 35 (d := d_l_made) rfl
  obtain ⟨fd_l_steps, D_l_steps⟩ := c.def_ 36 (d := d_l_steps) rfl
  obtain ⟨fd_l_harmful, D_l_harmful⟩ := c.def_ 37 (d := d_l_harmful) rfl
  obtain ⟨fd_l_board, D_l_board⟩ := c.def_ 38 (d := d_l_board) rfl
  obtain ⟨fd_l_first_plan, D_l_first_plan⟩ := c.def_ 39 (d := d_l_first_plan) rfl
  obtain ⟨fd_l_second_plan, D_l_second_plan⟩ := c.def_ 40 (d := d_l_second_plan) rfl
  obtain ⟨fd_law, D_law⟩ := c.def_ 41 (d := d_law) rfl
  have B_is_number : Binds K fd_is_number ["value", "least", "most"] [] := FunD.bindsN D_is_number fun _ _ _ _ _ _ us hl => match us, hl with | [_, _, _], _ => rfl
  obtain ⟨ds_is_word, V_is_word, B_is_word⟩ := FunD.binds1 (ps := ["value", "most"]) D_is_word 1 0 (by intro z; cases z) rfl fun _ _ _ _ _ _ _ us its h1 h2 => match us, its, h1, h2 with | [_], [_], _, _ => ⟨_, rfl, rfl⟩
  have B_is_alphabet : Binds K fd_is_alphabet ["value"] [] := FunD.bindsN D_is_alphabet fun _ _ _ _ _ _ us hl => match us, hl with | [_], _ => rfl
  have B_is_transition : Binds K fd_is_transition ["value", "alphabet", "size"] [] := FunD.bindsN D_is_transition fun _ _ _ _ _ _ us hl => match us, hl with | [_, _, _], _ => rfl
  obtain ⟨mv_a, B_a_init⟩ := FunD.kbinds0 (ps := ["self", "alphabet", "size", "transitions", "initial"]) D_a_init 4 ["initial"] [] (fun us _ ws => us ++ ws) (by intro z; cases z) (by intro q hq; cases hq) (fun r1 _ r3 => Vals.append r1 r3) fun _ _ _ _ _ _ us mv ws h1 h2 h3 => match us, mv, ws, h1, h2, h3 with | [_, _, _, _], [], [_], _, _, _ => rfl
  have B_a_check_state : Binds K fd_a_check_state ["self", "state"] [] := FunD.bindsN D_a_check_state fun _ _ _ _ _ _ us hl => match us, hl with | [_, _], _ => rfl
  have B_a_check_letter : Binds K fd_a_check_letter ["self", "letter"] [] := FunD.bindsN D_a_check_letter fun _ _ _ _ _ _ us hl => match us, hl with | [_, _], _ => rfl
  have B_a_moves : Binds K fd_a_moves ["self", "state", "letter"] [] := FunD.bindsN D_a_moves fun _ _ _ _ _ _ us hl => match us, hl with | [_, _, _], _ => rfl
  have B_calm_positions : Binds K fd_calm_positions ["options", "resets", "slips"] [] := FunD.bindsN D_calm_positions fun _ _ _ _ _ _ us hl => match us, hl with | [_, _, _], _ => rfl
  have B_first_ranks : Binds K fd_first_ranks ["options"] [] := FunD.bindsN D_first_ranks fun _ _ _ _ _ _ us hl => match us, hl with | [_], _ => rfl
  have B_reply_of : Binds K fd_reply_of ["options", "ranks", "at", "challenge"] [] := FunD.bindsN D_reply_of fun _ _ _ _ _ _ us hl => match us, hl with | [_, _, _, _], _ => rfl
  have B_forced : Binds K fd_forced ["options", "lots", "old"] [] := FunD.bindsN D_forced fun _ _ _ _ _ _ us hl => match us, hl with | [_, _, _], _ => rfl
  have B_second_table : Binds K fd_second_table ["options"] [] := FunD.bindsN D_second_table fun _ _ _ _ _ _ us hl => match us, hl with | [_], _ => rfl
  have B_b_init : Binds K fd_b_init ["self", "owners", "moves"] [] := FunD.bindsN D_b_init fun _ _ _ _ _ _ us hl => match us, hl with | [_, _, _], _ => rfl
  have B_b_is_move : Binds K fd_b_is_move ["self", "row"] [] := FunD.bindsN D_b_is_move fun _ _ _ _ _ _ us hl => match us, hl with | [_, _], _ => rfl
  have B_b_check_node : Binds K fd_b_check_node ["self", "node"] [] := FunD.bindsN D_b_check_node fun _ _ _ _ _ _ us hl => match us, hl with | [_, _], _ => rfl
  have B_b_owner : Binds K fd_b_owner ["self", "node"] [] := FunD.bindsN D_b_owner fun _ _ _ _ _ _ us hl => match us, hl with | [_, _], _ => rfl
  have B_b_moves_of : Binds K fd_b_moves_of ["self", "node"] [] := FunD.bindsN D_b_moves_of fun _ _ _ _ _ _ us hl => match us, hl with | [_, _], _ => rfl
  have B_b_letters : Binds K fd_b_letters ["self"] [] := FunD.bindsN D_b_letters fun _ _ _ _ _ _ us hl => match us, hl with | [_], _ => rfl
  have B_board_options : Binds K fd_board_options ["board", "automaton", "start"] [] := FunD.bindsN D_board_options fun _ _ _ _ _ _ us hl => match us, hl with | [_, _, _], _ => rfl
  obtain ⟨ds_winner, V_winner, B_winner⟩ := FunD.binds1 (ps := ["board", "automaton", "start"]) D_winner 3 1 (by intro z; cases z) rfl fun _ _ _ _ _ _ _ us its h1 h2 => match us, its, h1, h2 with | [_, _, _], [_], _, _ => ⟨_, rfl, rfl⟩
  cases V_winner
  have B_p_init : Binds K fd_p_init ["self", "player", "rows", "ranks"] [] := FunD.bindsN D_p_init fun _ _ _ _ _ _ us hl => match us, hl with | [_, _, _, _], _ => rfl
  have B_p_rows : Binds K fd_p_rows ["self"] [] := FunD.bindsN D_p_rows fun _ _ _ _ _ _ us hl => match us, hl with | [_], _ => rfl
  have B_p_ranks : Binds K fd_p_ranks ["self"] [] := FunD.bindsN D_p_ranks fun _ _ _ _ _ _ us hl => match us, hl with | [_], _ => rfl
  have B_p_len : Binds K fd_p_len ["self"] [] := FunD.bindsN D_p_len fun _ _ _ _ _ _ us hl => match us, hl with | [_], _ => rfl
  have B_p_repr : Binds K fd_p_repr ["self"] [] := FunD.bindsN D_p_repr fun _ _ _ _ _ _ us hl => match us, hl with | [_], _ => rfl
  obtain ⟨ds_plan, V_plan, B_plan⟩ := FunD.binds1 (ps := ["board", "automaton", "start"]) D_plan 3 1 (by intro z; cases z) rfl fun _ _ _ _ _ _ _ us its h1 h2 => match us, its, h1, h2 with | [_, _, _], [_], _, _ => ⟨_, rfl, rfl⟩
  cases V_plan
  have B_l_draws : Binds K fd_l_draws ["_law_script"] [] := FunD.bindsN D_l_draws fun _ _ _ _ _ _ us hl => match us, hl with | [_], _ => rfl
  have B_l_pull : Binds K fd_l_pull ["_law_bag", "_law_sides"] [] := FunD.bindsN D_l_pull fun _ _ _ _ _ _ us hl => match us, hl with | [_, _], _ => rfl
  have B_l_any : Binds K fd_l_any ["_law_bag", "_law_rows_here"] [] := FunD.bindsN D_l_any fun _ _ _ _ _ _ us hl => match us, hl with | [_, _], _ => rfl
  have B_l_mixed : Binds K fd_l_mixed ["_law_bag", "_law_rows_here"] [] := FunD.bindsN D_l_mixed fun _ _ _ _ _ _ us hl => match us, hl with | [_, _], _ => rfl
  have B_l_like : Binds K fd_l_like ["_law_a", "_law_b"] [] := FunD.bindsN D_l_like fun _ _ _ _ _ _ us hl => match us, hl with | [_, _], _ => rfl
  have B_l_alphabet : Binds K fd_l_alphabet ["_law_bag", "_law_most"] [] := FunD.bindsN D_l_alphabet fun _ _ _ _ _ _ us hl => match us, hl with | [_, _], _ => rfl
  have B_l_rows : Binds K fd_l_rows ["_law_bag", "_law_alphabet_here", "_law_size", "_law_guesses", "_law_safe"] [] := FunD.bindsN D_l_rows fun _ _ _ _ _ _ us hl => match us, hl with | [_, _, _, _, _], _ => rfl
  have B_l_spec : Binds K fd_l_spec ["_law_bag", "_law_most", "_law_guesses"] [] := FunD.bindsN D_l_spec fun _ _ _ _ _ _ us hl => match us, hl with | [_, _, _], _ => rfl
  have B_l_made : Binds K fd_l_made ["_law_spec_here"] [] := FunD.bindsN D_l_made fun _ _ _ _ _ _ us hl => match us, hl with | [_], _ => rfl
  have B_l_steps : Binds K fd_l_steps ["_law_spec_here"] [] := FunD.bindsN D_l_steps fun _ _ _ _ _ _ us hl => match us, hl with | [_], _ => rfl
  have B_l_harmful : Binds K fd_l_harmful ["_law_bag"] [] := FunD.bindsN D_l_harmful fun _ _ _ _ _ _ us hl => match us, hl with | [_], _ => rfl
  have B_l_board : Binds K fd_l_board ["_law_bag", "_law_alphabet_here", "_law_most"] [] := FunD.bindsN D_l_board fun _ _ _ _ _ _ us hl => match us, hl with | [_, _, _], _ => rfl
  have B_l_first_plan : Binds K fd_l_first_plan ["_law_spec_here", "_law_owners", "_law_moves", "_law_rows_here", "_law_high"] [] := FunD.bindsN D_l_first_plan fun _ _ _ _ _ _ us hl => match us, hl with | [_, _, _, _, _], _ => rfl
  have B_l_second_plan : Binds K fd_l_second_plan ["_law_spec_here", "_law_owners", "_law_moves", "_law_rows_here", "_law_high"] [] := FunD.bindsN D_l_second_plan fun _ _ _ _ _ _ us hl => match us, hl with | [_, _, _, _, _], _ => rfl
  refine ⟨fd_law, fun s v => FunD.bindsA (ps := ["_law_script"]) D_law (fun _ _ _ _ _ _ us hl => match us, hl with | [_], _ => rfl) s [v] rfl, fun base => ?_⟩
  have F_is_number : Fn P w K mg base "is_number" 1 ["value", "least", "most"] [] sp_is_number := ⟨_, _, _, ok_is_number (P := P) (w := w) (base := base) D_is_number (T := T), He.glo_ok X G (c.fact 0 (f := .glo "is_number") rfl), FunD.kp D_is_number, B_is_number, .nil⟩
  have F_is_word : Fn P w K mg base "is_word" 1 ["value", "most"] [.int 200] sp_is_word := ⟨_, _, ds_is_word, ok_is_word (P := P) (w := w) (base := base) D_is_word (T := T), He.glo_ok X G (c.fact 1 (f := .glo "is_word") rfl), FunD.kp D_is_word, B_is_word, V_is_word⟩
  have F_is_alphabet : Fn P w K mg base "is_alphabet" 2 ["value"] [] sp_is_alphabet := ⟨_, _, _, ok_is_alphabet (P := P) (w := w) (base := base) D_is_alphabet (T := T) (F_is_word := F_is_word), He.glo_ok X G (c.fact 2 (f := .glo "is_alphabet") rfl), FunD.kp D_is_alphabet, B_is_alphabet, .nil⟩
  have F_is_transition : Fn P w K mg base "is_transition" 2 ["value", "alphabet", "size"] [] sp_is_transition := ⟨_, _, _, ok_is_transition (P := P) (w := w) (base := base) D_is_transition (T := T) (F_is_number := F_is_number), He.glo_ok X G (c.fact 3 (f := .glo "is_transition") rfl), FunD.kp D_is_transition, B_is_transition, .nil⟩
  have M_Automaton : Mck P w K mg base "Automaton" (He.ga K "Automaton") 3 3 ["initial"] ["self", "alphabet", "size", "transitions", "initial"] (sp_a_init K) := ⟨_, _, _, He.mkr_ok (c.fact 61 (f := .mkr "Automaton") rfl), ok_a_init (P := P) (w := w) (base := base) D_a_init (T := T) (F_is_alphabet := F_is_alphabet) (F_is_number := F_is_number) (F_is_transition := F_is_transition), He.glo_ok X G (c.fact 4 (f := .glo "Automaton") rfl), B_a_init⟩
  have M_a_check_state : Md P w K mg base (He.ga K "Automaton") "check_state" 2 ["self", "state"] (sp_a_check_state K) := ⟨_, _, ok_a_check_state (P := P) (w := w) (base := base) D_a_check_state (T := T) (F_is_number := F_is_number), He.meth_ok (c.fact 58 (f := .meth "Automaton" "check_state") rfl), B_a_check_state⟩
  have M_a_check_letter : Md P w K mg base (He.ga K "Automaton") "check_letter" 1 ["self", "letter"] (sp_a_check_letter K) := ⟨_, _, ok_a_check_letter (P := P) (w := w) (base := base) D_a_check_letter (T := T), He.meth_ok (c.fact 59 (f := .meth "Automaton" "check_letter") rfl), B_a_check_letter⟩
  have M_a_moves : Md P w K mg base (He.ga K "Automaton") "moves" 3 ["self", "state", "letter"] (sp_a_moves K) := ⟨_, _, ok_a_moves (P := P) (w := w) (base := base) D_a_moves (T := T) (M_a_check_state := M_a_check_state) (M_a_check_letter := M_a_check_letter), He.meth_ok (c.fact 60 (f := .meth "Automaton" "moves") rfl), B_a_moves⟩
  have F_calm_positions : Fn P w K mg base "calm_positions" 1 ["options", "resets", "slips"] [] sp_calm := ⟨_, _, _, ok_calm (P := P) (w := w) (base := base) D_calm_positions (T := T), He.glo_ok X G (c.fact 5 (f := .glo "calm_positions") rfl), FunD.kp D_calm_positions, B_calm_positions, .nil⟩
  have F_first_ranks : Fn P w K mg base "first_ranks" 2 ["options"] [] sp_first_ranks := ⟨_, _, _, ok_first_ranks (P := P) (w := w) (base := base) D_first_ranks (T := T) (F_calm_positions := F_calm_positions), He.glo_ok X G (c.fact 6 (f := .glo "first_ranks") rfl), FunD.kp D_first_ranks, B_first_ranks, .nil⟩
  have F_reply_of : Fn P w K mg base "reply_of" 1 ["options", "ranks", "at", "challenge"] [] sp_reply_of := ⟨_, _, _, ok_reply_of (P := P) (w := w) (base := base) D_reply_of (T := T), He.glo_ok X G (c.fact 7 (f := .glo "reply_of") rfl), FunD.kp D_reply_of, B_reply_of, .nil⟩
  have F_forced : Fn P w K mg base "forced" 1 ["options", "lots", "old"] [] sp_forced := ⟨_, _, _, ok_forced (P := P) (w := w) (base := base) D_forced (T := T), He.glo_ok X G (c.fact 8 (f := .glo "forced") rfl), FunD.kp D_forced, B_forced, .nil⟩
  have F_second_table : Fn P w K mg base "second_table" 2 ["options"] [] sp_second_table := ⟨_, _, _, ok_second_table (P := P) (w := w) (base := base) D_second_table (T := T) (F_forced := F_forced), He.glo_ok X G (c.fact 9 (f := .glo "second_table") rfl), FunD.kp D_second_table, B_second_table, .nil⟩
  have M_b_is_move : Md P w K mg base (He.ga K "Board") "is_move" 2 ["self", "row"] (sp_b_is_move K) := ⟨_, _, ok_b_is_move (P := P) (w := w) (base := base) D_b_is_move (T := T) (F_is_number := F_is_number), He.meth_ok (c.fact 65 (f := .meth "Board" "is_move") rfl), B_b_is_move⟩
  have M_b_check_node : Md P w K mg base (He.ga K "Board") "check_node" 2 ["self", "node"] (sp_b_check_node K) := ⟨_, _, ok_b_check_node (P := P) (w := w) (base := base) D_b_check_node (T := T) (F_is_number := F_is_number), He.meth_ok (c.fact 66 (f := .meth "Board" "check_node") rfl), B_b_check_node⟩
  have M_b_owner : Md P w K mg base (He.ga K "Board") "owner" 3 ["self", "node"] (sp_b_owner K) := ⟨_, _, ok_b_owner (P := P) (w := w) (base := base) D_b_owner (T := T) (M_b_check_node := M_b_check_node), He.meth_ok (c.fact 67 (f := .meth "Board" "owner") rfl), B_b_owner⟩
  have M_b_moves_of : Md P w K mg base (He.ga K "Board") "moves_of" 3 ["self", "node"] (sp_b_moves_of K) := ⟨_, _, ok_b_moves_of (P := P) (w := w) (base := base) D_b_moves_of (T := T) (M_b_check_node := M_b_check_node), He.meth_ok (c.fact 68 (f := .meth "Board" "moves_of") rfl), B_b_moves_of⟩
  have M_Board : Mc P w K mg base "Board" (He.ga K "Board") 3 ["self", "owners", "moves"] (sp_b_init K) := ⟨_, _, He.mkr_ok (c.fact 70 (f := .mkr "Board") rfl), ok_b_init (P := P) (w := w) (base := base) D_b_init (T := T) (F_is_number := F_is_number) (M_b_is_move := M_b_is_move), He.glo_ok X G (c.fact 10 (f := .glo "Board") rfl), B_b_init⟩
  have M_b_letters : Md P w K mg base (He.ga K "Board") "letters" 1 ["self"] (sp_b_letters K) := ⟨_, _, ok_b_letters (P := P) (w := w) (base := base) D_b_letters (T := T), He.meth_ok (c.fact 69 (f := .meth "Board" "letters") rfl), B_b_letters⟩
  have F_board_options : Fn P w K mg base "board_options" 4 ["board", "automaton", "start"] [] (sp_board_options K) := ⟨_, _, _, ok_board_options (P := P) (w := w) (base := base) D_board_options (T := T) (M_b_moves_of := M_b_moves_of) (M_b_owner := M_b_owner) (M_a_moves := M_a_moves), He.glo_ok X G (c.fact 11 (f := .glo "board_options") rfl), FunD.kp D_board_options, B_board_options, .nil⟩
  have F_winner : Fn P w K mg base "winner" 5 ["board", "automaton", "start"] [] (sp_winner K) := ⟨_, _, _, ok_winner (P := P) (w := w) (base := base) D_winner (T := T) (M_b_check_node := M_b_check_node) (M_b_letters := M_b_letters) (M_a_check_letter := M_a_check_letter) (F_first_ranks := F_first_ranks) (F_board_options := F_board_options), He.glo_ok X G (c.fact 12 (f := .glo "winner") rfl), FunD.kp D_winner, B_winner, .nil⟩
  have M_Plan : Mc P w K mg base "Plan" (He.ga K "Plan") 1 ["self", "player", "rows", "ranks"] (sp_p_init K) := ⟨_, _, He.mkr_ok (c.fact 79 (f := .mkr "Plan") rfl), ok_p_init (P := P) (w := w) (base := base) D_p_init (T := T), He.glo_ok X G (c.fact 13 (f := .glo "Plan") rfl), B_p_init⟩
  have M_PlanN : Mc P w K mg base "Plan" (He.ga K "Plan") 1 ["self", "player", "rows", "ranks"] (sp_p_initN K) := ⟨_, _, He.mkr_ok (c.fact 79 (f := .mkr "Plan") rfl), ok_p_initN (P := P) (w := w) (base := base) D_p_init (T := T), He.glo_ok X G (c.fact 13 (f := .glo "Plan") rfl), B_p_init⟩
  have M_p_rows : Md P w K mg base (He.ga K "Plan") "rows" 1 ["self"] (sp_p_rows K) := ⟨_, _, ok_p_rows (P := P) (w := w) (base := base) D_p_rows (T := T), He.meth_ok (c.fact 75 (f := .meth "Plan" "rows") rfl), B_p_rows⟩
  have M_p_rowsN : Md P w K mg base (He.ga K "Plan") "rows" 1 ["self"] (sp_p_rowsN K) := ⟨_, _, ok_p_rowsN (P := P) (w := w) (base := base) D_p_rows (T := T), He.meth_ok (c.fact 75 (f := .meth "Plan" "rows") rfl), B_p_rows⟩
  have M_p_ranks : Md P w K mg base (He.ga K "Plan") "ranks" 1 ["self"] (sp_p_ranks K) := ⟨_, _, ok_p_ranks (P := P) (w := w) (base := base) D_p_ranks (T := T), He.meth_ok (c.fact 76 (f := .meth "Plan" "ranks") rfl), B_p_ranks⟩
  have M_p_ranksN : Md P w K mg base (He.ga K "Plan") "ranks" 1 ["self"] (sp_p_ranksN K) := ⟨_, _, ok_p_ranksN (P := P) (w := w) (base := base) D_p_ranks (T := T), He.meth_ok (c.fact 76 (f := .meth "Plan" "ranks") rfl), B_p_ranks⟩
  have M_p_len : Md P w K mg base (He.ga K "Plan") "__len__" 1 ["self"] (sp_p_len K) := ⟨_, _, ok_p_len (P := P) (w := w) (base := base) D_p_len (T := T), He.meth_ok (c.fact 77 (f := .meth "Plan" "__len__") rfl), B_p_len⟩
  have M_p_repr : Md P w K mg base (He.ga K "Plan") "__repr__" 1 ["self"] (sp_p_repr K) := ⟨_, _, ok_p_repr (P := P) (w := w) (base := base) D_p_repr (T := T), He.meth_ok (c.fact 78 (f := .meth "Plan" "__repr__") rfl), B_p_repr⟩
  have F_plan : Fn P w K mg base "plan" 6 ["board", "automaton", "start"] [] (sp_plan K) := ⟨_, _, _, ok_plan (P := P) (w := w) (base := base) D_plan (T := T) (F_winner := F_winner) (F_board_options := F_board_options) (F_first_ranks := F_first_ranks) (F_reply_of := F_reply_of) (F_second_table := F_second_table) (M_b_owner := M_b_owner) (M_Plan := M_Plan), He.glo_ok X G (c.fact 14 (f := .glo "plan") rfl), FunD.kp D_plan, B_plan, .nil⟩
  have F_l_draws : Fn P w K mg base "_law_draws" 1 ["_law_script"] [] (sp_l_draws K) := ⟨_, _, _, ok_l_draws (P := P) (w := w) (base := base) D_l_draws (T := T), He.glo_ok X G (c.fact 15 (f := .glo "_law_draws") rfl), FunD.kp D_l_draws, B_l_draws, .nil⟩
  have F_l_pull : Fn P w K mg base "_law_pull" 1 ["_law_bag", "_law_sides"] [] sp_l_pull := ⟨_, _, _, ok_l_pull (P := P) (w := w) (base := base) D_l_pull (T := T), He.glo_ok X G (c.fact 16 (f := .glo "_law_pull") rfl), FunD.kp D_l_pull, B_l_pull, .nil⟩
  have F_l_any : Fn P w K mg base "_law_any" 2 ["_law_bag", "_law_rows_here"] [] sp_l_any := ⟨_, _, _, ok_l_any (P := P) (w := w) (base := base) D_l_any (T := T) (F_l_pull := F_l_pull), He.glo_ok X G (c.fact 17 (f := .glo "_law_any") rfl), FunD.kp D_l_any, B_l_any, .nil⟩
  have F_l_mixed : Fn P w K mg base "_law_mixed" 2 ["_law_bag", "_law_rows_here"] [] sp_l_mixed := ⟨_, _, _, ok_l_mixed (P := P) (w := w) (base := base) D_l_mixed (T := T) (F_l_pull := F_l_pull), He.glo_ok X G (c.fact 18 (f := .glo "_law_mixed") rfl), FunD.kp D_l_mixed, B_l_mixed, .nil⟩
  have F_l_like0 : Fn P w K mg base "_law_like" 1 ["_law_a", "_law_b"] [] (sp_l_like 0) := ⟨_, _, _, ok_l_like0 (k := 0) (P := P) (w := w) (base := base) D_l_like, He.glo_ok X G (c.fact 19 (f := .glo "_law_like") rfl), FunD.kp D_l_like, B_l_like, .nil⟩
  have F_l_like1 : Fn P w K mg base "_law_like" 2 ["_law_a", "_law_b"] [] (sp_l_like 1) := ⟨_, _, _, ok_l_like (k := 1) (n := 0) (P := P) (w := w) (base := base) D_l_like T F_l_like0, He.glo_ok X G (c.fact 19 (f := .glo "_law_like") rfl), FunD.kp D_l_like, B_l_like, .nil⟩
  have F_l_like2 : Fn P w K mg base "_law_like" 3 ["_law_a", "_law_b"] [] (sp_l_like 2) := ⟨_, _, _, ok_l_like (k := 2) (n := 1) (P := P) (w := w) (base := base) D_l_like T F_l_like1, He.glo_ok X G (c.fact 19 (f := .glo "_law_like") rfl), FunD.kp D_l_like, B_l_like, .nil⟩
  have F_l_like3 : Fn P w K mg base "_law_like" 4 ["_law_a", "_law_b"] [] (sp_l_like 3) := ⟨_, _, _, ok_l_like (k := 3) (n := 2) (P := P) (w := w) (base := base) D_l_like T F_l_like2, He.glo_ok X G (c.fact 19 (f := .glo "_law_like") rfl), FunD.kp D_l_like, B_l_like, .nil⟩
  have F_l_like4 : Fn P w K mg base "_law_like" 5 ["_law_a", "_law_b"] [] (sp_l_like 4) := ⟨_, _, _, ok_l_like (k := 4) (n := 3) (P := P) (w := w) (base := base) D_l_like T F_l_like3, He.glo_ok X G (c.fact 19 (f := .glo "_law_like") rfl), FunD.kp D_l_like, B_l_like, .nil⟩
  have F_l_alphabet : Fn P w K mg base "_law_alphabet" 3 ["_law_bag", "_law_most"] [] sp_l_alphabet := ⟨_, _, _, ok_l_alphabet (P := P) (w := w) (base := base) D_l_alphabet (T := T) (F_l_pull := F_l_pull) (F_l_any := F_l_any), He.glo_ok X G (c.fact 20 (f := .glo "_law_alphabet") rfl), FunD.kp D_l_alphabet, B_l_alphabet, .nil⟩
  have F_l_rows : Fn P w K mg base "_law_rows" 3 ["_law_bag", "_law_alphabet_here", "_law_size", "_law_guesses", "_law_safe"] [] sp_l_rows := ⟨_, _, _, ok_l_rows (P := P) (w := w) (base := base) D_l_rows (T := T) (F_l_pull := F_l_pull) (F_l_mixed := F_l_mixed), He.glo_ok X G (c.fact 21 (f := .glo "_law_rows") rfl), FunD.kp D_l_rows, B_l_rows, .nil⟩
  have F_l_spec : Fn P w K mg base "_law_spec" 4 ["_law_bag", "_law_most", "_law_guesses"] [] sp_l_spec := ⟨_, _, _, ok_l_spec (P := P) (w := w) (base := base) D_l_spec (T := T) (F_l_pull := F_l_pull) (F_l_any := F_l_any) (F_l_mixed := F_l_mixed) (F_l_alphabet := F_l_alphabet) (F_l_rows := F_l_rows), He.glo_ok X G (c.fact 22 (f := .glo "_law_spec") rfl), FunD.kp D_l_spec, B_l_spec, .nil⟩
  have F_l_made : Fn P w K mg base "_law_made" 5 ["_law_spec_here"] [] (sp_l_made K) := ⟨_, _, _, ok_l_made (P := P) (w := w) (base := base) D_l_made (T := T) (M_Automaton := M_Automaton), He.glo_ok X G (c.fact 23 (f := .glo "_law_made") rfl), FunD.kp D_l_made, B_l_made, .nil⟩
  have F_l_steps : Fn P w K mg base "_law_steps" 1 ["_law_spec_here"] [] sp_l_steps := ⟨_, _, _, ok_l_steps (P := P) (w := w) (base := base) D_l_steps (T := T), He.glo_ok X G (c.fact 24 (f := .glo "_law_steps") rfl), FunD.kp D_l_steps, B_l_steps, .nil⟩
  have F_l_harmful : Fn P w K mg base "_law_harmful" 4 ["_law_bag"] [] sp_l_harmful := ⟨_, _, _, ok_l_harmful (P := P) (w := w) (base := base) D_l_harmful (T := T) (F_l_pull := F_l_pull) (F_l_mixed := F_l_mixed) (F_l_alphabet := F_l_alphabet) (F_l_rows := F_l_rows), He.glo_ok X G (c.fact 25 (f := .glo "_law_harmful") rfl), FunD.kp D_l_harmful, B_l_harmful, .nil⟩
  have F_l_board : Fn P w K mg base "_law_board" 3 ["_law_bag", "_law_alphabet_here", "_law_most"] [] sp_l_board := ⟨_, _, _, ok_l_board (P := P) (w := w) (base := base) D_l_board (T := T) (F_l_pull := F_l_pull) (F_l_any := F_l_any), He.glo_ok X G (c.fact 26 (f := .glo "_law_board") rfl), FunD.kp D_l_board, B_l_board, .nil⟩
  have F_l_first_plan : Fn P w K mg base "_law_first_plan" 2 ["_law_spec_here", "_law_owners", "_law_moves", "_law_rows_here", "_law_high"] [] sp_l_first_plan := ⟨_, _, _, ok_l_first_plan (P := P) (w := w) (base := base) D_l_first_plan (T := T) (F_l_steps := F_l_steps), He.glo_ok X G (c.fact 27 (f := .glo "_law_first_plan") rfl), FunD.kp D_l_first_plan, B_l_first_plan, .nil⟩
  have F_l_second_plan : Fn P w K mg base "_law_second_plan" 2 ["_law_spec_here", "_law_owners", "_law_moves", "_law_rows_here", "_law_high"] [] sp_l_second_plan := ⟨_, _, _, ok_l_second_plan (P := P) (w := w) (base := base) D_l_second_plan (T := T) (F_l_steps := F_l_steps), He.glo_ok X G (c.fact 28 (f := .glo "_law_second_plan") rfl), FunD.kp D_l_second_plan, B_l_second_plan, .nil⟩
  exact ok_law (P := P) (w := w) (base := base) D_law (T := T) (F_l_draws := F_l_draws) (F_l_pull := F_l_pull) (F_l_harmful := F_l_harmful) (F_l_spec := F_l_spec) (F_l_board := F_l_board) (M_Board := M_Board) (F_l_made := F_l_made) (F_plan := F_plan) (M_p_rows := M_p_rowsN) (M_p_ranks := M_p_ranksN) (M_p_len := M_p_len) (M_p_repr := M_p_repr) (F_l_first_plan := F_l_first_plan) (F_l_second_plan := F_l_second_plan) (F_l_like := F_l_like4) (M_Plan := M_PlanN)
end
end Ls
open PySem PySem.W PySem.Calls PyProof.Rows
theorem PySem.Challenge.cw_lastslip_k54_whole_plans_of_winners_hold_holds : PySem.Challenge.rw_lastslip_k54_whole_plans_of_winners_hold.Holds := by
  w_on; o_law
  refine HandSHeadRun.head_any (r := OpenLaw.row PySem.Challenge.rw_lastslip_k54_whole_plans_of_winners_hold) (q := view (OpenLaw.row PySem.Challenge.rw_lastslip_k54_whole_plans_of_winners_hold).prog [53]) (H := Ls.hk) (ob := Ls.ob) (M := 8000) (loose := Ls.loose) (d := HandSHeadRun.topDef (OpenLaw.row PySem.Challenge.rw_lastslip_k54_whole_plans_of_winners_hold).prog 53) (kwd := []) Ls.ob_eq
    (by kernel_rfl) (fun s => by kernel_rfl) Ls.run (by kernel_rfl) (by kernel_rfl) (by kernel_rfl) (by rfl) (by first | assumption | decide +kernel) (by decide +kernel) ⟨rfl, rfl, rfl, rfl, rfl, by decide +kernel⟩ ?hw ?hc
  case hw => w_witness2
  case hc =>
    refine L2.walk_ofE (l := PySem.Challenge.rw_lastslip_k54_whole_plans_of_winners_hold) (n := 63) (k := 8) (x := "_law_script") (CX := L2.CX0) rfl (by decide) (by kernel_rfl) ⟨rfl, by decide, by decide⟩ ?F (fun _ _ _ _ z => z)
    intro w mg fa h Y G hmg0
    obtain ⟨K, KX, c⟩ := Y
    have hmg : mg ("law" : PySem.Str) = some (.ref fa) := by
      have e : (HandSHeadRun.topDef (OpenLaw.row PySem.Challenge.rw_lastslip_k54_whole_plans_of_winners_hold).prog 53).name = ("law" : PySem.Str) := by kernel_rfl
      rw [← e]
      exact hmg0
    obtain ⟨fd, hb, hF⟩ := Ls.law_of (P := (PySem.Challenge.rw_lastslip_k54_whole_plans_of_winners_hold).prog) (w := w) KX G c
    have e := hmg.symm.trans (He.glo_ok KX G (c.fact 29 (f := .glo "law") rfl))
    have e2 : fa = He.ga K "law" := by
      cases e
      rfl
    subst e2
    exact ⟨K, fd, Ls.sp_law K, KX, hb, fun H a ns hl _ hS => ⟨a, ns, rfl, hS, fun _ => rfl⟩, fun base _ _ => hF base⟩
