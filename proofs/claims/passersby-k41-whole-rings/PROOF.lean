import PyProof.Rows.All
import Wide.All
import OpenK.AllK
import Wide.FinOn
import KE.KStateDown
import Lean
import HandS.ForMost
import HandS.Defaults
import HandS.HeadEnd
import HandS.HeadHook1
import HandS.HeadHook2
import HandS.Head0
import HandS.Head1
import HandS.Head2
import PySem.Challenge.RW_passersby_k41_whole_rings_and_answers
import KE.GoesEnum
import HandS.Walk
import KE.KDictDisplayH
import KE.KDictPairs
import HandS.DictTup
import KE.SortData
import HandS.More
import HandS.Conv
import HandS.SetFor
import HandS.Codes
import HandS.IsInst
import HandS.NoneIn
import HandS.Style
import HandS.TupLen
import HandS.Deep
import HandS.SortInts
import HandS.TupAny
import HandS.Flow
import HandS.Small
import OpenK.KEqL
set_option Elab.async false
set_option linter.all false
set_option maxRecDepth 100000
set_option maxHeartbeats 4000000
/-! the text by places -/
namespace Pb
open PySem PySem.Spec PyProof.Rows L2
def topS (i : Nat) : Stmt := PySem.Challenge.pw_passersby_k41_whole_rings_and_answers.main.body.getD i (.Pass ⟨0, 0, 0, 0⟩)
abbrev s_is_whole : Stmt := topS 6
abbrev s_begun : Stmt := topS 8
abbrev s_may_be : Stmt := topS 9
abbrev s_can : Stmt := topS 10
abbrev s_crowd_behind : Stmt := topS 11
abbrev s_is_next : Stmt := topS 12
abbrev s_met : Stmt := topS 13
abbrev s_said : Stmt := topS 14
abbrev s_graph_of : Stmt := topS 16
abbrev s_come : Stmt := topS 17
abbrev s_row_to : Stmt := topS 18
abbrev s_ranks_to : Stmt := topS 19
abbrev s_hands_of : Stmt := topS 21
abbrev s_holds : Stmt := topS 22
abbrev s_settled : Stmt := topS 24
abbrev s_truth_word : Stmt := topS 25
abbrev s_gone_through : Stmt := topS 26
abbrev s_answers : Stmt := topS 27
abbrev s_err_at : Stmt := topS 29
abbrev s_is_number : Stmt := topS 31
abbrev s_passed_along : Stmt := topS 32
abbrev s_last_left : Stmt := topS 34
abbrev s_rounds_of : Stmt := topS 35
abbrev s_is_shut : Stmt := topS 36
abbrev s_ends_of : Stmt := topS 37
abbrev s_ring_to : Stmt := topS 38
abbrev s_ask_fair : Stmt := topS 39
abbrev s_ring_says : Stmt := topS 40
abbrev s_law_feed : Stmt := topS 42
abbrev s_law_draw : Stmt := topS 43
abbrev s_law_rule : Stmt := topS 44
abbrev s_law_question : Stmt := topS 45
abbrev s_law_holds : Stmt := topS 46
abbrev s_law_made : Stmt := topS 47
abbrev s_law_pair : Stmt := topS 48
abbrev s_law_steps : Stmt := topS 49
abbrev s_law_all : Stmt := topS 50
abbrev s_law_counts : Stmt := topS 51
abbrev s_law_begun : Stmt := topS 52
abbrev s_law_from : Stmt := topS 53
abbrev s_law_ends : Stmt := topS 54
abbrev s_law_words : Stmt := topS 55
abbrev s_law : Stmt := topS 56
def d_is_whole : He.DefD := ⟨("is_whole", none), "is_whole", "is_whole", defArgs s_is_whole, defBody s_is_whole, defScope s_is_whole, [], []⟩
def d_begun : He.DefD := ⟨("begun", none), "begun", "begun", defArgs s_begun, defBody s_begun, defScope s_begun, [], []⟩
def d_may_be : He.DefD := ⟨("may_be", none), "may_be", "may_be", defArgs s_may_be, defBody s_may_be, defScope s_may_be, [], []⟩
def d_can : He.DefD := ⟨("can", none), "can", "can", defArgs s_can, defBody s_can, defScope s_can, [], []⟩
def d_crowd_behind : He.DefD := ⟨("crowd_behind", none), "crowd_behind", "crowd_behind", defArgs s_crowd_behind, defBody s_crowd_behind, defScope s_crowd_behind, [], []⟩
def d_is_next : He.DefD := ⟨("is_next", none), "is_next", "is_next", defArgs s_is_next, defBody s_is_next, defScope s_is_next, [], []⟩
def d_met : He.DefD := ⟨("met", none), "met", "met", defArgs s_met, defBody s_met, defScope s_met, [], []⟩
def d_said : He.DefD := ⟨("said", none), "said", "said", defArgs s_said, defBody s_said, defScope s_said, [], []⟩
def d_graph_of : He.DefD := ⟨("graph_of", none), "graph_of", "graph_of", defArgs s_graph_of, defBody s_graph_of, defScope s_graph_of, [], []⟩
def d_come : He.DefD := ⟨("come", none), "come", "come", defArgs s_come, defBody s_come, defScope s_come, [.int 1000], []⟩
def d_row_to : He.DefD := ⟨("row_to", none), "row_to", "row_to", defArgs s_row_to, defBody s_row_to, defScope s_row_to, [], []⟩
def d_ranks_to : He.DefD := ⟨("ranks_to", none), "ranks_to", "ranks_to", defArgs s_ranks_to, defBody s_ranks_to, defScope s_ranks_to, [], []⟩
def d_hands_of : He.DefD := ⟨("hands_of", none), "hands_of", "hands_of", defArgs s_hands_of, defBody s_hands_of, defScope s_hands_of, [], []⟩
def d_holds : He.DefD := ⟨("holds", none), "holds", "holds", defArgs s_holds, defBody s_holds, defScope s_holds, [], []⟩
def d_settled : He.DefD := ⟨("settled", none), "settled", "settled", defArgs s_settled, defBody s_settled, defScope s_settled, [.int 1000], []⟩
def d_truth_word : He.DefD := ⟨("truth_word", none), "truth_word", "truth_word", defArgs s_truth_word, defBody s_truth_word, defScope s_truth_word, [], []⟩
def d_gone_through : He.DefD := ⟨("gone_through", none), "gone_through", "gone_through", defArgs s_gone_through, defBody s_gone_through, defScope s_gone_through, [], []⟩
def d_answers : He.DefD := ⟨("answers", none), "answers", "answers", defArgs s_answers, defBody s_answers, defScope s_answers, [.int 1000], []⟩
def d_err_at : He.DefD := ⟨("err_at", none), "err_at", "err_at", defArgs s_err_at, defBody s_err_at, defScope s_err_at, [.int 1000], []⟩
def d_is_number : He.DefD := ⟨("is_number", none), "is_number", "is_number", defArgs s_is_number, defBody s_is_number, defScope s_is_number, [], []⟩
def d_passed_along : He.DefD := ⟨("passed_along", none), "passed_along", "passed_along", defArgs s_passed_along, defBody s_passed_along, defScope s_passed_along, [], []⟩
def d_last_left : He.DefD := ⟨("last_left", none), "last_left", "last_left", defArgs s_last_left, defBody s_last_left, defScope s_last_left, [], []⟩
def d_rounds_of : He.DefD := ⟨("rounds_of", none), "rounds_of", "rounds_of", defArgs s_rounds_of, defBody s_rounds_of, defScope s_rounds_of, [], []⟩
def d_is_shut : He.DefD := ⟨("is_shut", none), "is_shut", "is_shut", defArgs s_is_shut, defBody s_is_shut, defScope s_is_shut, [], []⟩
def d_ends_of : He.DefD := ⟨("ends_of", none), "ends_of", "ends_of", defArgs s_ends_of, defBody s_ends_of, defScope s_ends_of, [.int 1000], []⟩
def d_ring_to : He.DefD := ⟨("ring_to", none), "ring_to", "ring_to", defArgs s_ring_to, defBody s_ring_to, defScope s_ring_to, [.int 1000], []⟩
def d_ask_fair : He.DefD := ⟨("ask_fair", none), "ask_fair", "ask_fair", defArgs s_ask_fair, defBody s_ask_fair, defScope s_ask_fair, [], []⟩
def d_ring_says : He.DefD := ⟨("ring_says", none), "ring_says", "ring_says", defArgs s_ring_says, defBody s_ring_says, defScope s_ring_says, [], []⟩
def d_law_feed : He.DefD := ⟨("_law_feed", none), "_law_feed", "_law_feed", defArgs s_law_feed, defBody s_law_feed, defScope s_law_feed, [], []⟩
def d_law_draw : He.DefD := ⟨("_law_draw", none), "_law_draw", "_law_draw", defArgs s_law_draw, defBody s_law_draw, defScope s_law_draw, [], []⟩
def d_law_rule : He.DefD := ⟨("_law_rule", none), "_law_rule", "_law_rule", defArgs s_law_rule, defBody s_law_rule, defScope s_law_rule, [], []⟩
def d_law_question : He.DefD := ⟨("_law_question", none), "_law_question", "_law_question", defArgs s_law_question, defBody s_law_question, defScope s_law_question, [], []⟩
def d_law_holds : He.DefD := ⟨("_law_holds", none), "_law_holds", "_law_holds", defArgs s_law_holds, defBody s_law_holds, defScope s_law_holds, [], []⟩
def d_law_made : He.DefD := ⟨("_law_made", none), "_law_made", "_law_made", defArgs s_law_made, defBody s_law_made, defScope s_law_made, [], []⟩
def d_law_pair : He.DefD := ⟨("_law_pair", none), "_law_pair", "_law_pair", defArgs s_law_pair, defBody s_law_pair, defScope s_law_pair, [], []⟩
def d_law_steps : He.DefD := ⟨("_law_steps", none), "_law_steps", "_law_steps", defArgs s_law_steps, defBody s_law_steps, defScope s_law_steps, [], []⟩
def d_law_all : He.DefD := ⟨("_law_all", none), "_law_all", "_law_all", defArgs s_law_all, defBody s_law_all, defScope s_law_all, [], []⟩
def d_law_counts : He.DefD := ⟨("_law_counts", none), "_law_counts", "_law_counts", defArgs s_law_counts, defBody s_law_counts, defScope s_law_counts, [], []⟩
def d_law_begun : He.DefD := ⟨("_law_begun", none), "_law_begun", "_law_begun", defArgs s_law_begun, defBody s_law_begun, defScope s_law_begun, [], []⟩
def d_law_from : He.DefD := ⟨("_law_from", none), "_law_from", "_law_from", defArgs s_law_from, defBody s_law_from, defScope s_law_from, [], []⟩
def d_law_ends : He.DefD := ⟨("_law_ends", none), "_law_ends", "_law_ends", defArgs s_law_ends, defBody s_law_ends, defScope s_law_ends, [], []⟩
def d_law_words : He.DefD := ⟨("_law_words", none), "_law_words", "_law_words", defArgs s_law_words, defBody s_law_words, defScope s_law_words, [], []⟩
def d_law : He.DefD := ⟨("law", none), "law", "law", defArgs s_law, defBody s_law, defScope s_law, [], []⟩
def fn : List He.DefD := [d_is_whole, d_begun, d_may_be, d_can, d_crowd_behind, d_is_next, d_met, d_said, d_graph_of, d_come, d_row_to, d_ranks_to, d_hands_of, d_holds, d_settled, d_truth_word, d_gone_through, d_answers, d_err_at, d_is_number, d_passed_along, d_last_left, d_rounds_of, d_is_shut, d_ends_of, d_ring_to, d_ask_fair, d_ring_says, d_law_feed, d_law_draw, d_law_rule, d_law_question, d_law_holds, d_law_made, d_law_pair, d_law_steps, d_law_all, d_law_counts, d_law_begun, d_law_from, d_law_ends, d_law_words, d_law]
def faG : List He.Fa := [.glo "is_whole", .glo "begun", .glo "may_be", .glo "can", .glo "crowd_behind", .glo "is_next", .glo "met", .glo "said", .glo "graph_of", .glo "come", .glo "row_to", .glo "ranks_to", .glo "hands_of", .glo "holds", .glo "settled", .glo "truth_word", .glo "gone_through", .glo "answers", .glo "err_at", .glo "is_number", .glo "passed_along", .glo "last_left", .glo "rounds_of", .glo "is_shut", .glo "ends_of", .glo "ring_to", .glo "ask_fair", .glo "ring_says", .glo "_law_feed", .glo "_law_draw", .glo "_law_rule", .glo "_law_question", .glo "_law_holds", .glo "_law_made", .glo "_law_pair", .glo "_law_steps", .glo "_law_all", .glo "_law_counts", .glo "_law_begun", .glo "_law_from", .glo "_law_ends", .glo "_law_words", .glo "law"]
def faF : List He.Fa := [.free "len", .free "range", .free "list", .free "tuple", .free "sorted", .free "enumerate", .free "isinstance", .free "all", .free "sum", .free "dict", .free "int", .free "max", .free "min", .free "repr", .free "bool"]
def fa : List He.Fa := faG ++ faF
def loose1 : List PySem.Str := ["__name__", "PassError", "NoMeeting", "NoPaper", "TooMany", "is_whole", "begun", "may_be", "can", "crowd_behind", "is_next", "met", "said", "graph_of", "come", "row_to", "ranks_to", "hands_of", "holds", "settled", "truth_word", "gone_through", "answers", "err_at", "is_number"]
def loose2 : List PySem.Str := ["passed_along", "last_left", "rounds_of", "is_shut", "ends_of", "ring_to", "ask_fair", "ring_says", "_law_feed", "_law_draw", "_law_rule", "_law_question", "_law_holds", "_law_made", "_law_pair", "_law_steps", "_law_all", "_law_counts", "_law_begun", "_law_from", "_law_ends", "_law_words"]
def loose : List PySem.Str := loose1 ++ loose2
/-- a def of the text as it stands behind the top -/
abbrev FnP (K : PySem.W.Frag) (x : Str) (st : Stmt) (dvs : List V) (f : Addr) (fd : FuncData) : Prop := FunD K x x (defArgs st) (defBody st) (defScope st) dvs [] f fd
end Pb
set_option Elab.async false
set_option linter.all false
set_option maxRecDepth 100000
set_option maxHeartbeats 0
namespace Pb
open PySem PySem.Spec PyProof.Rows L2
abbrev R : PySem.W.OpenRow := PySem.W.OpenLaw.row PySem.Challenge.rw_passersby_k41_whole_rings_and_answers
abbrev hk : PySem.W.Hook := He.hookD 4 fa fn
def ob (s : PySem.W.SharedT) : He.AlD := He.obsDG 4 fa fn (HandSHeadRun.getT s)
theorem ob_eq (s : PySem.W.SharedT) : ob s = hk.obs s.abs := He.obsDG_eq (HandSHeadRun.getT_eq s)
theorem run (w : World) : HandSHeadRun.RunEq R (PySem.W.view R.prog [56]) hk ob 4000 loose w := by
  intro os
  kernel_rfl
end Pb
set_option linter.all false
set_option maxRecDepth 100000
/-! the mathematics: rules, crowds, meetings, what comes -/
namespace Pb
abbrev Cr := List Int
abbrev Mt := Int × Int × Int × Int
structure Rl where
  rooms : Nat
  starts : List Int
  meets : List Mt
  says : List Bool
def gt (c : Cr) (i : Int) : Int := c.getD i.toNat 0
def down (c : Cr) (i : Int) : Cr := c.set i.toNat (gt c i - 1)
def up (c : Cr) (i : Int) : Cr := c.set i.toNat (gt c i + 1)
def behind (c : Cr) (m : Mt) : Cr := up (up (down (down c m.1) m.2.1) m.2.2.1) m.2.2.2
def mayBe (c : Cr) (m : Mt) : Bool := if m.1 = m.2.1 then decide (2 ≤ gt c m.1) else (decide (1 ≤ gt c m.1) && decide (1 ≤ gt c m.2.1))
/-- meetings with their numbers -/
def nums (r : Rl) : List (Int × Mt) := r.meets.zipIdx.map fun p => ((p.2 : Int), p.1)
def succ (r : Rl) (c : Cr) : List (Int × Cr) := (nums r).filterMap fun p => if mayBe c p.2 = true then some (p.1, behind c p.2) else none
def InR (n : Nat) (i : Int) : Prop := 0 ≤ i ∧ i < n
structure RlOk (r : Rl) : Prop where
  r1 : 1 ≤ r.rooms
  r5 : r.rooms ≤ 5
  st : ∀ s ∈ r.starts, InR r.rooms s
  s1 : 1 ≤ r.starts.length
  s4 : r.starts.length ≤ 4
  mt : ∀ m ∈ r.meets, InR r.rooms m.1 ∧ InR r.rooms m.2.1 ∧ InR r.rooms m.2.2.1 ∧ InR r.rooms m.2.2.2
  ml : r.meets.length ≤ 100
  sl : r.says.length = r.rooms
/-- a crowd of so many hands -/
structure CrOk (r : Rl) (h : Nat) (c : Cr) : Prop where
  len : c.length = r.rooms
  pos : ∀ x ∈ c, 0 ≤ x
  sum : c.sum = h
section
variable {r : Rl} {h : Nat} {c : Cr}
theorem gt_get {i : Int} (hc : c.length = r.rooms) (hi : InR r.rooms i) : c[i.toNat]? = some (gt c i) := by
  obtain ⟨h0, h1⟩ := hi
  have hl : i.toNat < c.length := by omega
  unfold gt
  rw [List.getElem?_eq_getElem hl, List.getD_eq_getElem?_getD, List.getElem?_eq_getElem hl]
  rfl
theorem down_len (c : Cr) (i : Int) : (down c i).length = c.length := List.length_set ..
theorem up_len (c : Cr) (i : Int) : (up c i).length = c.length := List.length_set ..
theorem behind_len (c : Cr) (m : Mt) : (behind c m).length = c.length := by
  unfold behind
  rw [up_len, up_len, down_len, down_len]
theorem sum_setI : ∀ {l : List Int} {j : Nat} {z y : Int}, l[j]? = some z → (l.set j y).sum = l.sum - z + y
  | [], j, z, y, h => by simp at h
  | a :: r, 0, z, y, h => by
    have e : a = z := Option.some.inj h
    subst e
    show (y :: r).sum = (a :: r).sum - a + y
    rw [List.sum_cons, List.sum_cons]
    omega
  | a :: r, j + 1, z, y, h => by
    have ih := sum_setI (l := r) (j := j) (z := z) (y := y) h
    show (a :: r.set j y).sum = (a :: r).sum - z + y
    rw [List.sum_cons, List.sum_cons, ih]
    omega
theorem down_sum {i : Int} (hc : c.length = r.rooms) (hi : InR r.rooms i) : (down c i).sum = c.sum - 1 := by
  unfold down
  rw [sum_setI (gt_get hc hi)]
  omega
theorem up_sum {i : Int} (hc : c.length = r.rooms) (hi : InR r.rooms i) : (up c i).sum = c.sum + 1 := by
  unfold up
  rw [sum_setI (gt_get hc hi)]
  omega
theorem gt_set {i j : Int} {v : Int} (hc : c.length = r.rooms) (hi : InR r.rooms i) (hj : InR r.rooms j) : gt (c.set i.toNat v) j = if i = j then v else gt c j := by
  obtain ⟨h0, h1⟩ := hi
  obtain ⟨h2, h3⟩ := hj
  unfold gt
  rw [List.getD_eq_getElem?_getD, List.getD_eq_getElem?_getD]
  by_cases e : i = j
  · subst e
    rw [if_pos rfl, List.getElem?_set_self (by omega)]
    rfl
  · rw [if_neg e, List.getElem?_set_ne (by omega)]
theorem gt_down {i j : Int} (hc : c.length = r.rooms) (hi : InR r.rooms i) (hj : InR r.rooms j) : gt (down c i) j = if i = j then gt c j - 1 else gt c j := by
  unfold down
  rw [gt_set hc hi hj]
  by_cases e : i = j
  · subst e
    simp
  · rw [if_neg e, if_neg e]
theorem mem_set_cases {x : Int} {l : List Int} {j : Nat} {y : Int} (hx : x ∈ l.set j y) : x = y ∨ x ∈ l := by
  rcases List.mem_or_eq_of_mem_set hx with h | h
  · exact .inr h
  · exact .inl h
theorem up_pos {i : Int} (hc : c.length = r.rooms) (hi : InR r.rooms i) (hp : ∀ x ∈ c, 0 ≤ x) : ∀ x ∈ up c i, 0 ≤ x := by
  intro x hx
  rcases mem_set_cases hx with e | e
  · have g : gt c i ∈ c := List.mem_of_getElem? (gt_get hc hi)
    have := hp _ g
    omega
  · exact hp _ e
theorem down_pos {i : Int} (h1 : 1 ≤ gt c i) (hp : ∀ x ∈ c, 0 ≤ x) : ∀ x ∈ down c i, 0 ≤ x := by
  intro x hx
  rcases mem_set_cases hx with e | e
  · omega
  · exact hp _ e
/-- two are there: the two rooms stay from 0 on -/
theorem two_pos {a b : Int} (hc : c.length = r.rooms) (ha : InR r.rooms a) (hb : InR r.rooms b) (hp : ∀ x ∈ c, 0 ≤ x) (h : (if a = b then decide (2 ≤ gt c a) else (decide (1 ≤ gt c a) && decide (1 ≤ gt c b))) = true) : ∀ x ∈ down (down c a) b, 0 ≤ x := by
  by_cases e : a = b
  · subst e
    rw [if_pos rfl] at h
    have h2 := of_decide_eq_true h
    refine down_pos ?_ (down_pos (by omega) hp)
    rw [gt_down hc ha ha, if_pos rfl]
    omega
  · rw [if_neg e] at h
    obtain ⟨h1, h2⟩ := Bool.and_eq_true_iff.mp h
    have h1 := of_decide_eq_true h1
    have h2 := of_decide_eq_true h2
    refine down_pos ?_ (down_pos h1 hp)
    rw [gt_down hc ha hb, if_neg e]
    exact h2
theorem behind_ok {m : Mt} (hr : RlOk r) (hm : m ∈ r.meets) (hc : CrOk r h c) (hb : mayBe c m = true) : CrOk r h (behind c m) := by
  obtain ⟨h1, h2, h3, h4⟩ := hr.mt m hm
  have l1 : (down c m.1).length = r.rooms := by rw [down_len]; exact hc.len
  have l2 : (down (down c m.1) m.2.1).length = r.rooms := by rw [down_len]; exact l1
  have l3 : (up (down (down c m.1) m.2.1) m.2.2.1).length = r.rooms := by rw [up_len]; exact l2
  refine ⟨by rw [behind_len]; exact hc.len, ?_, ?_⟩
  · exact up_pos l3 h4 (up_pos l2 h3 (two_pos hc.len h1 h2 hc.pos hb))
  · unfold behind
    rw [up_sum l3 h4, up_sum l2 h3, down_sum l1 h2, down_sum hc.len h1, hc.sum]
    omega
theorem nums_mem {p : Int × Mt} (h : p ∈ nums r) : p.2 ∈ r.meets := by
  obtain ⟨q, hq, rfl⟩ := List.mem_map.mp h
  exact (List.mem_zipIdx hq).2.2 ▸ List.getElem_mem _
theorem succ_mem {n : Int} {d : Cr} (h : (n, d) ∈ succ r c) : ∃ m, (n, m) ∈ nums r ∧ mayBe c m = true ∧ d = behind c m := by
  obtain ⟨p, hp, e⟩ := List.mem_filterMap.mp h
  by_cases hb : mayBe c p.2 = true
  · rw [if_pos hb] at e
    cases e
    exact ⟨p.2, hp, hb, rfl⟩
  · rw [if_neg hb] at e
    cases e
theorem succ_ok {p : Int × Cr} (hr : RlOk r) (hc : CrOk r h c) (hp : p ∈ succ r c) : CrOk r h p.2 := by
  obtain ⟨m, h1, h2, h3⟩ := succ_mem (n := p.1) (d := p.2) hp
  rw [h3]
  exact behind_ok hr (nums_mem h1) hc h2
end
/-! ### all crowds of so many hands -/
def comps : Nat → Nat → List Cr
  | 0, h => if h = 0 then [[]] else []
  | r + 1, h => (List.range (h + 1)).flatMap fun k => (comps r (h - k)).map ((k : Int) :: ·)
theorem mem_comps : ∀ {c : Cr} {h : Nat}, (∀ x ∈ c, 0 ≤ x) → c.sum = h → c ∈ comps c.length h
  | [], h, _, e => by
    have h0 : h = 0 := by
      have : ([] : List Int).sum = 0 := rfl
      omega
    subst h0
    exact List.mem_singleton.mpr rfl
  | x :: c, h, hp, e => by
    rw [List.sum_cons] at e
    have hx := hp x (List.mem_cons_self ..)
    have hs : 0 ≤ c.sum := by
      have aux : ∀ l : List Int, (∀ x ∈ l, 0 ≤ x) → 0 ≤ l.sum := by
        intro l
        induction l with
        | nil => intro _; exact Int.le_refl 0
        | cons a l ih =>
          intro hl
          rw [List.sum_cons]
          have := hl a (List.mem_cons_self ..)
          have := ih fun y hy => hl y (List.mem_cons_of_mem _ hy)
          omega
      exact aux c fun y hy => hp y (List.mem_cons_of_mem _ hy)
    have hh : c.sum = ((h - x.toNat : Nat) : Int) := by omega
    have ih := mem_comps (c := c) (h := h - x.toNat) (fun y hy => hp y (List.mem_cons_of_mem _ hy)) hh
    show x :: c ∈ (List.range (h + 1)).flatMap fun k => (comps c.length (h - k)).map ((k : Int) :: ·)
    refine List.mem_flatMap.mpr ⟨x.toNat, List.mem_range.mpr (by omega), List.mem_map.mpr ⟨c, ih, ?_⟩⟩
    have e2 : ((x.toNat : Nat) : Int) = x := by omega
    show ((x.toNat : Nat) : Int) :: c = x :: c
    rw [e2]
theorem comps_small : ∀ r, r ≤ 5 → ∀ h, h ≤ 4 → (comps r h).length ≤ 70 := by decide +kernel
theorem nodup_len {α : Type} [DecidableEq α] : ∀ {l m : List α}, l.Nodup → (∀ x ∈ l, x ∈ m) → l.length ≤ m.length
  | [], m, _, _ => Nat.zero_le _
  | a :: l, m, hn, hs => by
    obtain ⟨h1, h2⟩ := List.nodup_cons.mp hn
    have ha := hs a (List.mem_cons_self ..)
    have ih := nodup_len (m := m.erase a) h2 fun x hx => by
      refine (List.mem_erase_of_ne ?_).mpr (hs x (List.mem_cons_of_mem _ hx))
      intro e
      subst e
      exact h1 hx
    have := List.length_erase_of_mem ha
    have hm : 0 < m.length := List.length_pos_of_mem ha
    rw [List.length_cons]
    omega
theorem few {r : Rl} {h : Nat} {l : List Cr} (hr : RlOk r) (hh : h ≤ 4) (hn : l.Nodup) (ho : ∀ c ∈ l, CrOk r h c) : l.length ≤ 70 := by
  refine Nat.le_trans (nodup_len (m := comps r.rooms h) hn fun c hc => ?_) (comps_small r.rooms hr.r5 h hh)
  have o := ho c hc
  rw [← o.len]
  exact mem_comps o.pos o.sum
/-! ### what comes -/
section
variable (S : Cr → List (Int × Cr))
def Edge (a b : Cr) : Prop := ∃ n, (n, b) ∈ S a
inductive Reach : Cr → Cr → Prop
  | refl (a : Cr) : Reach a a
  | tail {a b c : Cr} : Reach a b → Edge S b c → Reach a c
end
section
variable {S : Cr → List (Int × Cr)}
theorem Reach.one {a b : Cr} (h : Edge S a b) : Reach S a b := .tail (.refl a) h
theorem Reach.trans {a b c : Cr} (h1 : Reach S a b) (h2 : Reach S b c) : Reach S a c := by
  induction h2 with
  | refl => exact h1
  | tail _ e ih => exact .tail ih e
theorem Reach.head {a b c : Cr} (h1 : Edge S a b) (h2 : Reach S b c) : Reach S a c := (Reach.one h1).trans h2
/-- a set that holds the start and is closed holds all that comes -/
theorem Reach.closed {P : Cr → Prop} {a b : Cr} (hs : ∀ x y, P x → Edge S x y → P y) (h : Reach S a b) (ha : P a) : P b := by
  induction h with
  | refl => exact ha
  | tail _ e ih => exact hs _ _ ih e
/-- first step or none -/
theorem Reach.cases_head {a c : Cr} (h : Reach S a c) : a = c ∨ ∃ b, Edge S a b ∧ Reach S b c := by
  induction h with
  | refl => exact .inl rfl
  | @tail b c h1 e ih =>
    rcases ih with rfl | ⟨d, h2, h3⟩
    · exact .inr ⟨c, e, .refl c⟩
    · exact .inr ⟨d, h2, .tail h3 e⟩
end
theorem reach_ok {r : Rl} {h : Nat} {c d : Cr} (hr : RlOk r) (hc : CrOk r h c) (hd : Reach (succ r) c d) : CrOk r h d :=
  hd.closed (P := CrOk r h) (fun _ _ hx ⟨_, he⟩ => succ_ok hr hx he) hc
end Pb
set_option linter.all false
set_option maxRecDepth 100000
namespace Pb
/-! ### beginnings, words -/
def addTo (c : Cr) (i m : Int) : Cr := c.set i.toNat (gt c i + m)
def begM (r : Rl) (cs : List Int) : Cr := (r.starts.zip cs).foldl (fun c p => addTo c p.1 p.2) (List.replicate r.rooms 0)
theorem addTo_len (c : Cr) (i m : Int) : (addTo c i m).length = c.length := List.length_set ..
theorem begFold_len {r : Rl} : ∀ (l : List (Int × Int)) {c : Cr}, c.length = r.rooms → (l.foldl (fun c p => addTo c p.1 p.2) c).length = r.rooms
  | [], _, h => h
  | x :: l, c, h => begFold_len l (by rw [addTo_len]; exact h)
theorem begFold_ok {r : Rl} : ∀ (l : List (Int × Int)) {c : Cr}, (∀ p ∈ l, InR r.rooms p.1 ∧ 0 ≤ p.2) → c.length = r.rooms → (∀ x ∈ c, 0 ≤ x) →
    (∀ x ∈ l.foldl (fun c p => addTo c p.1 p.2) c, 0 ≤ x) ∧ (l.foldl (fun c p => addTo c p.1 p.2) c).sum = c.sum + (l.map (·.2)).sum
  | [], c, _, _, hp => ⟨hp, by show c.sum = c.sum + ([] : List Int).sum; rw [List.sum_nil]; omega⟩
  | x :: l, c, h, hc, hp => by
    obtain ⟨h1, h2⟩ := h x (List.mem_cons_self ..)
    have g := gt_get hc h1
    have gp : 0 ≤ gt c x.1 := hp _ (List.mem_of_getElem? g)
    have hp' : ∀ y ∈ addTo c x.1 x.2, 0 ≤ y := fun y hy => by
      rcases mem_set_cases hy with e | e
      · omega
      · exact hp _ e
    obtain ⟨q1, q2⟩ := begFold_ok l (c := addTo c x.1 x.2) (fun p hq => h p (List.mem_cons_of_mem _ hq)) (by rw [addTo_len]; exact hc) hp'
    refine ⟨q1, ?_⟩
    show (l.foldl (fun c p => addTo c p.1 p.2) (addTo c x.1 x.2)).sum = _
    rw [q2, List.map_cons, List.sum_cons]
    unfold addTo
    rw [sum_setI g]
    omega
theorem begM_ok {r : Rl} {cs : List Int} {h : Nat} (ho : RlOk r) (hl : cs.length = r.starts.length) (hp : ∀ x ∈ cs, 0 ≤ x) (hs : cs.sum = h) : CrOk r h (begM r cs) := by
  have hl0 : (List.replicate r.rooms (0 : Int)).length = r.rooms := List.length_replicate
  have hin : ∀ p ∈ r.starts.zip cs, InR r.rooms p.1 ∧ 0 ≤ p.2 := fun p hq => by
    have e := List.of_mem_zip (a := p.1) (b := p.2) hq
    exact ⟨ho.st _ e.1, hp _ e.2⟩
  obtain ⟨q1, q2⟩ := begFold_ok (r := r) (r.starts.zip cs) (c := List.replicate r.rooms 0) hin hl0 (fun x hx => by rw [(List.mem_replicate.mp hx).2]; exact Int.le_refl 0)
  refine ⟨begFold_len _ hl0, q1, ?_⟩
  unfold begM
  have hz : ∀ n : Nat, (List.replicate n (0 : Int)).sum = 0 := by
    intro n
    induction n with
    | zero => rfl
    | succ n ih => rw [List.replicate_succ, List.sum_cons, ih]; rfl
  rw [q2, hz, List.map_snd_zip (by omega), hs]
  omega
inductive W3 where
  | yes | no | both
  deriving DecidableEq
def wordsM (r : Rl) (c : Cr) : List Bool := c.zipIdx.filterMap fun p => if 0 < p.1 then r.says[p.2]? else none
def saidM (r : Rl) (c : Cr) : W3 := if false ∈ wordsM r c then (if true ∈ wordsM r c then .both else .no) else .yes
end Pb
set_option linter.all false
set_option maxRecDepth 100000
namespace Pb
/-! ### going through breadth first -/
theorem nd1 {α : Type} (a : α) : [a].Nodup := List.nodup_cons.mpr ⟨by simp, List.nodup_nil⟩
def addNew (L : List Cr) (ps : List (Int × Cr)) : List Cr := ps.foldl (fun L p => if p.2 ∈ L then L else L ++ [p.2]) L
theorem addNew_nil (L : List Cr) : addNew L [] = L := rfl
theorem addNew_snoc (L : List Cr) (ps : List (Int × Cr)) (p : Int × Cr) : addNew L (ps ++ [p]) = if p.2 ∈ addNew L ps then addNew L ps else addNew L ps ++ [p.2] := by
  unfold addNew
  rw [List.foldl_append]
  rfl
theorem addNew_ext : ∀ (ps : List (Int × Cr)) (L : List Cr), ∃ E, addNew L ps = L ++ E
  | [], L => ⟨[], by rw [addNew_nil, List.append_nil]⟩
  | p :: ps, L => by
    by_cases h : p.2 ∈ L
    · obtain ⟨E, e⟩ := addNew_ext ps L
      refine ⟨E, ?_⟩
      show addNew (if p.2 ∈ L then L else L ++ [p.2]) ps = _
      rw [if_pos h, e]
    · obtain ⟨E, e⟩ := addNew_ext ps (L ++ [p.2])
      refine ⟨[p.2] ++ E, ?_⟩
      show addNew (if p.2 ∈ L then L else L ++ [p.2]) ps = _
      rw [if_neg h, e, List.append_assoc]
theorem addNew_nodup : ∀ (ps : List (Int × Cr)) {L : List Cr}, L.Nodup → (addNew L ps).Nodup
  | [], L, h => h
  | p :: ps, L, h => by
    show (addNew (if p.2 ∈ L then L else L ++ [p.2]) ps).Nodup
    by_cases hm : p.2 ∈ L
    · rw [if_pos hm]
      exact addNew_nodup ps h
    · rw [if_neg hm]
      refine addNew_nodup ps (List.nodup_append.mpr ⟨h, nd1 _, fun a ha b hb => ?_⟩)
      rw [List.mem_singleton.mp hb]
      intro e
      rw [e] at ha
      exact hm ha
theorem addNew_mem : ∀ (ps : List (Int × Cr)) {L : List Cr} {x : Cr}, x ∈ addNew L ps ↔ x ∈ L ∨ ∃ p ∈ ps, p.2 = x
  | [], L, x => by simp [addNew_nil]
  | p :: ps, L, x => by
    show x ∈ addNew (if p.2 ∈ L then L else L ++ [p.2]) ps ↔ _
    by_cases hm : p.2 ∈ L
    · rw [if_pos hm, addNew_mem ps]
      constructor
      · rintro (h | ⟨q, h1, h2⟩)
        · exact .inl h
        · exact .inr ⟨q, List.mem_cons_of_mem _ h1, h2⟩
      · rintro (h | ⟨q, h1, h2⟩)
        · exact .inl h
        · rcases List.mem_cons.mp h1 with rfl | h1
          · exact .inl (h2 ▸ hm)
          · exact .inr ⟨q, h1, h2⟩
    · rw [if_neg hm, addNew_mem ps]
      constructor
      · rintro (h | ⟨q, h1, h2⟩)
        · rcases List.mem_append.mp h with h | h
          · exact .inl h
          · exact .inr ⟨p, List.mem_cons_self .., (List.mem_singleton.mp h).symm⟩
        · exact .inr ⟨q, List.mem_cons_of_mem _ h1, h2⟩
      · rintro (h | ⟨q, h1, h2⟩)
        · exact .inl (List.mem_append_left _ h)
        · rcases List.mem_cons.mp h1 with rfl | h1
          · exact .inl (List.mem_append_right _ (List.mem_singleton.mpr h2.symm))
          · exact .inr ⟨q, h1, h2⟩
/-- L is gone through up to k -/
structure Bfs (S : Cr → List (Int × Cr)) (c0 : Cr) (L : List Cr) (k : Nat) : Prop where
  nd : L.Nodup
  hd : ∃ R, L = c0 :: R
  re : ∀ c ∈ L, Reach S c0 c
  cl : ∀ c ∈ L.take k, ∀ p ∈ S c, p.2 ∈ L
  kl : k ≤ L.length
theorem Bfs.start (S : Cr → List (Int × Cr)) (c0 : Cr) : Bfs S c0 [c0] 0 :=
  ⟨nd1 _, ⟨[], rfl⟩, fun c hc => by rw [List.mem_singleton.mp hc]; exact .refl _, fun c hc => by simp at hc, Nat.zero_le _⟩
theorem Bfs.step {S : Cr → List (Int × Cr)} {c0 c : Cr} {L : List Cr} {k : Nat} (h : Bfs S c0 L k) (hc : L[k]? = some c) : Bfs S c0 (addNew L (S c)) (k + 1) ∧ (addNew L (S c)).take (k + 1) = L.take k ++ [c] := by
  obtain ⟨E, e⟩ := addNew_ext (S c) L
  have hk : k < L.length := (List.getElem?_eq_some_iff.mp hc).1
  have ht : (addNew L (S c)).take (k + 1) = L.take k ++ [c] := by
    rw [e, List.take_append_of_le_length (by omega), List.take_add_one, hc]
    rfl
  have hcm : c ∈ L := List.mem_of_getElem? hc
  refine ⟨⟨addNew_nodup _ h.nd, ?_, fun d hd => ?_, fun d hd p hp => ?_, ?_⟩, ht⟩
  · obtain ⟨R, hR⟩ := h.hd
    exact ⟨R ++ E, by rw [e, hR]; rfl⟩
  · rcases (addNew_mem _).mp hd with hd | ⟨p, h1, h2⟩
    · exact h.re d hd
    · exact (h.re c hcm).tail ⟨p.1, by rw [← h2]; exact h1⟩
  · rw [ht] at hd
    rcases List.mem_append.mp hd with hd | hd
    · exact (addNew_mem _).mpr (.inl (h.cl d hd p hp))
    · rw [List.mem_singleton.mp hd] at hp
      exact (addNew_mem _).mpr (.inr ⟨p, hp, rfl⟩)
  · rw [e, List.length_append]
    omega
/-- what graph_of tells -/
structure GrOf (S : Cr → List (Int × Cr)) (c0 : Cr) (L : List Cr) : Prop where
  nd : L.Nodup
  hd : ∃ R, L = c0 :: R
  mem : ∀ c, c ∈ L ↔ Reach S c0 c
theorem Bfs.done {S : Cr → List (Int × Cr)} {c0 : Cr} {L : List Cr} {k : Nat} (h : Bfs S c0 L k) (hk : L.length ≤ k) : GrOf S c0 L := by
  refine ⟨h.nd, h.hd, fun c => ⟨h.re c, fun hr => ?_⟩⟩
  obtain ⟨R, hR⟩ := h.hd
  refine hr.closed (P := fun c => c ∈ L) (fun x y hx ⟨n, hy⟩ => ?_) (by rw [hR]; exact List.mem_cons_self ..)
  have := h.cl x (by rw [List.take_of_length_le hk]; exact hx) (n, y) hy
  exact this
theorem succ_num {r : Rl} {c : Cr} {p : Int × Cr} (h : p ∈ succ r c) : ∃ (j : Nat) (m : Mt), p.1 = (j : Int) ∧ r.meets[j]? = some m ∧ mayBe c m = true ∧ p.2 = behind c m := by
  obtain ⟨m, h1, h2, h3⟩ := succ_mem (n := p.1) (d := p.2) h
  obtain ⟨q, hq, e⟩ := List.mem_map.mp h1
  obtain ⟨j, hj⟩ := List.mem_iff_getElem?.mp hq
  rw [List.getElem?_zipIdx] at hj
  cases e2 : r.meets[j]? with
  | none => rw [e2] at hj; cases hj
  | some m2 =>
    rw [e2] at hj
    have hq2 : (m2, 0 + j) = q := Option.some.inj hj
    subst hq2
    have e3 : m2 = m := congrArg Prod.snd e
    have e4 : ((0 + j : Nat) : Int) = p.1 := congrArg Prod.fst e
    subst e3
    exact ⟨j, m2, by rw [← e4, Nat.zero_add], e2, h2, h3⟩
theorem GrOf.len {r : Rl} {h : Nat} {c0 : Cr} {L : List Cr} (hr : RlOk r) (hh : h ≤ 4) (hc : CrOk r h c0) (g : GrOf (succ r) c0 L) : L.length ≤ 70 := few hr hh g.nd fun c hcm => reach_ok hr hc ((g.mem c).mp hcm)
theorem Bfs.len {r : Rl} {h : Nat} {c0 : Cr} {L : List Cr} {k : Nat} (hr : RlOk r) (hh : h ≤ 4) (hc : CrOk r h c0) (g : Bfs (succ r) c0 L k) : L.length ≤ 70 := few hr hh g.nd fun c hcm => reach_ok hr hc (g.re c hcm)
end Pb
set_option linter.all false
set_option maxRecDepth 100000
namespace Pb
/-! ### questions -/
inductive Qn where
  | least (some : List Int) (n : Int)
  | more (s o : List Int)
  | rest (s : List Int) (m r : Int)
  | not (q : Qn)
def sumOf (ss : List Int) (cs : List Int) : Int := (ss.map (gt cs)).sum
def holdsM (cs : List Int) : Qn → Bool
  | .least s n => decide (n ≤ sumOf s cs)
  | .more s o => decide (sumOf o cs < sumOf s cs)
  | .rest s m r => decide (sumOf s cs % m = r)
  | .not q => !holdsM cs q
def Qn.depth : Qn → Nat
  | .not q => q.depth + 1
  | _ => 0
def QnOk (n : Nat) : Qn → Prop
  | .least s _ => ∀ i ∈ s, InR n i
  | .more s o => (∀ i ∈ s, InR n i) ∧ ∀ i ∈ o, InR n i
  | .rest s m _ => (∀ i ∈ s, InR n i) ∧ 0 < m
  | .not q => QnOk n q
/-! ### settled -/
open Classical in
noncomputable def stM (r : Rl) (c : Cr) : Option Bool := if ∀ d, Reach (succ r) c d → saidM r d = .yes then some true else if ∀ d, Reach (succ r) c d → saidM r d = .no then some false else none
end Pb
set_option linter.all false
set_option maxRecDepth 100000
namespace Pb
/-! ### rows of meetings -/
def WalkS (S : Cr → List (Int × Cr)) : Cr → List Int → Cr → Prop
  | c, [], d => c = d
  | c, n :: ns, d => ∃ e, (n, e) ∈ S c ∧ WalkS S e ns d
theorem WalkS.app {S : Cr → List (Int × Cr)} : ∀ {ns ms : List Int} {c d e : Cr}, WalkS S c ns d → WalkS S d ms e → WalkS S c (ns ++ ms) e
  | [], _, _, _, _, h, k => by
    have h : _ = _ := h
    rw [h]
    exact k
  | n :: ns, ms, c, d, e, ⟨x, h1, h2⟩, k => ⟨x, h1, WalkS.app h2 k⟩
theorem WalkS.cons {S : Cr → List (Int × Cr)} {n : Int} {ns : List Int} {c d e : Cr} (h : (n, d) ∈ S c) (k : WalkS S d ns e) : WalkS S c (n :: ns) e := ⟨d, h, k⟩
theorem WalkS.reach {S : Cr → List (Int × Cr)} : ∀ {ns : List Int} {c d : Cr}, WalkS S c ns d → Reach S c d
  | [], c, d, h => by
    have h : c = d := h
    rw [h]
    exact .refl _
  | n :: ns, c, d, ⟨x, h1, h2⟩ => Reach.head ⟨n, h1⟩ (WalkS.reach h2)
/-- some goal comes: the row of crowds gone through does not end ahead of it -/
theorem bfs_goal {S : Cr → List (Int × Cr)} {c0 : Cr} {L : List Cr} {k : Nat} {gs : List Cr} (b : Bfs S c0 L k) (hn : ∀ i c, i < k → L[i]? = some c → c ∉ gs) (hg : ∃ d ∈ gs, Reach S c0 d) : k < L.length := by
  by_cases h : k < L.length
  · exact h
  · obtain ⟨d, hd, hr⟩ := hg
    have hk : L.length ≤ k := by omega
    have hm := ((b.done hk).mem d).mpr hr
    obtain ⟨i, hi⟩ := List.mem_iff_getElem?.mp hm
    have := (List.getElem?_eq_some_iff.mp hi).1
    exact absurd hd (hn i d (by omega) hi)
end Pb
set_option linter.all false
set_option maxRecDepth 100000
namespace Pb
/-! ### going through from many, by lists of crowds -/
def addL (L : List Cr) (ds : List Cr) : List Cr := ds.foldl (fun L d => if d ∈ L then L else L ++ [d]) L
theorem addL_snoc (L ds : List Cr) (d : Cr) : addL L (ds ++ [d]) = if d ∈ addL L ds then addL L ds else addL L ds ++ [d] := by
  unfold addL
  rw [List.foldl_append]
  rfl
theorem addL_new (ps : List (Int × Cr)) (L : List Cr) : addL L (ps.map (·.2)) = addNew L ps := by
  unfold addL addNew
  rw [List.foldl_map]
theorem map_pair2 (ds : List Cr) : (ds.map fun d => ((0 : Int), d)).map (·.2) = ds := by
  rw [List.map_map]
  exact List.map_id' ds
theorem addL_eq (L ds : List Cr) : addL L ds = addNew L (ds.map fun d => ((0 : Int), d)) := by
  rw [← addL_new, map_pair2]
theorem addL_ext (ds L : List Cr) : ∃ E, addL L ds = L ++ E := by
  rw [addL_eq]
  exact addNew_ext _ _
theorem addL_nodup (ds : List Cr) {L : List Cr} (h : L.Nodup) : (addL L ds).Nodup := by
  rw [addL_eq]
  exact addNew_nodup _ h
theorem addL_mem {ds L : List Cr} {x : Cr} : x ∈ addL L ds ↔ x ∈ L ∨ x ∈ ds := by
  rw [addL_eq, addNew_mem]
  constructor
  · rintro (h | ⟨p, h1, h2⟩)
    · exact .inl h
    · obtain ⟨d, hd, rfl⟩ := List.mem_map.mp h1
      exact .inr (h2 ▸ hd)
  · rintro (h | h)
    · exact .inl h
    · exact .inr ⟨(0, x), List.mem_map.mpr ⟨x, h, rfl⟩, rfl⟩
inductive RelR (A : Cr → List Cr) : Cr → Cr → Prop
  | refl (a : Cr) : RelR A a a
  | tail {a b c : Cr} : RelR A a b → c ∈ A b → RelR A a c
structure MBfs (A : Cr → List Cr) (gs L : List Cr) (k : Nat) : Prop where
  nd : L.Nodup
  pre : ∃ E, L = gs ++ E
  re : ∀ c ∈ L, ∃ g ∈ gs, RelR A g c
  cl : ∀ c ∈ L.take k, ∀ d ∈ A c, d ∈ L
  kl : k ≤ L.length
theorem MBfs.start (A : Cr → List Cr) {gs : List Cr} (h : gs.Nodup) : MBfs A gs gs 0 :=
  ⟨h, ⟨[], by rw [List.append_nil]⟩, fun c hc => ⟨c, hc, .refl _⟩, fun c hc => by simp at hc, Nat.zero_le _⟩
theorem MBfs.step {A : Cr → List Cr} {gs L : List Cr} {c : Cr} {k : Nat} (h : MBfs A gs L k) (hc : L[k]? = some c) : MBfs A gs (addL L (A c)) (k + 1) := by
  obtain ⟨E, e⟩ := addL_ext (A c) L
  have hk : k < L.length := (List.getElem?_eq_some_iff.mp hc).1
  have ht : (addL L (A c)).take (k + 1) = L.take k ++ [c] := by
    rw [e, List.take_append_of_le_length (by omega), List.take_add_one, hc]
    rfl
  have hcm : c ∈ L := List.mem_of_getElem? hc
  refine ⟨addL_nodup _ h.nd, ?_, fun d hd => ?_, fun d hd p hp => ?_, ?_⟩
  · obtain ⟨R, hR⟩ := h.pre
    exact ⟨R ++ E, by rw [e, hR, List.append_assoc]⟩
  · rcases addL_mem.mp hd with hd | hd
    · exact h.re d hd
    · obtain ⟨g, hg, hr⟩ := h.re c hcm
      exact ⟨g, hg, hr.tail hd⟩
  · rw [ht] at hd
    rcases List.mem_append.mp hd with hd | hd
    · exact addL_mem.mpr (.inl (h.cl d hd p hp))
    · rw [List.mem_singleton.mp hd] at hp
      exact addL_mem.mpr (.inr hp)
  · rw [e, List.length_append]
    omega
theorem MBfs.done {A : Cr → List Cr} {gs L : List Cr} {k : Nat} (h : MBfs A gs L k) (hk : L.length ≤ k) (c : Cr) : c ∈ L ↔ ∃ g ∈ gs, RelR A g c := by
  refine ⟨h.re c, fun ⟨g, hg, hr⟩ => ?_⟩
  obtain ⟨R, hR⟩ := h.pre
  have aux : ∀ {c : Cr}, RelR A g c → c ∈ L := by
    intro c hr
    induction hr with
    | refl => rw [hR]; exact List.mem_append_left _ hg
    | tail _ hc ih => exact h.cl _ (by rw [List.take_of_length_le hk]; exact ih) _ hc
  exact aux hr
/-- A tells, for each of ks, those of ks that lead to it -/
def PredOf (S : Cr → List (Int × Cr)) (ks : List Cr) (A : Cr → List Cr) : Prop := ∀ c ∈ ks, ∀ d, d ∈ A c ↔ d ∈ ks ∧ Edge S d c
theorem rel_reach {S : Cr → List (Int × Cr)} {ks : List Cr} {A : Cr → List Cr} (hA : PredOf S ks A) {g c : Cr} (h : RelR A g c) (hg : g ∈ ks) : c ∈ ks ∧ Reach S c g := by
  induction h with
  | refl => exact ⟨hg, .refl _⟩
  | tail _ hc ih =>
    obtain ⟨h1, h2⟩ := ih
    obtain ⟨h3, h4⟩ := (hA _ h1 _).mp hc
    exact ⟨h3, Reach.head h4 h2⟩
theorem reach_rel {S : Cr → List (Int × Cr)} {ks : List Cr} {A : Cr → List Cr} (hA : PredOf S ks A) (hcl : ∀ c ∈ ks, ∀ p ∈ S c, p.2 ∈ ks) {g c : Cr} (h : Reach S c g) (hc : c ∈ ks) : RelR A g c := by
  have all : ∀ {a b : Cr}, Reach S a b → a ∈ ks → b ∈ ks := fun h ha => h.closed (P := fun c => c ∈ ks) (fun x y hx ⟨n, hy⟩ => hcl x hx (n, y) hy) ha
  have tr : ∀ {a b c : Cr}, RelR A b c → b ∈ A a → RelR A a c := by
    intro a b c h hb
    induction h with
    | refl => exact .tail (.refl _) hb
    | tail _ hc ih => exact .tail ih hc
  induction h with
  | refl => exact .refl _
  | @tail b d h1 e ih => exact tr ih ((hA d (all (h1.tail e) hc) b).mpr ⟨all h1 hc, e⟩)
/-! ### those ahead, one behind the other -/
def put1 (A : Cr → List Cr) (x c : Cr) : Cr → List Cr := fun y => if y = x then A y ++ [c] else A y
/-- c is put ahead of all that it leads to -/
def putAll (A : Cr → List Cr) (c : Cr) (ps : List (Int × Cr)) : Cr → List Cr := ps.foldl (fun A p => put1 A p.2 c) A
def aheadOf (S : Cr → List (Int × Cr)) (cs : List Cr) : Cr → List Cr := cs.foldl (fun A c => putAll A c (S c)) fun _ => []
theorem putAll_mem : ∀ (ps : List (Int × Cr)) {A : Cr → List Cr} {c x d : Cr}, d ∈ putAll A c ps x ↔ d ∈ A x ∨ (d = c ∧ ∃ p ∈ ps, p.2 = x)
  | [], A, c, x, d => by
    show d ∈ A x ↔ _
    simp
  | p :: ps, A, c, x, d => by
    show d ∈ putAll (put1 A p.2 c) c ps x ↔ _
    rw [putAll_mem ps]
    unfold put1
    by_cases e : x = p.2
    · subst e
      rw [if_pos rfl]
      constructor
      · rintro (h | ⟨h1, q, h2, h3⟩)
        · rcases List.mem_append.mp h with h | h
          · exact .inl h
          · exact .inr ⟨List.mem_singleton.mp h, p, List.mem_cons_self .., rfl⟩
        · exact .inr ⟨h1, q, List.mem_cons_of_mem _ h2, h3⟩
      · rintro (h | ⟨h1, q, h2, h3⟩)
        · exact .inl (List.mem_append_left _ h)
        · exact .inl (List.mem_append_right _ (List.mem_singleton.mpr h1))
    · rw [if_neg e]
      constructor
      · rintro (h | ⟨h1, q, h2, h3⟩)
        · exact .inl h
        · exact .inr ⟨h1, q, List.mem_cons_of_mem _ h2, h3⟩
      · rintro (h | ⟨h1, q, h2, h3⟩)
        · exact .inl h
        · rcases List.mem_cons.mp h2 with rfl | h2
          · exact absurd h3.symm e
          · exact .inr ⟨h1, q, h2, h3⟩
theorem putAll_len : ∀ (ps : List (Int × Cr)) {A : Cr → List Cr} {c x : Cr}, (putAll A c ps x).length ≤ (A x).length + ps.length
  | [], A, c, x => Nat.le_refl _
  | p :: ps, A, c, x => by
    have h := putAll_len ps (A := put1 A p.2 c) (c := c) (x := x)
    have h2 : (put1 A p.2 c x).length ≤ (A x).length + 1 := by
      unfold put1
      by_cases e : x = p.2
      · rw [if_pos e, List.length_append]; exact Nat.le_refl _
      · rw [if_neg e]; omega
    show (putAll (put1 A p.2 c) c ps x).length ≤ _
    rw [List.length_cons]
    omega
theorem putAll_snoc (A : Cr → List Cr) (c : Cr) (ps : List (Int × Cr)) (p : Int × Cr) : putAll A c (ps ++ [p]) = put1 (putAll A c ps) p.2 c := by
  unfold putAll
  rw [List.foldl_append]
  rfl
theorem aheadOf_snoc (S : Cr → List (Int × Cr)) (cs : List Cr) (c : Cr) : aheadOf S (cs ++ [c]) = putAll (aheadOf S cs) c (S c) := by
  unfold aheadOf
  rw [List.foldl_append]
  rfl
theorem aheadOf_mem {S : Cr → List (Int × Cr)} : ∀ (n : Nat) {cs : List Cr} {x d : Cr}, cs.length = n → (d ∈ aheadOf S cs x ↔ d ∈ cs ∧ Edge S d x)
  | 0, cs, x, d, h => by
    have : cs = [] := List.length_eq_zero_iff.mp h
    subst this
    show d ∈ ([] : List Cr) ↔ _
    simp
  | n + 1, cs, x, d, h => by
    obtain ⟨ds, c, rfl⟩ : ∃ ds c, cs = ds ++ [c] := ⟨cs.dropLast, cs.getLast (by intro e; rw [e] at h; cases h), (List.dropLast_concat_getLast _).symm⟩
    rw [aheadOf_snoc, putAll_mem, aheadOf_mem n (by simpa using h)]
    constructor
    · rintro (⟨h1, h2⟩ | ⟨rfl, p, h1, h2⟩)
      · exact ⟨List.mem_append_left _ h1, h2⟩
      · exact ⟨List.mem_append_right _ (List.mem_singleton.mpr rfl), p.1, by rw [← h2]; exact h1⟩
    · rintro ⟨h1, m, h2⟩
      rcases List.mem_append.mp h1 with h1 | h1
      · exact .inl ⟨h1, m, h2⟩
      · rw [List.mem_singleton.mp h1] at h2
        exact .inr ⟨List.mem_singleton.mp h1, (m, x), h2, rfl⟩
theorem aheadOf_len {S : Cr → List (Int × Cr)} (hS : ∀ c, (S c).length ≤ 100) : ∀ (n : Nat) {cs : List Cr} {x : Cr}, cs.length = n → (aheadOf S cs x).length ≤ 100 * n
  | 0, cs, x, h => by
    have : cs = [] := List.length_eq_zero_iff.mp h
    subst this
    exact Nat.le_refl _
  | n + 1, cs, x, h => by
    obtain ⟨ds, c, rfl⟩ : ∃ ds c, cs = ds ++ [c] := ⟨cs.dropLast, cs.getLast (by intro e; rw [e] at h; cases h), (List.dropLast_concat_getLast _).symm⟩
    rw [aheadOf_snoc]
    have h1 := putAll_len (S c) (A := aheadOf S ds) (c := c) (x := x)
    have h2 := aheadOf_len hS n (cs := ds) (x := x) (by simpa using h)
    have h3 := hS c
    omega
theorem aheadOf_pred (S : Cr → List (Int × Cr)) (ks : List Cr) : PredOf S ks (aheadOf S ks) := fun c _ d => aheadOf_mem _ rfl
end Pb
set_option Elab.async false
set_option linter.all false
set_option maxRecDepth 100000
set_option maxHeartbeats 4000000
/-! enumerate(tuple) -/
namespace PySem
open Sem (wp)
set_option maxHeartbeats 1000000 in
theorem pb_meets_enumB {v : Value} {o : Obj} {H : Heap → Prop} (B : Begins v o H) :
    Meets (Builtin.«enumerate.__new__» ⟨[.type "enumerate", v], []⟩) (fun _ R s => H s.heap ∧
      R (.ok (.ret (.ref (s.heap.push o).objs.size))) { s with heap := (s.heap.push o).push { cls := .type "enumerate", data := .fields #[.none, .bool false, .ref s.heap.objs.size, rawInt 0, .none, .none] } }) :=
  .of_wp fun prog w A R s h => by
    obtain ⟨hp, g, d, tk, os⟩ := s; obtain ⟨h1, h⟩ := h
    have hsub := sub_enumerate
    have q1 : ∀ {A' : Around} {E : Value → Shared → Prop} {Q : Value → Shared → Prop}, Q (.ref hp.objs.size) ⟨hp.push o, g, d, tk, os⟩ → wpAny (model prog w) A' (pyIter v) Q E ⟨hp, g, d, tk, os⟩ :=
      fun q => B.iter prog w _ _ ⟨hp, g, d, tk, os⟩ _ h1 q
    wp_walk using q1
    refine wpAny_stack_any fun st => wpAny_pure ?_
    split
    · rename_i c _ _ _ _ _
      cases (c == Value.type "enumerate")
      · wp_walk using q1
        exact ⟨_, rfl, h⟩
      · wp_walk using q1
        exact ⟨_, rfl, h⟩
    · wp_walk using q1
      exact ⟨_, rfl, h⟩
section
variable {prog : Program} {w : World} {A : Around} {E : Value → Shared → Prop} {s : Shared}
theorem pb_call_enum {v : Value} {o : Obj} {H : Heap → Prop} {Q : Value → Shared → Prop} (B : Begins v o H) (h1 : H s.heap)
    (h : ∀ h', IsEnum h' (s.heap.objs.size + 1) s.heap.objs.size 0 .none → h'.get? s.heap.objs.size = some o → h'.objs.size = s.heap.objs.size + 2 →
      (∀ b o, s.heap.get? b = some o → h'.get? b = some o) → Q (.ref (s.heap.objs.size + 1)) { s with heap := h' }) :
    wpAny (model prog w) A (call (.type "enumerate") [v]) Q E s := by
  refine callType_new F.called_enumerate (by decide) (F.typeCall_enumerate_1 _) (F.newCall_enumerate_1 _) (fun obj => F.args_object_init_2 obj _) F.entry_enumerate_new
    (pb_meets_enumB B) ⟨h1, ?_⟩
  have hz : (s.heap.push o).objs.size = s.heap.objs.size + 1 := Heap.size_push ..
  show _ ∧ _
  rw [hz]
  have he : IsEnum ((s.heap.push o).push { cls := .type "enumerate", data := .fields #[.none, .bool false, .ref s.heap.objs.size, rawInt 0, .none, .none] }) (s.heap.objs.size + 1) s.heap.objs.size 0 .none := by
    have := Heap.get?_push_size (s.heap.push o) (o := { cls := .type "enumerate", data := .fields #[.none, .bool false, .ref s.heap.objs.size, rawInt 0, .none, .none] }) rfl
    rw [hz] at this; exact this
  refine ⟨⟨_, he, rfl⟩, h _ he (Heap.get?_push_of_some _ (Heap.get?_push_size _ B.free)) (by rw [Heap.size_push, hz]) fun b o x => Heap.get?_push_of_some _ (Heap.get?_push_of_some _ x)⟩
end
end PySem
namespace L2
open PySem PySem.Spec PyProof.Rows
/-- the tuple at a, each item in a new pair -/
def IteT (K : PySem.W.Frag) (a : Addr) : It :=
  ⟨fun i H => ∃ (xs : List V) (x : V), SqT K H a xs ∧ xs[i]? = some x, fun i H v H' => ∃ T x, v = .ref T ∧ H T = none ∧ H' = upd H T (.tup [.int (i : Nat), x]) ∧ ∀ xs, SqT K H a xs → xs[i]? = some x, fun i H => ∃ xs : List V, SqT K H a xs ∧ xs.length = i⟩
theorem turn_enumT {P : Program} {w : World} {K : PySem.W.Frag} {elts : List Expr} {kk : Nat} {tpos : Pos} (a e it : Addr) (hai : a ≠ it) (hae : a ≠ e) :
    Turn P w K (.Tuple elts kk tpos) (IteT K a) [e, it] e (fun i h => (∃ old, IsEnum h e it ((i : Nat) : Int) old) ∧ h.IsTupleIter it a i ∧ e ≠ it) where
  mem := by simp
  obj := fun i h st b hb => by
    obtain ⟨⟨old, he⟩, ⟨o, ho, hc, hd⟩, _⟩ := st
    have e' : b = e ∨ b = it := by simpa using hb
    rcases e' with z | z
    · rw [z]; exact ⟨_, he, fun v q => nomatch q⟩
    · rw [z]; exact ⟨o, ho, fun v q => by rw [hd] at q; cases q⟩
  keep := fun i h h' st k => let ⟨⟨old, he⟩, hi, hne⟩ := st; ⟨⟨old, k e (by simp) _ he⟩, hi.at fun o q => k it (by simp) o q, hne⟩
  item := by
    intro X hP hw hK hc i pins s σ H E I hf st hg
    subst hP hw hK
    obtain ⟨⟨old, he⟩, hit, hne⟩ := st
    obtain ⟨xs, x, hq, hx⟩ := hg
    obtain ⟨its, rv, p, hz⟩ := I.tuple hq
    obtain ⟨u, hu, ru⟩ := rv.get hx
    have hel : e < s.heap.objs.size := Heap.lt_size he
    have hil : it < s.heap.objs.size := by obtain ⟨_, q, _⟩ := hit; exact Heap.lt_size q
    have hil2 : i < its.toArray.size := by
      have : i < its.length := (List.getElem?_eq_some_iff.mp hu).1
      simpa using this
    refine wpAny_pyNext_enum_itemC (D := Draws.tuple (prog := X.prog) (w := X.w) (A := X.A.in1) (I.ok.hd hc) it a hai its.toArray) he ⟨hit, show s.heap.IsTuple a its.toArray from p⟩ hil2 hne (by simp [hne]; exact fun z => hae z.symm) fun x' h' tk hP ho hst' hT hsz hk => ?_
    obtain ⟨hit', _⟩ := hst'
    have hxu : x' = u := by
      have h1 : its.toArray[i]? = some x' := hP
      have h2 : its.toArray[i]? = some u := by simpa using hu
      rw [h1] at h2
      exact Option.some.inj h2
    subst hxu
    refine ⟨_, rfl, wpAny_letOwnedTupleGo_enum (s := { s with heap := h', toks := tk + 1 }) ho fun h'' he' sb => ?_⟩
    have hT2 : h''.get? s.heap.objs.size = some { cls := .type "tuple", data := .seq #[.int i tk, x'] } := (sb.2 _ (Nat.ne_of_gt hel)).trans hT
    have new : ObjOk X.prog X.w (upd H s.heap.objs.size (.tup [.int (i : Nat), x])) h'' s.heap.objs.size (.tup [.int (i : Nat), x]) :=
      ⟨by show 2 ≤ sizeLine; decide, [.int i tk, x'], .cons ⟨_, rfl⟩ (.cons ru .nil), ⟨_, hT2, rfl, _, rfl⟩⟩
    have I1 : Inv X pins σ (upd H s.heap.objs.size (.tup [.int (i : Nat), x])) { s with heap := h'', toks := tk + 1 } :=
      I.turnedNew (ch := [e, it]) (fun b ob hb q => (sb.2 b (fun z => hb (by simp [z]))).trans (hk b ob (fun z => hb (by simp [z])) (fun z => hb (by simp [z])) q)) hf (Nat.le_refl _) new
    refine ⟨.ref s.heap.objs.size, _, I1, rfl, ⟨_, x, rfl, I.hok.fresh (Nat.le_refl _), rfl, fun ys hy => by rw [I.tuple_inj hy hq]; exact hx⟩, ⟨⟨x', ?_⟩, hit'.at fun o q => (sb.2 it (Ne.symm hne)).trans q, hne⟩, fun b hb => ?_⟩
    · have e1 : ((i + 1 : Nat) : Int) = (i : Int) + 1 := by omega
      rw [e1]; exact he'
    · have hb' : b < s.heap.objs.size := by
        have e' : b = e ∨ b = it := by simpa using hb
        rcases e' with z | z
        · rw [z]; exact hel
        · rw [z]; exact hil
      rw [upd_ne (Nat.ne_of_lt hb')]
      exact (hf b hb).1
  done := by
    intro X hP hw hK hc i pins s σ H E I hf st hg
    subst hP hw hK
    obtain ⟨⟨old, he⟩, hit, hne⟩ := st
    obtain ⟨xs, hq, hx⟩ := hg
    obtain ⟨its, rv, p, hz⟩ := I.tuple hq
    obtain ⟨f0, f1, f2, f3, f4, f5⟩ := hf it (by simp)
    have hl := rv.length
    have e2 : i = its.toArray.size := by simp; omega
    subst e2
    exact wpAny_pyNext_enum_endD (Draws.tuple (prog := X.prog) (w := X.w) (A := X.A.in1) (I.ok.hd hc) it a hai its.toArray) he ⟨hit, show s.heap.IsTuple a its.toArray from p⟩ fun h' eb => ⟨rfl, I.turned (t' := s.toks) (fun b o hb q => eb b o hb q) f0 f1 f3 f4 f5⟩
  self := fun A i s Q E st h => let ⟨⟨_, he⟩, _⟩ := st; wpAny_pyIter_enum he h
def iEnumT (K : PySem.W.Frag) (ta : TA) : TI := fun σ H R => ta σ H fun vs H1 => ∃ a xs, vs = [.ref a] ∧ SqT K H1 a xs ∧ R (IteT K a) H1
theorem pi_enumT {X : Cx} {e : Expr} {ta : TA} {p pos tpos : Pos} {elts : List Expr} {kk : Nat} (hg : Gl X "enumerate") (hm : X.mg "enumerate" = none) (ha : PA X [e] ta) (hs : starEach [e] X.env = [(false, eval e X.env)] := by rfl) :
    PI X (.Tuple elts kk tpos) (.Call (.Name "enumerate" p) [e] [] pos) (iEnumT X.K ta) := by
  refine ⟨fun pins s σ H R I h => ?_⟩
  refine Call_ (ld_blt I hg hm boot_enumerate (PyProof.Rows.callWith_type1 (thn (ha.run pos pins s σ H _ I h) fun us s1 ⟨vs, H1, I1, r1, q1⟩ => ?_) hs rfl))
  obtain ⟨a, xs, ex, hq, q⟩ := q1
  subst ex
  cases r1 with
  | cons r rr =>
    cases rr
    cases r
    obtain ⟨its, rv, p', hz⟩ := I1.tuple hq
    have hal : a < s1.heap.objs.size := by obtain ⟨_, q, _⟩ := p'; exact Heap.lt_size q
    refine pb_call_enum (begins_tuple a its.toArray) (show s1.heap.IsTuple a its.toArray from p') fun h' he hit hsz hk => wpAny_pyIter_enum he ?_
    have I2 : Inv X pins σ H1 { s1 with heap := h' } := I1.kept (t' := s1.toks) hk
    refine ⟨s1.heap.objs.size + 1, [s1.heap.objs.size + 1, s1.heap.objs.size], _, _, H1, rfl, I2, turn_enumT a (s1.heap.objs.size + 1) s1.heap.objs.size (Nat.ne_of_lt hal) (Nat.ne_of_lt (Nat.lt_succ_of_lt hal)), ⟨⟨.none, he⟩, ⟨_, hit, rfl, rfl⟩, Nat.succ_ne_self _⟩, fun b hb => ?_, q⟩
    have e' : b = s1.heap.objs.size + 1 ∨ b = s1.heap.objs.size := by simpa using hb
    have hle : s1.heap.objs.size ≤ b := by
      rcases e' with z | z
      · rw [z]; exact Nat.le_add_right _ _
      · rw [z]; exact Nat.le_refl _
    exact I1.fpOk hle (I1.hok.fresh hle)
theorem walk_enumT {K : PySem.W.Frag} {a : Addr} {xs : List V} : Walk (IteT K a) xs.length (fun H => SqT K H a xs) (YPair (fun i => some (.int (i : Nat))) (fun i => xs[i]?)) := by
  refine ⟨fun i _ hi q => ⟨xs, xs[i], q, by simp [hi]⟩, fun _ q => ⟨xs, q, rfl⟩, fun i H v H' _ q y => ?_⟩
  obtain ⟨T, x, h1, h2, h3, h4⟩ := y
  exact ⟨T, .int (i : Nat), x, h1, h2, h3, rfl, h4 xs q⟩
end L2
set_option Elab.async false
set_option linter.all false
set_option maxRecDepth 100000
set_option maxHeartbeats 4000000
/-! dicts with tuple keys: a display of one pair, dict(pairs), pop -/
namespace L2
open PySem PySem.Spec PyProof.Rows
/-- {k: v} with a tuple key -/
def tDisp1T (tk tv : TE) : TE := fun σ H Q => ∀ p, H p = none → tk σ (upd H p (.dT [])) fun x H1 => tv σ H1 fun y H2 => H2 p = some (.dT []) ∧ ∃ (b : Addr) (k : List Key), x = .ref b ∧ H2 b = some (.tup (k.map kV)) ∧ Q (.ref p) (upd H2 p (.dT [(k, y)]))
theorem pe_disp1T {X : Cx} {pos : Pos} {k v : Expr} {tk tv : TE} (hu : X.A.units + 1 < cLine) (hk : PE X k tk) (hv : PE X v tv) : PE X (.Dict [some k] [v] pos) (tDisp1T tk tv) := by
  refine ⟨fun pins s σ H Q I q => ?_⟩
  have hn := I.hok.fresh (Nat.le_refl s.heap.objs.size)
  have I1 := I.laid (a := s.heap.objs.size) (o := .dT []) (h' := s.heap.push { cls := .type "dict", data := .dict #[] }) (t' := s.toks) (fun _ _ q => Heap.get?_push_of_some _ q) (Nat.le_refl _) (dt_empty s.heap I.big)
  have hshape := zip_pairTrees [some k] [v] X.env pos rfl rfl
  rw [arm_eval_Dict, hshape, dictDisplay_pairs (pairTrees [some k] [v] X.env pos) (by intro z; cases z) (by show 1 < 17; decide)]
  refine wpAny_bind (wpAny_standAt (wpAny_bind (wpAny_subDictH (knd := tupleKind (mixKind X.prog X.w)) (Q := fun d s' => wpAny (model X.prog X.w) X.A (pure (Value.ref d)) (EP X pins σ Q) X.xe s') (show X.A.units < cLine by omega) (by show 1 ≤ 15; decide) ?_)))
  refine pairTrees_cons_walk (thn (hk.run pins _ σ _ _ I1 (q _ hn)) fun u s1 ⟨x, H1, I2, rx, q1⟩ => thn (hv.run pins s1 σ H1 _ I2 q1) fun w2 s2 ⟨y, H2, I3, ry, e, b, ks, ex, eb, q2⟩ => pairTrees_nil_walk ?_)
  subst ex
  obtain rfl : u = Value.ref b := rx
  obtain ⟨z, hd, xs, rel, dd⟩ := dt_of I3.hok e
  have e0 : xs = [] := by
    have l := Paired.length rel
    exact List.length_eq_zero_iff.mp l.symm
  subst e0
  refine ⟨[(ks, b, w2)], ⟨rfl, rfl, key_of I3.hok eb, trivial⟩, dd, fun h' tk hm hs => wpAny_pure ?_⟩
  obtain ⟨o, es, ep, hq, h2, h3, h4, _, h5⟩ := hm
  refine ⟨.ref s.heap.objs.size, upd H2 s.heap.objs.size (.dT [(ks, y)]), ?_, rfl, q2⟩
  refine d_write I3 (by rw [e]; exact True.intro) hs ⟨o, hq⟩ ⟨by show 1 ≤ sizeLine; decide, hd, [(ks, b, w2)], .cons ⟨rfl, ?_, ry⟩ .nil, o, es, ep, hq, h2, h3, h4, h5⟩
  show upd H2 s.heap.objs.size _ b = some (.tup (ks.map kV))
  rw [upd_ne (ne_of eb e (fun z => nomatch z))]
  exact eb

/-- pairs put one behind the other -/
def mergeT (kvs more : List (List Key × V)) : List (List Key × V) := more.foldl (fun acc kv => putK acc kv.1 kv.2) kvs
theorem mergeT_cons (kvs : List (List Key × V)) (p : List Key × V) (r : List (List Key × V)) : mergeT kvs (p :: r) = mergeT (putK kvs p.1 p.2) r := rfl
theorem mergeT_snoc (kvs r : List (List Key × V)) (p : List Key × V) : mergeT kvs (r ++ [p]) = putK (mergeT kvs r) p.1 p.2 := by
  unfold mergeT
  rw [List.foldl_append] <;> rfl
theorem KT.merge {H : Hp} : ∀ {more : List (List Key × V)} {ps : List (List Key × Addr × Value)} {kvs : List (List Key × V)} {xs : List (List Key × Addr × Value)}, KT H more ps → KT H kvs xs → KT H (mergeT kvs more) (storedAllH xs ps)
  | _, _, _, _, .nil, r => r
  | _, _, _, _, .cons (a := p) (b := q) h t, r => by
    obtain ⟨h1, h2, h3⟩ := h
    have e := KT.put r p.1 (b := q.2.1) h2 h3
    rw [h1] at e
    have e2 := KT.merge t e
    rw [mergeT_cons, h1]
    exact e2
theorem length_putT (kvs : List (List Key × V)) (k : List Key) (v : V) : (putK kvs k v).length ≤ kvs.length + 1 := by
  unfold putK
  split
  · rw [List.length_map]; omega
  · rw [List.length_append]; exact Nat.le_refl _
theorem length_mergeT : ∀ (more kvs : List (List Key × V)), (mergeT kvs more).length ≤ kvs.length + more.length
  | [], kvs => Nat.le_refl _
  | p :: r, kvs => by
    have h1 := length_mergeT r (putK kvs p.1 p.2)
    have h2 := length_putT kvs p.1 p.2
    rw [mergeT_cons, List.length_cons]
    omega
section
variable {X : Cx}
theorem pairsT_of {pins : List (Addr × Obj)} {σ : St} {H : Hp} {s : Shared} (I : Inv X pins σ H s) : ∀ {ps : List Addr} {kvs : List (List Key × V)}, Paired (fun p (kv : List Key × V) => ∃ b, SqT X.K H p [.ref b, kv.2] ∧ H b = some (.tup (kv.1.map kV))) ps kvs →
    ∃ prs : List (List Key × Addr × Value), KT H kvs prs ∧ prs.length = ps.length ∧ ∀ (j : Nat) (q : List Key × Addr × Value), prs[j]? = some q → ∃ (p : Addr), ps[j]? = some p ∧ IsTup s.heap p #[.ref q.2.1, q.2.2] ∧ (tupleKind (mixKind X.prog X.w)).is s.heap q.1 q.2.1
  | _, _, .nil => ⟨[], .nil, rfl, fun j q e => by simp at e⟩
  | _, _, .cons (a := p) (b := kv) h t => by
    obtain ⟨prs, r, hl, hp⟩ := pairsT_of I t
    obtain ⟨b, h, hb⟩ := h
    obtain ⟨its, rv, ht, _⟩ := I.tuple h
    obtain ⟨u, y, ei, ru, ry⟩ := vals2 rv
    subst ei
    cases (show u = Value.ref b from ru)
    refine ⟨(kv.1, b, y) :: prs, .cons ⟨rfl, hb, ry⟩ r, by rw [List.length_cons, List.length_cons, hl], fun j q e => ?_⟩
    cases j with
    | zero =>
      have e' : (kv.1, b, y) = q := Option.some.inj e
      subst e'
      exact ⟨p, rfl, ht, key_of I.hok hb⟩
    | succ j =>
      obtain ⟨b, e1, e2, e3⟩ := hp j q (by simpa using e)
      exact ⟨b, by simpa using e1, e2, e3⟩
/-- dict(xs) of a list of pairs (tuple, value) -/
theorem call_dictPT (hcalm : X.calm = true) (hu : X.A.units + 64 < cLine) : CallR X (.type "dict") (fun xs H Q => ∃ (a : Addr) (ps : List Addr) (kvs : List (List Key × V)), xs = [.ref a] ∧ SqL X.K H a (ps.map V.ref) ∧ Paired (fun p (kv : List Key × V) => ∃ b, SqT X.K H p [.ref b, kv.2] ∧ H b = some (.tup (kv.1.map kV))) ps kvs ∧
    ∀ p, H p = none → Q (.ref p) (upd H p (.dT (mergeT [] kvs)))) := by
  intro pins s σ H xs us Q I r q
  obtain ⟨a, ps, kvs, ex, hq, hp, q⟩ := q
  subst ex
  obtain ⟨u, eu, rx⟩ := vals1 r
  subst eu
  cases rx
  obtain ⟨its, rv, pl, hz⟩ := I.list hq
  have ei := refs_at rv
  subst ei
  rw [List.length_map] at hz
  obtain ⟨prs, rel, hl, hpr⟩ := pairsT_of I hp
  obtain ⟨o, n, ho, hc, hd, hdat⟩ := pl
  have ok : PlainSeq "list" s.heap a (ps.map Value.ref).toArray ∧ PairItems s.heap (ps.map Value.ref).toArray (fun j => ps.getD j 0) (prs.map fun q => (Value.ref q.2.1, q.2.2)) := by
    refine ⟨⟨o, n, ho, hc, hd, hdat⟩, by simp [hl], fun j k v e => ?_⟩
    rw [List.getElem?_map] at e
    cases eq : prs[j]? with
    | none => rw [eq] at e; cases e
    | some q' =>
      rw [eq] at e
      have e' : (Value.ref q'.2.1, q'.2.2) = (k, v) := Option.some.inj e
      cases e'
      obtain ⟨p, e1, e2, e3⟩ := hpr j q' eq
      have ed : ps.getD j 0 = p := by simp [List.getD, e1]
      refine ⟨?_, .inl ?_⟩
      · simp [e1]
      · simp only [ed]
        exact e2
  refine PySem.call_dict_pairsH (knd := tupleKind (mixKind X.prog X.w)) (ps := prs) (PairArg.list a _ _ _) (I.ok.hd hcalm) (show X.A.in1.in1.units < cLine by show X.A.units + 1 + 1 < cLine; omega) ok ?_ ?_ (by rw [List.length_map, hl]; exact hz) fun h' tk hd' k => ?_
  · refine ⟨by rw [List.length_map], fun i key v e => ?_⟩
    have e0 : (prs.map fun q => (Value.ref q.2.1, q.2.2))[i]? = some (key, v) := e
    rw [List.getElem?_map] at e0
    cases eq : prs[i]? with
    | none => rw [eq] at e0; cases e0
    | some q' =>
      rw [eq] at e0
      have e' : (Value.ref q'.2.1, q'.2.2) = (key, v) := Option.some.inj e0
      cases e'
      exact ⟨q'.1, q'.2.1, rfl, rfl⟩
  · intro h2 hk x hx
    obtain ⟨j, hj⟩ := List.mem_iff_getElem?.mp hx
    obtain ⟨p, e1, e2, e3⟩ := hpr j x hj
    obtain ⟨ob, its, m, h1, h2', h3, h4⟩ := e3
    exact ⟨ob, its, m, hk _ _ (Nat.ne_of_lt (Heap.lt_size h1)) (by simp) h1, h2', h3, h4⟩
  · have hm : (s.heap.objs.size == sysModules) = false := beq_eq_false_iff_ne.mpr (Nat.ne_of_gt I.big)
    have hlen : (mergeT [] kvs).length ≤ sizeLine := by
      refine Nat.le_trans (length_mergeT kvs []) ?_
      rw [List.length_nil, Nat.zero_add, Paired.length rel, hl]
      exact hz
    obtain ⟨o2, es, ep, hq2, h2, h3, h4, _, h5⟩ := hd'
    have hn := I.hok.fresh (Nat.le_refl s.heap.objs.size)
    refine ⟨.ref s.heap.objs.size, upd H s.heap.objs.size (.dT (mergeT [] kvs)), I.laid (t' := tk) (fun b o e => k b o (by simp) e) (Nat.le_refl _) ⟨hlen, hm, storedAllH [] prs, ?_, o2, es, ep, hq2, h2, h3, h4, h5⟩, rfl, q _ hn⟩
    exact (KT.merge rel (.nil)).keeps fun b ys e => by rw [upd_ne (ne_of_none e hn)]; exact e
end
/-- d.pop(k), a tuple key that is there -/
def rPopT1 : V → List V → Hp → VK → Prop := fun x xs H Q => ∃ (a : Addr) (kvs : List (List L2.Key × V)) (k : List L2.Key) (b : Addr) (v : V), x = .ref a ∧ xs = [.ref b] ∧ H a = some (.dT kvs) ∧ H b = some (.tup (k.map kV)) ∧
  valV kvs k = some v ∧ Q v (upd H a (.dT (dropK kvs k)))
theorem mt_popT1 {X : Cx} (hu : X.A.units + 1 < cLine) : MtR X "dict.pop" rPopT1 := by
  intro pins s σ H x xs v us Q I rx rxs h
  obtain ⟨a, kvs, k, b, d, rfl, rfl, ha, hb, ev, q1⟩ := h
  cases rx
  obtain ⟨u1, rfl, r1⟩ := vals1 rxs
  cases r1
  obtain ⟨z, hd, xs', rel, dd⟩ := dt_of I.hok ha
  have hz : xs'.length ≤ sizeLine := by rw [← Paired.length rel]; exact z
  have r := rel.val k
  rw [ev] at r
  obtain ⟨p, hp, rv⟩ : ∃ p, atKey xs' k = some p ∧ RelV d p.2 := by
    cases ep : atKey xs' k with
    | none => rw [ep] at r; exact (show False from r).elim
    | some p => rw [ep] at r; exact ⟨p, rfl, r⟩
  refine call_pop_heap (hsz := hz) (more := []) (knd := tupleKind (mixKind X.prog X.w)) (k := k) (.inl rfl) (PySem.F.args_dict_pop_2 _ _) (tupleKind_room_in1 hu) (key_of I.hok hb) hd dd hp fun h' dd' hs => ?_
  obtain ⟨o, es, ep, hq, h2, h3, h4, _, h5⟩ := dd'
  have ew : withoutH xs' k = DT.dropH xs' k := rfl
  have I2 : Inv X pins σ (upd H a (.dT (dropK kvs k))) { s with heap := h', toks := s.toks + (tupleKind (mixKind X.prog X.w)).draws k } :=
    d_write I (by rw [ha]; exact True.intro) hs ⟨o, hq⟩ ⟨Nat.le_trans (dropK_le kvs k) z, hd, _, (DX.KT_drop k rel).keeps (fun c ys ec => (by rw [upd_ne (ne_of ec ha (fun z => nomatch z))]; exact ec)), o, es, ep, hq, h2, h3, h4, h5⟩
  show EP X pins σ Q p.2 _
  exact ⟨d, _, I2, rv, q1⟩
end L2
set_option Elab.async false
set_option linter.all false
set_option maxRecDepth 100000
set_option maxHeartbeats 4000000
/-! sorted of data, any length -/
namespace L2
open PySem PySem.Spec PyProof.Rows
open PySem.W (EachIs AllAlike Sortable dataLe alike)
abbrev DB := List (V × PyData)
def srt (bs : DB) : DB := bs.mergeSort (dataLe false (fun b => b.2))
theorem each_vals {R : V × PyData → Value → Prop} : ∀ {vs : List Value} {bs : DB}, EachIs (fun v b => RelV b.1 v) vs bs → Vals (bs.map (·.1)) vs
  | _, _, .nil => .nil
  | _, _, .cons h t => .cons h (each_vals (R := R) t)
theorem vals_each : ∀ {vs : List Value} {bs : DB}, Vals (bs.map (·.1)) vs → EachIs (fun v b => RelV b.1 v) vs bs
  | vs, [], r => by
    rw [List.map_nil] at r
    cases r
    exact .nil
  | vs, b :: bs, r => by
    rw [List.map_cons] at r
    cases r with
    | cons h t => exact .cons h (vals_each t)
theorem each_reads {X : Cx} {pins : List (Addr × Obj)} {σ : St} {H : Hp} {s : Shared} (I : Inv X pins σ H s) : ∀ {vs : List Value} {bs : DB}, Vals (bs.map (·.1)) vs → (∀ b ∈ bs, Dp X.K H b.1 b.2) → EachIs (fun v b => ∃ as, Reads s.heap v b.2 as) vs bs
  | vs, [], r, _ => by
    rw [List.map_nil] at r
    cases r
    exact .nil
  | vs, b :: bs, r, h => by
    rw [List.map_cons] at r
    cases r with
    | cons h1 t => exact .cons (Dp.reads I b.2 b.1 _ (h b (List.mem_cons_self ..)) h1) (each_reads I t fun c hc => h c (List.mem_cons_of_mem _ hc))
def rSortDt (K : PySem.W.Frag) : List V → Hp → VK → Prop := fun vs H Q => ∃ (a : Addr) (bs : DB), vs = [V.ref a] ∧ SqL K H a (bs.map (·.1)) ∧ (∀ b ∈ bs, Dp K H b.1 b.2) ∧ AllAlike (bs.map (·.2)) ∧ Sortable (bs.map (·.2)) ∧ (∀ b ∈ bs, b.2.depth ≤ 16) ∧
  ∀ p, H p = none → Q (.ref p) (upd H p (.lst ((srt bs).map (·.1))))
theorem cr_sortDt {X : Cx} (hu : X.A.units + 64 < cLine) : CallR X (.builtin "sorted") (rSortDt X.K) := by
  intro pins s σ H xs us Q I r q
  obtain ⟨a, bs, rfl, hq, hd, hal, hk, hdep, q⟩ := q
  obtain ⟨u, rfl, rx⟩ := r.one
  cases rx
  obtain ⟨its, rv, pl, hz⟩ := I.list hq
  refine PySem.W.sorted_data (enc := fun b : V × PyData => b.2) pl.isList (vals_each rv) (each_reads I rv hd) hal hk (by rw [List.length_map] at hz; exact hz) (fun b hb => by have := hdep b hb; omega) fun out ho eo => ?_
  obtain ⟨c, hc⟩ := PyProof.Rows.sortedAll_at s.heap its out.toArray
  have hlen : ((srt bs).map (·.1)).length ≤ sizeLine := by
    rw [List.length_map]
    show (bs.mergeSort _).length ≤ _
    rw [List.length_mergeSort]
    rw [List.length_map] at hz
    exact hz
  refine ⟨.ref (s.heap.objs.size + 1), upd H (s.heap.objs.size + 1) (.lst ((srt bs).map (·.1))), I.laid (t' := s.toks) (fun b o e => PyProof.Rows.sortedAll_old e) (Nat.le_succ _) ⟨hlen, out, c, each_vals (R := fun _ _ => True) eo, hc⟩, rfl, q _ (I.hok.fresh (Nat.le_succ _))⟩
theorem dpAll_ints (K : PySem.W.Frag) (H : Hp) : ∀ ns : List Int, DpAll K H (ns.map V.int) (ns.map PyData.int)
  | [] => .nil
  | i :: r => .cons (.int i) (dpAll_ints K H r)
theorem dp_tupI {K : PySem.W.Frag} {H : Hp} {a : Addr} {ns : List Int} (e : H a = some (.tup (ns.map V.int))) : Dp K H (.ref a) (.tuple (ns.map .int)) := .tup (.inl (.inl e)) (dpAll_ints K H ns)
theorem readsAll_ints {h : Heap} : ∀ (c : List Int) {vs : List Value} {as : List Addr}, ReadsAll h vs (c.map PyData.int) as → as = []
  | [], _, _, r => by
    cases r
    rfl
  | i :: c, _, _, r => by
    rw [List.map_cons] at r
    cases r with
    | cons h1 h2 =>
      cases h1
      rw [readsAll_ints c h2]
      rfl
/-- sorted(d): a dict whose keys are tuples of ints -/
def rSortKT : List V → Hp → VK → Prop := fun vs H Q => ∃ (d : Addr) (kvs : List (List Key × V)) (ns : List (List Int)), vs = [V.ref d] ∧ Rd H d (.dT kvs) ∧ kvs.map (·.1) = ns.map (fun c => c.map Sum.inl) ∧ (∀ c ∈ ns, c ≠ []) ∧
  ∀ (p : Addr) (bs : DB), H p = none → bs.map (·.2) = ns.map (fun c => PyData.tuple (c.map .int)) → (∀ b ∈ bs, ∃ a c, b.1 = .ref a ∧ b.2 = .tuple (List.map PyData.int c) ∧ H a = some (.tup (c.map V.int))) → Q (.ref p) (upd H p (.lst ((srt bs).map (·.1))))
theorem cr_sortKT {X : Cx} (hc : X.calm = true) (hu : X.A.units + 64 < cLine) : CallR X (.builtin "sorted") rSortKT := by
  intro pins s σ H xs us Q I r q
  obtain ⟨d, kvs, ns, rfl, hd, hkeys, hne, q⟩ := q
  obtain ⟨u, rfl, rx⟩ := r.one
  cases rx
  obtain ⟨z, hs, ks, pr, o, es, ep, ho, hx, hdt, he, hn⟩ := (show ObjOk X.prog X.w H s.heap d (.dT kvs) from hd.ok I.hok)
  have l1 : es.size = ks.length := size_of_entries he
  have l2 : kvs.length = ks.length := Paired.length pr
  have l3 : kvs.length = ns.length := by
    have e := congrArg List.length hkeys
    simpa using e
  refine Calls.call_function_entry PyProof.Rows.kind_sorted PyProof.Rows.plain_sorted PyProof.Rows.entry_sorted (PyProof.Rows.args_sorted1 _) ?_
  unfold Builtin.«sorted»
  refine wpAny_bind (m := checkCount "sorted" 1 1 _) (wpAny_pure ?_)
  refine wpAny_bind (PySem.W.kdu_collect (A := X.A.in1) (kdl_raw hs hx hdt) (I.ok.hd hc) ho (by omega) fun h' tk acc' kp it => ?_)
  have ea : acc'.toList = ks.map fun x => Value.ref x.2.1 := by
    have hl : acc'.toList.length = ks.length := by rw [Array.length_toList, it.1]; exact l1
    apply List.ext_getElem?
    intro j
    rw [List.getElem?_map]
    cases hj : acc'.toList[j]? with
    | none =>
      have h1 := List.getElem?_eq_none_iff.mp hj
      rw [List.getElem?_eq_none (by omega)]
      all_goals rfl
    | some v =>
      obtain ⟨en, hen, hv⟩ := it.2 j v (by rw [← Array.getElem?_toList]; exact hj)
      have qe := entry_at he j
      rw [hen] at qe
      cases hb : ks[j]? with
      | none =>
        rw [hb] at qe
        exact nomatch (show some en = none from qe)
      | some b =>
        rw [hb] at qe
        have e2 : en = entryOfKey (tupleKind (mixKind X.prog X.w)) b := Option.some.inj qe
        rw [hv, e2]
        all_goals rfl
  have I1 : Inv X pins σ H { s with heap := h', toks := tk } := I.kept kp
  let bs : DB := (ks.zip ns).map fun z => (V.ref z.1.2.1, PyData.tuple (z.2.map .int))
  have lb : bs.length = ks.length := by
    show ((ks.zip ns).map _).length = _
    rw [List.length_map, List.length_zip]; omega
  have hb2 : bs.map (·.2) = ns.map (fun c => PyData.tuple (c.map .int)) := by
    show ((ks.zip ns).map _).map _ = _
    rw [List.map_map]
    have : ((fun x : V × PyData => x.2) ∘ fun z : (List Key × Addr × Value) × List Int => (V.ref z.1.2.1, PyData.tuple (z.2.map .int))) = (fun c : List Int => PyData.tuple (c.map .int)) ∘ Prod.snd := rfl
    rw [this, ← List.map_map, List.map_snd_zip]
    omega
  have hb1 : bs.map (·.1) = ks.map fun x => V.ref x.2.1 := by
    show ((ks.zip ns).map _).map _ = _
    rw [List.map_map]
    have : ((fun x : V × PyData => x.1) ∘ fun z : (List Key × Addr × Value) × List Int => (V.ref z.1.2.1, PyData.tuple (z.2.map .int))) = (fun x : List Key × Addr × Value => V.ref x.2.1) ∘ Prod.fst := rfl
    rw [this, ← List.map_map, List.map_fst_zip]
    omega
  have hmem : ∀ b ∈ bs, ∃ a c, b.1 = .ref a ∧ b.2 = .tuple (List.map PyData.int c) ∧ c ∈ ns ∧ H a = some (.tup (c.map V.int)) := by
    intro b hb
    obtain ⟨z, hz, rfl⟩ := List.mem_map.mp hb
    obtain ⟨j, hj⟩ := List.mem_iff_getElem?.mp hz
    rw [List.getElem?_zip_eq_some] at hj
    obtain ⟨j1, j2⟩ := hj
    have hjl : j < kvs.length := by
      have := (List.getElem?_eq_some_iff.mp j1).1
      omega
    have hkj : kvs[j]? = some kvs[j] := List.getElem?_eq_getElem hjl
    obtain ⟨y, e1, e2, e3, e4⟩ := paired_get pr hkj
    rw [j1] at e1
    cases e1
    have ek : (kvs.map (·.1))[j]? = some kvs[j].1 := by rw [List.getElem?_map, hkj]; rfl
    rw [hkeys, List.getElem?_map, j2] at ek
    have ek' : z.2.map Sum.inl = kvs[j].1 := Option.some.inj ek
    rw [← ek', List.map_map] at e3
    exact ⟨_, z.2, rfl, rfl, List.mem_of_getElem? j2, e3⟩
  have hD : ∀ b ∈ bs, Dp X.K H b.1 b.2 := fun b hb => by
    obtain ⟨a, c, e1, e2, _, e3⟩ := hmem b hb
    rw [e1, e2]
    exact dp_tupI e3
  have rv : Vals (bs.map (·.1)) acc'.toList := by
    rw [hb1, ea]
    have := vals_refs (ks.map fun x => x.2.1)
    rw [List.map_map, List.map_map] at this
    exact this
  have hal : AllAlike (bs.map (·.2)) := by
    rw [hb2]
    exact PySem.W.AllAlike.of fun b b' => by
      show alike (.tuple _) (.tuple _) = true
      rw [show alike (.tuple (b.map PyData.int)) (.tuple (b'.map PyData.int)) = PySem.W.alikeAll (b.map PyData.int) (b'.map PyData.int) by simp [alike]]
      exact PySem.W.alike_ints b b'
  have hso : Sortable (bs.map (·.2)) := by
    rw [hb2]
    refine .inl fun d hd => ?_
    obtain ⟨c, hc, rfl⟩ := List.mem_map.mp hd
    cases c with
    | nil => exact absurd rfl (hne [] hc)
    | cons x r => exact ⟨_, _, rfl⟩
  have hdep : ∀ b ∈ bs, b.2.depth ≤ 1 := fun b hb => by
    obtain ⟨a, c, e1, e2, _, e3⟩ := hmem b hb
    rw [e2]
    show PyData.depth (.tuple (c.map .int)) ≤ 1
    rw [PyData.depth, PySem.W.depth_ints]
    exact Nat.le_refl _
  refine wpAny_bind (wpAny_newList ?_ (by rw [Array.length_toList, it.1]; omega))
  have hoL : (h'.push (seqObj "list" acc'.toList.toArray 0)).get? h'.objs.size = some (seqObj "list" acc'.toList.toArray 0) := Heap.get?_push_size _ rfl
  show wpAny _ _ _ _ _ { s with heap := h'.push (seqObj "list" acc'.toList.toArray 0), toks := tk }
  have I3 : Inv X pins σ H { s with heap := h'.push (seqObj "list" acc'.toList.toArray 0), toks := tk } := I1.kept (t' := tk) fun b o e => Heap.get?_push_of_some _ e
  have er : EachIs (fun v b => ∃ as, Reads (h'.push (seqObj "list" acc'.toList.toArray 0)) v b.2 as) acc'.toList bs := each_reads I3 rv hD
  have er2 : EachIs (fun v b => ∃ as, Reads (h'.push (seqObj "list" acc'.toList.toArray 0)) v b.2 as ∧ h'.objs.size ∉ as) acc'.toList bs := by
    have all0 : ∀ {vs : List Value} {l : DB}, EachIs (fun v b => ∃ as, Reads (h'.push (seqObj "list" acc'.toList.toArray 0)) v b.2 as) vs l → (∀ b ∈ l, ∃ c : List Int, b.2 = .tuple (c.map PyData.int)) → EachIs (fun v b => ∃ as, Reads (h'.push (seqObj "list" acc'.toList.toArray 0)) v b.2 as ∧ h'.objs.size ∉ as) vs l := by
      intro vs l r
      induction r with
      | nil => intro _; exact .nil
      | @cons v b vs l h t ih =>
        intro hc
        obtain ⟨as, hr⟩ := h
        obtain ⟨c, ec⟩ := hc b (List.mem_cons_self ..)
        refine .cons ⟨as, hr, ?_⟩ (ih fun b hb => hc b (List.mem_cons_of_mem _ hb))
        rw [ec] at hr
        cases hr with
        | tuple h1 h2 h3 h4 =>
          rw [readsAll_ints _ h4]
          simp
    exact all0 er fun b hb => by
      obtain ⟨a, c, e1, e2, _, e3⟩ := hmem b hb
      exact ⟨c, e2⟩
  refine wpAny_bind (wpAny_holding (PySem.W.list_sort_data (enc := fun b : V × PyData => b.2) (R := fun v b => RelV b.1 v) hoL (vals_each rv) er2 hal hso (by rw [lb]; omega) (fun b hb => by have := hdep b hb; show X.A.units + 1 + 1 + _ < _; omega) fun out ho eo => ?_))
  obtain ⟨e', he'⟩ := PyProof.Rows.sortedHeap_at (vs := acc'.toList) (out := out.toArray) hoL
  have hlen : ((srt bs).map (·.1)).length ≤ sizeLine := by
    rw [List.length_map]
    show (bs.mergeSort _).length ≤ _
    rw [List.length_mergeSort]
    omega
  refine wpAny_pure ⟨_, rfl, .ref h'.objs.size, upd H h'.objs.size (.lst ((srt bs).map (·.1))), I1.laid (t' := tk) (fun b u e => ?_) (Nat.le_refl _) ⟨hlen, out, e', each_vals (R := fun _ _ => True) eo, he'⟩, rfl, q _ _ (I1.hok.fresh (Nat.le_refl _)) hb2 fun b hb => by
    obtain ⟨a, c, e1, e2, _, e3⟩ := hmem b hb
    exact ⟨a, c, e1, e2, e3⟩⟩
  have hb : b < h'.objs.size := Heap.lt_size e
  show (PyProof.Rows.sortedHeap _ _ _ _).get? b = some u
  rw [PyProof.Rows.sortedHeap_old (Nat.ne_of_lt hb) (by rw [size_push']; exact Nat.lt_succ_of_lt hb)]
  exact Heap.get?_push_of_some _ e
end L2
set_option Elab.async false
set_option linter.all false
set_option maxRecDepth 100000
set_option maxHeartbeats 4000000
/-! repr of True, False, None; xs.count of a text -/
namespace L2
open PySem PySem.Spec PyProof.Rows
/-- True, False, None as texts -/
def repT : V → Option Str
  | .bl true => some "True"
  | .bl false => some "False"
  | .non => some "None"
  | _ => none
theorem call_repr_tri {X : Cx} : CallR X (.builtin "repr") (fun xs H Q => ∃ x z, xs = [x] ∧ repT x = some z ∧ Q (.str z) H) := by
  intro pins s σ H xs us Q I r h
  obtain ⟨x, z, rfl, hz, q⟩ := h
  obtain ⟨u, rfl, ru⟩ := r.one
  cases x with
  | non =>
    cases ru
    cases hz
    exact PySem.P.repr_of_none ⟨.str _, H, I.tok _, ⟨_, rfl⟩, q⟩
  | bl b =>
    cases ru
    cases b with
    | true =>
      cases hz
      exact PySem.P.repr_of_bool ⟨.str _, H, I.tok _, ⟨_, rfl⟩, q⟩
    | false =>
      cases hz
      exact PySem.P.repr_of_bool ⟨.str _, H, I.tok _, ⟨_, rfl⟩, q⟩
  | _ => cases hz
def rCntS (K : PySem.W.Frag) : V → List V → Hp → VK → Prop := fun x xs H Q => ∃ (p : Addr) (ys : List Str) (k : Str), x = .ref p ∧ xs = [.str k] ∧ SqL K H p (ys.map V.str) ∧ Q (.int ((ys.countP (fun y => decide (y = k)) : Nat) : Int)) H
theorem countIn_strs (k : Str) : ∀ ys : List Str, countIn (.str k) (ys.map PyData.str) = ((ys.countP (fun y => decide (y = k)) : Nat) : Int)
  | [] => rfl
  | y :: ys => by
    rw [List.map_cons, List.countP_cons, countIn, countIn_strs k ys]
    simp only [same]
    by_cases e : y = k
    · subst e
      simp
      omega
    · simp [e, beq_eq_false_iff_ne.mpr e]
theorem mt_countS {X : Cx} : MtR X "list.count" (rCntS X.K) := by
  intro pins s σ H x xs v us Q I rx rxs h
  obtain ⟨p, ns, k, rfl, rfl, hs, q⟩ := h
  cases rx
  obtain ⟨u, rfl, ru⟩ := rxs.one
  obtain ⟨t, rfl⟩ := ru
  obtain ⟨its, rv, pl, hlen⟩ := I.list hs
  refine count_list_strs pl.isList rv.strs ?_
  rw [countIn_strs]
  exact ⟨.int _, H, I.tok _, ⟨s.toks, rfl⟩, q⟩
end L2
set_option Elab.async false
set_option linter.all false
set_option maxRecDepth 100000
set_option maxHeartbeats 4000000
/-! how things stand in the heap -/
namespace Pb
open PySem PySem.Spec PyProof.Rows L2
open C8 (Cal pe_c)
/-! ### defs and names -/
structure Tx (mg : Str → Option Value) : Prop where
  len : mg "len" = none
  range : mg "range" = none
  list : mg "list" = none
  tuple : mg "tuple" = none
  sorted : mg "sorted" = none
  enumerate : mg "enumerate" = none
  isinstance : mg "isinstance" = none
  all : mg "all" = none
  sum : mg "sum" = none
  dict : mg "dict" = none
  int : mg "int" = none
  max : mg "max" = none
  min : mg "min" = none
  repr : mg "repr" = none
  bool : mg "bool" = none
structure DefAt (K : PySem.W.Frag) (mg : Str → Option Value) (x : Str) (st : Stmt) (dvs : List V) : Prop where
  ex : ∃ (f : Addr) (fd : FuncData), FnP K x st dvs f fd ∧ mg x = some (.ref f)
section
variable {P : Program} {w : World} {K : PySem.W.Frag} {mg : Str → Option Value} {base : Heap}
abbrev BodyOk (P : Program) (w : World) (K : PySem.W.Frag) (mg : Str → Option Value) (base : Heap) (x : Str) (st : Stmt) (N : List Str) (k : Nat) (sp : Sp) : Prop :=
  ∀ (f : Addr) (cdv : Value) (A : Around) (outer : List Env) (s : Shared) (H : Hp) (vs : List V) (Q : VK) (E : XK), Room k (A.deeper (envOfC x (defScope st) s.heap.objs.size f cdv)) → sp vs H Q E →
      ∃ t, PSs (cxOf CX0 P w K mg base N x (defScope st) f cdv A outer s H E).nox (defBody st) t ∧ t { nx := fun _ H' => Q .non H', rt := Q } (start N vs) H
theorem cal0 {x : Str} {st : Stmt} {N ps : List Str} {k : Nat} {sp : Sp} (D : DefAt K mg x st []) (S : FnScope N ps (defScope st))
    (hb : ∀ (kV doc pm : Value) (an : Option Addr) (cdv ct : Value) (us : List Value), us.length = ps.length → bindArgs (PySem.W.fnOf x x (defArgs st) (defBody st) (defScope st) .none kV doc pm an cdv ct) ⟨us, []⟩ = pure (ps.zip us))
    (len : ∀ vs H Q E, sp vs H Q E → vs.length = ps.length) (hbody : BodyOk P w K mg base x st N k sp) : Cal P w K mg base (k + 1) x sp [] := by
  obtain ⟨f, fd, F, hm⟩ := D.ex
  refine ⟨f, fd, ps, [], F.ok S len (fun cdv A outer s H vs Q E hr hsp => ?_), hm, F.kp, F.bindsN hb, .nil⟩
  obtain ⟨t, h, q⟩ := hbody f cdv A outer s H vs Q E hr hsp
  exact ⟨t, PSs.nox h, q⟩
/-- one default, 1000, that is left out -/
theorem cal1 {x : Str} {st : Stmt} {N ps : List Str} {k n : Nat} {sp : Sp} (D : DefAt K mg x st [.int 1000]) (S : FnScope N ps (defScope st)) (hn : n + 1 = ps.length)
    (hb : ∀ (T : Addr) (kV doc pm : Value) (an : Option Addr) (cdv ct : Value) (us its : List Value), us.length = n → its.length = 1 →
      ∃ k, bindArgs (PySem.W.fnOf x x (defArgs st) (defBody st) (defScope st) (.ref T) kV doc pm an cdv ct) ⟨us, []⟩ = seqItems? (.ref T) >>= k ∧ k (some its.toArray) = pure (ps.zip (us ++ its)))
    (len : ∀ vs H Q E, sp vs H Q E → vs.length = ps.length) (hbody : BodyOk P w K mg base x st N k sp) : Cal P w K mg base (k + 1) x sp [.int 1000] := by
  obtain ⟨f, fd, F, hm⟩ := D.ex
  obtain ⟨ds, hds, hB⟩ := F.binds1 (ps := ps) n 0 (by simp) (by simpa using hn) fun T kV doc pm an cdv ct us its h1 h2 => hb T kV doc pm an cdv ct us its h1 h2
  refine ⟨f, fd, ps, ds, F.ok S len (fun cdv A outer s H vs Q E hr hsp => ?_), hm, F.kp, hB, hds⟩
  obtain ⟨t, h, q⟩ := hbody f cdv A outer s H vs Q E hr hsp
  exact ⟨t, PSs.nox h, q⟩
end
/-! ### heaps -/
/-- tuples stand -/
def Tk (H H' : Hp) : Prop := ∀ a xs, H a = some (.tup xs) → H' a = some (.tup xs)
/-- all but a stands -/
def But (a : Addr) (H H' : Hp) : Prop := ∀ b o, b ≠ a → H b = some o → H' b = some o
section
variable {H H' H1 H2 : Hp} {a b p : Addr} {o u : HO}
theorem Tk.refl (H : Hp) : Tk H H := fun _ _ h => h
theorem Tk.trans (x : Tk H H1) (y : Tk H1 H2) : Tk H H2 := fun a xs h => y a xs (x a xs h)
theorem Tk.same (x : Same H H1) : Tk H H1 := fun a xs h => x a _ h
theorem Tk.new (h : H p = none) : Tk H (upd H p o) := fun a xs e => by rw [upd_ne (ne_of_none e h)]; exact e
theorem Tk.mutL {xs : List V} (h : H p = some (.lst xs)) : Tk H (upd H p o) := fun a ys e => by rw [upd_ne (ne_of e h (by intro z; cases z))]; exact e
theorem Tk.mutD {kvs : List (List Key × V)} (h : H p = some (.dT kvs)) : Tk H (upd H p o) := fun a ys e => by rw [upd_ne (ne_of e h (by intro z; cases z))]; exact e
theorem Tk.butL {xs : List V} (h : H p = some (.lst xs)) (k : But p H H') : Tk H H' := fun a ys e => k a _ (ne_of e h (by intro z; cases z)) e
theorem Tk.butD {kvs : List (List Key × V)} (h : H p = some (.dT kvs)) (k : But p H H') : Tk H H' := fun a ys e => k a _ (ne_of e h (by intro z; cases z)) e
theorem same_new (h : H p = none) : Same H (upd H p o) := fun b u e => by rw [upd_ne (ne_of_none e h)]; exact e
theorem same_put (s : Same H H1) (h : H p = none) : Same H (upd H1 p o) := fun b u e => by rw [upd_ne (ne_of_none e h)]; exact s b u e
theorem but_upd : But a H (upd H a o) := fun b u n e => by rw [upd_ne n]; exact e
theorem But.refl (a : Addr) (H : Hp) : But a H H := fun _ _ _ h => h
theorem But.trans (x : But a H H1) (y : But a H1 H2) : But a H H2 := fun b u n e => y b u n (x b u n e)
theorem But.same (x : Same H H1) : But a H H1 := fun b u _ e => x b u e
theorem But.put (x : But a H H1) (h : H p = none) : But a H (upd H1 p o) := fun b u n e => by rw [upd_ne (ne_of_none e h)]; exact x b u n e
theorem But.self (x : But a H H1) : But a H (upd H1 a o) := fun b u n e => by rw [upd_ne n]; exact x b u n e
theorem But.toSame (x : But a H H1) (h : H a = none) : Same H H1 := fun b u e => x b u (ne_of_none e h) e
theorem upd_none (h : upd H a o p = none) : p ≠ a ∧ H p = none := by
  by_cases e : p = a
  · rw [e, upd_same] at h; cases h
  · rw [upd_ne e] at h; exact ⟨e, h⟩
theorem at_ne (h : H b = some u) (n : b ≠ a) : upd H a o b = some u := by rw [upd_ne n]; exact h
theorem ne_tl {xs ys : List V} (h : H a = some (.tup xs)) (h' : H b = some (.lst ys)) : a ≠ b := ne_of h h' (by intro z; cases z)
end
theorem Paired.getR {α β : Type} {F : α → β → Prop} : ∀ {xs : List α} {ys : List β} {i : Nat} {y : β}, Paired F xs ys → ys[i]? = some y → ∃ x, xs[i]? = some x ∧ F x y
  | _, _, _, _, .nil, h => by simp at h
  | _, _, 0, _, .cons f _, h => by cases h; exact ⟨_, rfl, f⟩
  | _, _, i + 1, y, .cons _ t, h => by
    obtain ⟨x, e, f⟩ := Paired.getR (i := i) (y := y) t (by simpa using h)
    exact ⟨x, by simpa using e, f⟩
theorem Paired.app {α β : Type} {F : α → β → Prop} : ∀ {xs xs' : List α} {ys ys' : List β}, Paired F xs ys → Paired F xs' ys' → Paired F (xs ++ xs') (ys ++ ys')
  | _, _, _, _, .nil, h => h
  | _, _, _, _, .cons f t, h => .cons f (Paired.app t h)
theorem paired_maps {α β γ : Type} {F : β → γ → Prop} {f : α → β} {g : α → γ} : ∀ {l : List α}, (∀ x ∈ l, F (f x) (g x)) → Paired F (l.map f) (l.map g)
  | [], _ => .nil
  | x :: l, h => .cons (h x (List.mem_cons_self ..)) (paired_maps fun y hy => h y (List.mem_cons_of_mem _ hy))
/-! ### crowds, meetings, rules -/
def ck (c : Cr) : List Key := c.map Sum.inl
theorem ck_kV (c : Cr) : (ck c).map kV = c.map V.int := by
  unfold ck
  rw [List.map_map] <;> rfl
theorem ck_inj {a b : Cr} (h : ck a = ck b) : a = b := by
  unfold ck at h
  exact (List.map_inj_right (fun x y e => Sum.inl.inj e)).mp h
def CrAt (H : Hp) (v : V) (c : Cr) : Prop := ∃ a, v = .ref a ∧ H a = some (.tup (c.map V.int))
def PrAt (H : Hp) (v : V) (p : Int × Cr) : Prop := ∃ a u, v = .ref a ∧ H a = some (.tup [.int p.1, u]) ∧ CrAt H u p.2
def MtAt (H : Hp) (v : V) (m : Mt) : Prop := ∃ a, v = .ref a ∧ H a = some (.tup [.int m.1, .int m.2.1, .int m.2.2.1, .int m.2.2.2])
def RlAt (H : Hp) (v : V) (r : Rl) : Prop := ∃ (a s m z : Addr) (ms : List V), v = .ref a ∧ H a = some (.tup [.int r.rooms, .ref s, .ref m, .ref z]) ∧ H s = some (.tup (r.starts.map V.int)) ∧ H m = some (.tup ms) ∧ Paired (MtAt H) ms r.meets ∧ H z = some (.tup (r.says.map V.bl))
section
variable {H H' : Hp} {v : V} (k : Tk H H')
include k
theorem CrAt.tk {c : Cr} (h : CrAt H v c) : CrAt H' v c := let ⟨a, e, q⟩ := h; ⟨a, e, k _ _ q⟩
theorem PrAt.tk {c : Int × Cr} (h : PrAt H v c) : PrAt H' v c := let ⟨a, u, e, q, z⟩ := h; ⟨a, u, e, k _ _ q, z.tk k⟩
theorem MtAt.tk {m : Mt} (h : MtAt H v m) : MtAt H' v m := let ⟨a, e, q⟩ := h; ⟨a, e, k _ _ q⟩
theorem RlAt.tk {r : Rl} (h : RlAt H v r) : RlAt H' v r :=
  let ⟨a, s, m, z, ms, e, q1, q2, q3, q4, q5⟩ := h
  ⟨a, s, m, z, ms, e, k _ _ q1, k _ _ q2, k _ _ q3, q4.mono fun _ _ => MtAt.tk k, k _ _ q5⟩
theorem crs_tk {vs : List V} {cs : List Cr} (h : Paired (CrAt H) vs cs) : Paired (CrAt H') vs cs := h.mono fun _ _ => CrAt.tk k
theorem prs_tk {vs : List V} {cs : List (Int × Cr)} (h : Paired (PrAt H) vs cs) : Paired (PrAt H') vs cs := h.mono fun _ _ => PrAt.tk k
end
theorem CrAt.new {H : Hp} {p : Addr} {c : Cr} : CrAt (upd H p (.tup (c.map V.int))) (.ref p) c := ⟨p, rfl, upd_same⟩
/-- a dict's keys are these crowds -/
def DkAt (H : Hp) (d : Addr) (cs : List Cr) (F : V → Cr → Prop) : Prop := ∃ kvs : List (List Key × V), Rd H d (.dT kvs) ∧ Paired (fun kv c => kv.1 = ck c ∧ F kv.2 c) kvs cs
theorem dk_get {kvs : List (List Key × V)} {cs : List Cr} {F : V → Cr → Prop} (h : Paired (fun kv c => kv.1 = ck c ∧ F kv.2 c) kvs cs) {c : Cr} : (c ∈ cs ∧ ∃ v, valV kvs (ck c) = some v ∧ F v c) ∨ (c ∉ cs ∧ valV kvs (ck c) = none) := by
  induction h with
  | nil => exact .inr ⟨by simp, rfl⟩
  | @cons kv d kvs cs f t ih =>
    by_cases e : d = c
    · subst e
      exact .inl ⟨List.mem_cons_self .., kv.2, valV_pos f.1, f.2⟩
    · have ne : ¬ kv.1 = ck c := fun z => e (ck_inj (f.1.symm.trans z))
      rw [valV_neg ne]
      rcases ih with ⟨h1, h2⟩ | ⟨h1, h2⟩
      · exact .inl ⟨List.mem_cons_of_mem _ h1, h2⟩
      · refine .inr ⟨fun z => ?_, h2⟩
        rcases List.mem_cons.mp z with z | z
        · exact e z.symm
        · exact h1 z
theorem dk_some {kvs : List (List Key × V)} {cs : List Cr} {F : V → Cr → Prop} (h : Paired (fun kv c => kv.1 = ck c ∧ F kv.2 c) kvs cs) {c : Cr} (hc : c ∈ cs) : ∃ v, valV kvs (ck c) = some v ∧ F v c := by
  rcases dk_get h (c := c) with ⟨_, h2⟩ | ⟨h1, _⟩
  · exact h2
  · exact absurd hc h1
theorem dk_none {kvs : List (List Key × V)} {cs : List Cr} {F : V → Cr → Prop} (h : Paired (fun kv c => kv.1 = ck c ∧ F kv.2 c) kvs cs) {c : Cr} (hc : c ∉ cs) : valV kvs (ck c) = none := by
  rcases dk_get h (c := c) with ⟨h1, _⟩ | ⟨_, h2⟩
  · exact absurd h1 hc
  · exact h2
theorem dk_isSome {kvs : List (List Key × V)} {cs : List Cr} {F : V → Cr → Prop} (h : Paired (fun kv c => kv.1 = ck c ∧ F kv.2 c) kvs cs) (c : Cr) : (valV kvs (ck c)).isSome = decide (c ∈ cs) := by
  rcases dk_get h (c := c) with ⟨h1, v, h2, _⟩ | ⟨h1, h2⟩
  · rw [h2, decide_eq_true h1]; rfl
  · rw [h2, decide_eq_false h1]; rfl
theorem dk_put {kvs : List (List Key × V)} {cs : List Cr} {F : V → Cr → Prop} (h : Paired (fun kv c => kv.1 = ck c ∧ F kv.2 c) kvs cs) {c : Cr} (hc : c ∉ cs) {v : V} (hv : F v c) : Paired (fun kv c => kv.1 = ck c ∧ F kv.2 c) (putK kvs (ck c) v) (cs ++ [c]) := by
  rw [putK_new v (dk_none h hc)]
  exact h.snoc ⟨rfl, hv⟩
/-- a graph: for each crowd a list of its numbers and crowds -/
def LsAt (H : Hp) (v : V) (ps : List (Int × Cr)) : Prop := ∃ l vs, v = .ref l ∧ H l = some (.lst vs) ∧ Paired (PrAt H) vs ps
def GrAt (H : Hp) (g : Addr) (S : Cr → List (Int × Cr)) (cs : List Cr) : Prop := DkAt H g cs fun v c => LsAt H v (S c)
theorem LsAt.same {H H' : Hp} {v : V} {ps : List (Int × Cr)} (s : Same H H') (h : LsAt H v ps) : LsAt H' v ps :=
  let ⟨l, vs, e, q, z⟩ := h; ⟨l, vs, e, s _ _ q, prs_tk (Tk.same s) z⟩
theorem rd_same {H H' : Hp} {a : Addr} {u : HO} (s : Same H H') (h : Rd H a u) : Rd H' a u := by
  rcases h with h | ⟨o, h⟩
  · exact .inl (s _ _ h)
  · exact .inr ⟨o, s _ _ h⟩
theorem GrAt.same {H H' : Hp} {g : Addr} {S : Cr → List (Int × Cr)} {cs : List Cr} (s : Same H H') (h : GrAt H g S cs) : GrAt H' g S cs :=
  let ⟨kvs, e, q⟩ := h; ⟨kvs, rd_same s e, q.mono fun _ _ z => ⟨z.1, z.2.same s⟩⟩
/-! ### comprehensions that only make -/
theorem lc_same {J : It} {n : Nat} {G : Hp → Prop} {Y : Nat → Hp → V → Hp → Prop} (w : Walk J n G Y) {g : TG} {tt : TT} {te : TE} {vs : List Nat} {σ : L2.St} {H1 : Hp} {D : Addr} {Qd : Hp → Prop} {α β : Type} (xs : List α) (f : α → Option β) (R : Hp → V → β → Prop)
    (hn : n = xs.length) (hz : n < sizeLine) (hD : H1 D = none) (hG : ∀ H, Same H1 H → G H)
    (hR : ∀ H H' y b acc, Same H1 H → H D = some (.lst acc) → But D H H' → R H y b → R H' y b)
    (hs : ∀ i a x H H' (Kt : V → Hp → Prop) (Kf : Hp → Prop), (∀ y H4 b, Same H H4 → f a = some b → R H4 y b → Kt y H4) → (∀ H3, Same H H3 → f a = none → Kf H3) → xs[i]? = some a → Same H1 H → (∃ acc, H D = some (.lst acc)) → Y i H x H' →
      g x (wipe σ vs) H' fun σ2 H2 => wipe σ2 vs = wipe σ vs ∧ tt σ2 H2 fun b H3 => if b = true then te σ2 H3 Kt else Kf H3)
    (hd : ∀ H acc, Same H1 H → H D = some (.lst acc) → Paired (R H) acc (xs.filterMap f) → Qd H) :
    ∃ W : Nat → Nat → Hp → Prop, (∃ m, W 0 m (upd H1 D (.lst []))) ∧ ∀ i m H, W i m H →
      (J.stop i H ∧ Qd H) ∨ (J.go i H ∧ ∃ Nx : Hp → Prop, (∀ H', Nx H' → ∃ m', m' < m ∧ W (i + 1) m' H') ∧ ∀ x H', J.yld i H x H' → g x (wipe σ vs) H' fun σ2 H2 => wipe σ2 vs = wipe σ vs ∧ tt σ2 H2 fun b H3 =>
        if b = true then te σ2 H3 fun y H4 => ∃ acc, H4 D = some (.lst acc) ∧ acc.length < sizeLine ∧ Nx (upd H4 D (.lst (acc ++ [y]))) else Nx H3) := by
  subst hn
  have hlen : ∀ l : List α, (l.filterMap f).length ≤ l.length := fun l => List.length_filterMap_le ..
  refine lc_it w (fun i H => Same H1 H ∧ ∃ acc, H D = some (.lst acc) ∧ Paired (R H) acc ((xs.take i).filterMap f)) ⟨same_new hD, [], upd_same, by rw [List.take_zero]; exact .nil⟩ (fun i H _ h => hG H h.1) ?_ ?_
  · rintro i x H H' hi ⟨s, acc, ea, pa⟩ y
    have ha : xs[i]? = some xs[i] := List.getElem?_eq_getElem hi
    refine hs i xs[i] x H H' _ _ (fun v H4 b s4 hf hr => ?_) (fun H3 s3 hf => ?_) ha s ⟨acc, ea⟩ y
    · refine ⟨acc, s4 _ _ ea, ?_, same_put (s.trans s4) hD, acc ++ [v], upd_same, ?_⟩
      · rw [Paired.length pa]
        refine Nat.lt_of_le_of_lt (hlen _) ?_
        rw [List.length_take]
        omega
      · have e : (xs.take (i + 1)).filterMap f = (xs.take i).filterMap f ++ [b] := by
          rw [List.take_add_one, ha, List.filterMap_append]
          show _ ++ List.filterMap f [xs[i]] = _
          rw [List.filterMap_cons, hf]
          rfl
        rw [e]
        have h4 : H4 D = some (.lst acc) := s4 _ _ ea
        exact Paired.snoc (pa.mono fun v b h => hR H _ v b acc s ea ((But.same s4).self) h) (hR H4 _ v b acc (s.trans s4) h4 but_upd hr)
    · refine ⟨s.trans s3, acc, s3 _ _ ea, ?_⟩
      have e : (xs.take (i + 1)).filterMap f = (xs.take i).filterMap f := by
        rw [List.take_add_one, ha, List.filterMap_append]
        show _ ++ List.filterMap f [xs[i]] = _
        rw [List.filterMap_cons, hf, List.filterMap_nil, List.append_nil]
      rw [e]
      exact pa.mono fun v b h => hR H _ v b acc s ea (But.same s3) h
  · rintro H ⟨s, acc, ea, pa⟩
    rw [List.take_length] at pa
    exact hd H acc s ea pa
end Pb
set_option Elab.async false
set_option linter.all false
set_option maxRecDepth 100000
set_option maxHeartbeats 4000000
namespace Pb
open PySem PySem.Spec PyProof.Rows L2
open C8 (Cal pe_c)
section
variable {P : Program} {w : World} {K : PySem.W.Frag} {mg : Str → Option Value} {base : Heap}
/-! ### is_whole -/
theorem sc_is_whole : FnScope ["thing"] ["thing"] (defScope s_is_whole) := ⟨rfl, rfl, rfl, by decide +kernel, rfl, by decide +kernel, by decide +kernel⟩
/-- of ints alone -/
def spI1 (b : Bool) : Sp := fun vs H Q _ => ∃ i : Int, vs = [.int i] ∧ Q (.bl b) H
theorem ok_is_whole (T : Tx mg) (D : DefAt K mg "is_whole" s_is_whole []) : Cal P w K mg base 1 "is_whole" (spI1 true) [] := by
  refine cal0 D sc_is_whole (fun _ _ _ _ _ _ us hl => match us, hl with | [_], _ => rfl) (fun vs H Q E ⟨i, e, _⟩ => by rw [e]; rfl) fun f cdv A outer s H vs Q E hr h => ?_
  obtain ⟨i, rfl, q⟩ := h
  refine ⟨_, pss_one (ps_ret (pe_and (pe_callB call_isi (by rfl) T.isinstance boot_isinstance (pa_cons (pv 0) (pa_cons (pe_bltn (v := .ty "int") (by rfl) T.int (by decide +kernel) rfl) pa_nil)))
    (pe_one (pe_not (pe_callB call_isi (by rfl) T.isinstance boot_isinstance (pa_cons (pv 0) (pa_cons (pe_bltn (v := .ty "bool") (by rfl) T.bool (by decide +kernel) rfl) pa_nil))))))), ?_⟩
  refine ⟨_, rfl, _, _, _, _, _, rfl, .ty _, .base (.int i), kit_ty (by decide +kernel), _, rfl, iteT ?_⟩
  exact ⟨_, rfl, _, _, _, _, false, rfl, .ty _, .base (.int i), kit_ty (by decide +kernel), _, rfl, q⟩
/-! ### may_be -/
theorem sc_may_be : FnScope ["crowd", "meeting"] ["crowd", "meeting"] (defScope s_may_be) := ⟨rfl, rfl, rfl, by decide +kernel, rfl, by decide +kernel, by decide +kernel⟩
def spMay : Sp := fun vs H Q _ => ∃ (r : Rl) (u v : V) (c : Cr) (m : Mt), vs = [u, v] ∧ CrAt H u c ∧ MtAt H v m ∧ c.length = r.rooms ∧ InR r.rooms m.1 ∧ InR r.rooms m.2.1 ∧ Q (.bl (mayBe c m)) H
/-- an item of a crowd, by its room -/
theorem at_cr {r : Rl} {c : Cr} {i : Int} (hc : c.length = r.rooms) (hi : InR r.rooms i) : atI (c.map V.int) i = some (.int (gt c i)) := by
  have e : i = ((i.toNat : Nat) : Int) := by have := hi.1; omega
  rw [e]
  refine atI_nat ?_
  rw [List.getElem?_map, ← e, gt_get hc hi]
  rfl
theorem ok_may_be (T : Tx mg) (D : DefAt K mg "may_be" s_may_be []) : Cal P w K mg base 1 "may_be" spMay [] := by
  refine cal0 D sc_may_be (fun _ _ _ _ _ _ us hl => match us, hl with | [_, _], _ => rfl) (fun vs H Q E ⟨_, _, _, _, _, e, _⟩ => by rw [e]; rfl) fun f cdv A outer s H vs Q E hr h => ?_
  obtain ⟨r, _, _, c, m, rfl, ⟨a, rfl, ha⟩, ⟨b, rfl, hb⟩, hc, h1, h2, q⟩ := h
  refine ⟨_, pss_cons (ps_if (pt_cmpR op_eq (pe_ix ix_tup (pv 1) pe_int (fun _ _ => rfl)) (pe_ix ix_tup (pv 1) pe_int (fun _ _ => rfl)) (nomark _))
      (pss_one (ps_ret (pe_cmpR op_ge (pe_ix ix_tup (pv 0) (pe_ix ix_tup (pv 1) pe_int (fun _ _ => rfl)) (fun _ _ => rfl)) pe_int (nomark _)))) pss_nil)
    (pss_one (ps_ret (pe_and (pe_cmpR op_ge (pe_ix ix_tup (pv 0) (pe_ix ix_tup (pv 1) pe_int (fun _ _ => rfl)) (fun _ _ => rfl)) pe_int (nomark _))
      (pe_one (pe_cmpR op_ge (pe_ix ix_tup (pv 0) (pe_ix ix_tup (pv 1) pe_int (fun _ _ => rfl)) (fun _ _ => rfl)) pe_int (nomark _)))))), ?_⟩
  have hB : SqT K H b [.int m.1, .int m.2.1, .int m.2.2.1, .int m.2.2.2] := SqT.of hb
  have hA : SqT K H a (c.map V.int) := SqT.of ha
  refine ⟨_, rfl, _, _, _, _, rfl, rfl, hB, atI_nat (j := 0) rfl, _, rfl, _, _, _, _, rfl, rfl, hB, atI_nat (j := 1) rfl, rfl, _, rfl, ?_⟩
  unfold mayBe at q
  refine ite2 (fun e => ?_) (fun e => ?_)
  · have e1 : m.1 = m.2.1 := V.int.inj (of_decide_eq_true e)
    rw [if_pos e1] at q
    exact ⟨_, rfl, _, rfl, _, _, _, _, rfl, rfl, hB, atI_nat (j := 0) rfl, _, _, _, _, rfl, rfl, hA, at_cr hc h1, _, _, rfl, rfl, q⟩
  · have e1 : ¬ m.1 = m.2.1 := fun z => e (decide_eq_true (congrArg V.int z))
    rw [if_neg e1] at q
    refine ⟨_, rfl, _, rfl, _, _, _, _, rfl, rfl, hB, atI_nat (j := 0) rfl, _, _, _, _, rfl, rfl, hA, at_cr hc h1, _, _, rfl, rfl, _, rfl, ?_⟩
    refine ite2 (fun z => ?_) (fun z => ?_)
    · rw [z, Bool.true_and] at q
      exact ⟨_, rfl, _, rfl, _, _, _, _, rfl, rfl, hB, atI_nat (j := 1) rfl, _, _, _, _, rfl, rfl, hA, at_cr hc h2, _, _, rfl, rfl, q⟩
    · rw [Bool.eq_false_iff.mpr z, Bool.false_and] at q
      exact q
/-! ### crowd_behind -/
theorem sc_crowd_behind : FnScope ["crowd", "meeting", "found", "room"] ["crowd", "meeting"] (defScope s_crowd_behind) := ⟨rfl, rfl, rfl, by decide +kernel, rfl, by decide +kernel, by decide +kernel⟩
def spBehind : Sp := fun vs H Q _ => ∃ (r : Rl) (u v : V) (c : Cr) (m : Mt), vs = [u, v] ∧ CrAt H u c ∧ MtAt H v m ∧ c.length = r.rooms ∧ InR r.rooms m.1 ∧ InR r.rooms m.2.1 ∧ InR r.rooms m.2.2.1 ∧ InR r.rooms m.2.2.2 ∧
  ∀ H' z, Same H H' → CrAt H' z (behind c m) → Q z H'
theorem ixN_in {n : Nat} {i : Int} (h : InR n i) : ixN n i = some i.toNat := by
  unfold ixN
  rw [if_pos h.1, if_pos h.2]
theorem map_setI (c : Cr) (j : Nat) (y : Int) : (c.map V.int).set j (.int y) = (c.set j y).map V.int := by rw [List.map_set]
theorem take_succ_fold {α : Type} (f : α → Int → α) (a : α) {ns : List Int} {i : Nat} {x : Int} (h : ns[i]? = some x) : (ns.take (i + 1)).foldl f a = f ((ns.take i).foldl f a) x := by
  rw [List.take_add_one, h, List.foldl_append]
  rfl
theorem fold_len {r : Rl} {f : Cr → Int → Cr} (hf : ∀ c i, (f c i).length = c.length) : ∀ (ns : List Int) {c : Cr}, c.length = r.rooms → (ns.foldl f c).length = r.rooms
  | [], _, h => h
  | x :: ns, c, h => fold_len hf ns (by rw [hf]; exact h)
theorem ok_crowd_behind (T : Tx mg) (D : DefAt K mg "crowd_behind" s_crowd_behind []) : Cal P w K mg base 1 "crowd_behind" spBehind [] := by
  refine cal0 D sc_crowd_behind (fun _ _ _ _ _ _ us hl => match us, hl with | [_, _], _ => rfl) (fun vs H Q E ⟨_, _, _, _, _, e, _⟩ => by rw [e]; rfl) fun f cdv A outer s H vs Q E hr h => ?_
  obtain ⟨r, _, _, c, m, rfl, ⟨a, rfl, ha⟩, ⟨b, rfl, hb⟩, hc, h1, h2, h3, h4, q⟩ := h
  refine ⟨_, pss_cons (ps_set (i := 2) sc_crowd_behind.nd rfl (.inl rfl) (pe_callTy call_list_of (by rfl) T.list boot_list (pa_cons (pv 0) pa_nil)))
    (pss_cons (ps_for PassesOwn.never rfl (pi_tup (pe_slice sl_tup (pv 1) po_none (po_some pe_int))) (pg_name (i := 3) sc_crowd_behind.nd rfl (.inl rfl))
      (pss_one (ps_asg (pe_op op_sub (pe_ix ix_list (pv 2) (pv 3) (fun _ _ => rfl)) pe_int) (pg_sub (pv 2) (pv 3) set_list))))
    (pss_cons (ps_for PassesOwn.never rfl (pi_tup (pe_slice sl_tup (pv 1) (po_some pe_int) po_none)) (pg_name (i := 3) sc_crowd_behind.nd rfl (.inl rfl))
      (pss_one (ps_asg (pe_op op_add (pe_ix ix_list (pv 2) (pv 3) (fun _ _ => rfl)) pe_int) (pg_sub (pv 2) (pv 3) set_list))))
    (pss_one (ps_ret (pe_callTy call_tuple_of (by rfl) T.tuple boot_tuple (pa_cons (pv 2) pa_nil)))))), ?_⟩
  have hA : SqT K H a (c.map V.int) := SqT.of ha
  refine ⟨_, rfl, a, _, rfl, .inr hA, fun l nl => ?_⟩
  have s1 : Same H (upd H l (.lst (c.map V.int))) := same_new nl
  refine ⟨_, rfl, 2, rfl, b, _, rfl, SqT.of (s1 _ _ hb), (fun z => absurd (show HT.sIx 4 4 (some 2) = 4 from z.2) (by decide)), fun p np => ?_⟩
  obtain ⟨npl, np0⟩ := upd_none np
  have ecut : cutV [V.int m.1, .int m.2.1, .int m.2.2.1, .int m.2.2.2] none (some 2) = ([m.1, m.2.1] : List Int).map V.int := rfl
  rw [ecut]
  refine ⟨p, rfl, ⟨_, SqT.of upd_same⟩, ?_⟩
  refine for_it (walk_tup (xs := ([m.1, m.2.1] : List Int).map V.int)) (fun i σ H' => ∃ y, σ = [some (.ref a), some (.ref b), some (.ref l), y] ∧ Same H H' ∧ H' p = some (.tup (([m.1, m.2.1] : List Int).map V.int)) ∧ H' l = some (.lst (((([m.1, m.2.1] : List Int).take i).foldl down c).map V.int)))
    ⟨none, rfl, s1.trans (same_new np), upd_same, at_ne upd_same (Ne.symm npl)⟩ (fun i σ H' _ ⟨_, _, _, h, _⟩ => SqT.of h) ?_ ?_
  · rintro i x σ H' _ hi ⟨y, rfl, s2, ep, el⟩ ⟨rfl, hx⟩
    rw [List.getElem?_map] at hx
    obtain ⟨z, hz, rfl⟩ := Option.map_eq_some_iff.mp hx
    have hin : InR r.rooms z := by
      have := List.mem_of_getElem? hz
      rcases List.mem_cons.mp this with e | this
      · rw [e]; exact h1
      · rw [List.mem_singleton.mp this]; exact h2
    have hl : (((([m.1, m.2.1] : List Int).take i).foldl down c)).length = r.rooms := fold_len down_len _ hc
    refine ⟨_, rfl, _, rfl, l, _, z, _, rfl, rfl, SqL.of el, at_cr hl hin, _, _, rfl, rfl, _, rfl, _, rfl, l, _, z, _, rfl, rfl, el, by rw [List.length_map, hl]; exact ixN_in hin, ?_⟩
    refine ⟨some (.int z), rfl, same_put s2 nl, at_ne ep npl, ?_⟩
    rw [upd_same, take_succ_fold down c hz, map_setI]
    rfl
  · rintro σ H2 ⟨y, rfl, s2, _, el⟩
    rw [show ([m.1, m.2.1] : List Int).take (([m.1, m.2.1] : List Int).map V.int).length = [m.1, m.2.1] from rfl] at el
    refine ⟨_, rfl, 2, rfl, b, _, rfl, SqT.of (s2 _ _ hb), (fun z => absurd (show HT.sIx 4 0 (some 2) = 0 from z.1) (by decide)), fun p2 np2 => ?_⟩
    have ecut2 : cutV [V.int m.1, .int m.2.1, .int m.2.2.1, .int m.2.2.2] (some 2) none = ([m.2.2.1, m.2.2.2] : List Int).map V.int := rfl
    rw [ecut2]
    refine ⟨p2, rfl, ⟨_, SqT.of upd_same⟩, ?_⟩
    have npl2 : p2 ≠ l := (ne_of_none el np2).symm
    refine for_it (walk_tup (xs := ([m.2.2.1, m.2.2.2] : List Int).map V.int)) (fun i σ H' => ∃ y, σ = [some (.ref a), some (.ref b), some (.ref l), y] ∧ Same H H' ∧ H' p2 = some (.tup (([m.2.2.1, m.2.2.2] : List Int).map V.int)) ∧ H' l = some (.lst (((([m.2.2.1, m.2.2.2] : List Int).take i).foldl up (([m.1, m.2.1] : List Int).foldl down c)).map V.int)))
      ⟨y, rfl, s2.trans (same_new np2), upd_same, at_ne el (Ne.symm npl2)⟩ (fun i σ H' _ ⟨_, _, _, h, _⟩ => SqT.of h) ?_ ?_
    · rintro i x σ H' _ hi ⟨y, rfl, s2, ep, el⟩ ⟨rfl, hx⟩
      rw [List.getElem?_map] at hx
      obtain ⟨z, hz, rfl⟩ := Option.map_eq_some_iff.mp hx
      have hin : InR r.rooms z := by
        have := List.mem_of_getElem? hz
        rcases List.mem_cons.mp this with e | this
        · rw [e]; exact h3
        · rw [List.mem_singleton.mp this]; exact h4
      have hl : (((([m.2.2.1, m.2.2.2] : List Int).take i).foldl up (([m.1, m.2.1] : List Int).foldl down c))).length = r.rooms := fold_len up_len _ (fold_len down_len _ hc)
      refine ⟨_, rfl, _, rfl, l, _, z, _, rfl, rfl, SqL.of el, at_cr hl hin, _, _, rfl, rfl, _, rfl, _, rfl, l, _, z, _, rfl, rfl, el, by rw [List.length_map, hl]; exact ixN_in hin, ?_⟩
      refine ⟨some (.int z), rfl, same_put s2 nl, at_ne ep npl2, ?_⟩
      rw [upd_same, take_succ_fold up _ hz, map_setI]
      rfl
    · rintro σ H3 ⟨y, rfl, s3, _, el⟩
      rw [show ([m.2.2.1, m.2.2.2] : List Int).take (([m.2.2.1, m.2.2.2] : List Int).map V.int).length = [m.2.2.1, m.2.2.2] from rfl] at el
      refine ⟨_, rfl, l, _, rfl, .inl ⟨SqL.of el, fun t nt => ?_⟩⟩
      exact q _ _ (s3.trans (same_new nt)) ⟨t, rfl, upd_same⟩
end
end Pb
set_option Elab.async false
set_option linter.all false
set_option maxRecDepth 100000
set_option maxHeartbeats 4000000
namespace Pb
open PySem PySem.Spec PyProof.Rows L2
open C8 (Cal pe_c)
section
variable {P : Program} {w : World} {K : PySem.W.Frag} {mg : Str → Option Value} {base : Heap}
/-! ### is_next -/
theorem sc_is_next : FnScope ["rule", "crowd", "number"] ["rule", "crowd", "number"] (defScope s_is_next) := ⟨rfl, rfl, rfl, by decide +kernel, rfl, by decide +kernel, by decide +kernel⟩
def spNext : Sp := fun vs H Q _ => ∃ (r : Rl) (u v : V) (c : Cr) (j : Nat) (m : Mt), vs = [u, v, .int j] ∧ RlAt H u r ∧ RlOk r ∧ CrAt H v c ∧ c.length = r.rooms ∧ r.meets[j]? = some m ∧ mayBe c m = true ∧ Q (.bl true) H
theorem ok_is_next (T : Tx mg) (D : DefAt K mg "is_next" s_is_next []) (C1 : Cal P w K mg base 1 "is_whole" (spI1 true) []) (C2 : Cal P w K mg base 1 "may_be" spMay []) : Cal P w K mg base 2 "is_next" spNext [] := by
  refine cal0 D sc_is_next (fun _ _ _ _ _ _ us hl => match us, hl with | [_, _, _], _ => rfl) (fun vs H Q E ⟨_, _, _, _, _, _, e, _⟩ => by rw [e]; rfl) fun f cdv A outer s H vs Q E hr h => ?_
  obtain ⟨r, _, v, c, j, m, rfl, ⟨a, b, d, z, ms, rfl, ha, hb, hd, hms, hz⟩, ho, hv, hc, hj, hm, q⟩ := h
  refine ⟨_, pss_one (ps_ret (pe_and (pe_c C1 hr (by decide) rfl (pa_cons (pv 2) pa_nil)) (pe_and
      (pe_chain op_le op_lt pe_int (pv 2) (pe_callB call_len_seq (by rfl) T.len boot_len (pa_cons (pe_ix ix_tup (pv 0) pe_int (fun _ _ => rfl)) pa_nil)))
      (pe_one (pe_c C2 hr (by decide) rfl (pa_cons (pv 1) (pa_cons (pe_ix ix_tup (pe_ix ix_tup (pv 0) pe_int (fun _ _ => rfl)) (pv 2) (fun _ _ => rfl)) pa_nil))))))), ?_⟩
  have hjl : j < r.meets.length := (List.getElem?_eq_some_iff.mp hj).1
  have hml := Paired.length hms
  obtain ⟨mv, hmv, hma⟩ := Paired.getR hms hj
  obtain ⟨i1, i2, i3, i4⟩ := ho.mt m (List.mem_of_getElem? hj)
  refine ⟨_, rfl, j, rfl, _, rfl, iteT ?_⟩
  refine ⟨_, rfl, _, _, rfl, rfl, _, rfl, ?_⟩
  rw [decide_eq_true (show (0 : Int) ≤ (j : Int) by omega)]
  refine iteT ⟨_, rfl, _, _, _, _, rfl, rfl, SqT.of ha, atI_nat (j := 2) rfl, d, ms, rfl, .inr (SqT.of hd), _, _, rfl, rfl, _, rfl, ?_⟩
  rw [decide_eq_true (show (j : Int) < (ms.length : Int) by omega)]
  refine iteT ⟨_, rfl, _, rfl, _, _, _, _, rfl, rfl, SqT.of ha, atI_nat (j := 2) rfl, _, rfl, _, _, _, _, rfl, rfl, SqT.of hd, atI_nat hmv, ?_⟩
  refine ⟨r, _, _, c, m, rfl, hv, hma, hc, i1, i2, ?_⟩
  rw [hm]
  exact q
/-! ### met -/
theorem sc_met : FnScope ["rule", "crowd", "number"] ["rule", "crowd", "number"] (defScope s_met) := ⟨rfl, rfl, rfl, by decide +kernel, rfl, by decide +kernel, by decide +kernel⟩
def spMet : Sp := fun vs H Q _ => ∃ (r : Rl) (u v : V) (c : Cr) (j : Nat) (m : Mt), vs = [u, v, .int j] ∧ RlAt H u r ∧ RlOk r ∧ CrAt H v c ∧ c.length = r.rooms ∧ r.meets[j]? = some m ∧ mayBe c m = true ∧
  ∀ H' z, Same H H' → CrAt H' z (behind c m) → Q z H'
theorem ok_met (D : DefAt K mg "met" s_met []) (C1 : Cal P w K mg base 2 "is_next" spNext []) (C2 : Cal P w K mg base 1 "crowd_behind" spBehind []) : Cal P w K mg base 3 "met" spMet [] := by
  refine cal0 D sc_met (fun _ _ _ _ _ _ us hl => match us, hl with | [_, _, _], _ => rfl) (fun vs H Q E ⟨_, _, _, _, _, _, e, _⟩ => by rw [e]; rfl) fun f cdv A outer s H vs Q E hr h => ?_
  obtain ⟨r, u, v, c, j, m, rfl, hR, ho, hv, hc, hj, hm, q⟩ := h
  obtain ⟨a, b, d, z, ms, rfl, ha, hb, hd, hms, hz⟩ := id hR
  refine ⟨_, pss_cons (ps_if (pt_not (pt_val (pe_c C1 hr (by decide) rfl (pa_cons (pv 0) (pa_cons (pv 1) (pa_cons (pv 2) pa_nil)))))) (pss_one ps_never) pss_nil)
    (pss_one (ps_ret (pe_c C2 hr (by decide) rfl (pa_cons (pv 1) (pa_cons (pe_ix ix_tup (pe_ix ix_tup (pv 0) pe_int (fun _ _ => rfl)) (pv 2) (fun _ _ => rfl)) pa_nil))))), ?_⟩
  obtain ⟨mv, hmv, hma⟩ := Paired.getR hms hj
  obtain ⟨i1, i2, i3, i4⟩ := ho.mt m (List.mem_of_getElem? hj)
  refine ⟨_, rfl, _, rfl, _, rfl, r, _, _, c, j, m, rfl, hR, ho, hv, hc, hj, hm, _, rfl, iteF ?_⟩
  exact ⟨_, rfl, _, rfl, _, _, _, _, rfl, rfl, SqT.of ha, atI_nat (j := 2) rfl, _, rfl, _, _, _, _, rfl, rfl, SqT.of hd, atI_nat hmv, r, _, _, c, m, rfl, hv, hma, hc, i1, i2, i3, i4, q⟩
/-! ### can -/
theorem sc_can : FnScope ["rule", "crowd", "number", "meeting"] ["rule", "crowd"] (defScope s_can) := ⟨rfl, rfl, rfl, by decide +kernel, rfl, by decide +kernel, by decide +kernel⟩
theorem succ_nums (r : Rl) (c : Cr) : (nums r).filterMap (fun p => if mayBe c p.2 = true then some p.1 else none) = (succ r c).map (·.1) := by
  unfold succ
  rw [List.map_filterMap]
  congr 1
  funext p
  by_cases h : mayBe c p.2 = true
  · rw [if_pos h, if_pos h]; rfl
  · rw [if_neg h, if_neg h]; rfl
theorem nums_len (r : Rl) : (nums r).length = r.meets.length := by
  unfold nums
  rw [List.length_map, List.length_zipIdx]
theorem nums_get {r : Rl} {i : Nat} {p : Int × Mt} (h : (nums r)[i]? = some p) : p.1 = (i : Int) ∧ r.meets[i]? = some p.2 := by
  unfold nums at h
  rw [List.getElem?_map, List.getElem?_zipIdx] at h
  cases e : r.meets[i]? with
  | none => rw [e] at h; cases h
  | some m =>
    rw [e] at h
    cases h
    exact ⟨by show ((0 + i : Nat) : Int) = _; rw [Nat.zero_add], rfl⟩
def IntIs (H : Hp) (v : V) (i : Int) : Prop := v = .int i
theorem ints_of {H : Hp} : ∀ {vs : List V} {ns : List Int}, Paired (IntIs H) vs ns → vs = ns.map V.int
  | _, _, .nil => rfl
  | _, _, .cons h t => by rw [List.map_cons, ← ints_of t, h]
def spCan : Sp := fun vs H Q _ => ∃ (r : Rl) (u v : V) (c : Cr), vs = [u, v] ∧ RlAt H u r ∧ RlOk r ∧ CrAt H v c ∧ c.length = r.rooms ∧
  ∀ H' l, Same H H' → H l = none → H' l = some (.lst (((succ r c).map (·.1)).map V.int)) → Q (.ref l) H'
theorem ok_can (T : Tx mg) (D : DefAt K mg "can" s_can []) (C1 : Cal P w K mg base 1 "may_be" spMay []) : Cal P w K mg base 2 "can" spCan [] := by
  refine cal0 D sc_can (fun _ _ _ _ _ _ us hl => match us, hl with | [_, _], _ => rfl) (fun vs H Q E ⟨_, _, _, _, e, _⟩ => by rw [e]; rfl) fun f cdv A outer s H vs Q E hr h => ?_
  obtain ⟨r, _, v, c, rfl, ⟨a, b, d, z, ms, rfl, ha, hb, hd, hms, hz⟩, ho, hv, hc, q⟩ := h
  refine ⟨_, pss_one (ps_ret (pe_lc (own := [("number", 2), ("meeting", 3)]) (g := gTup K 2 (gCons (gName 2) (gCons (gName 3) gNil))) rfl sc_can.nd (pi_enumT rfl T.enumerate (pa_cons (pe_ix ix_tup (pv 0) pe_int (fun _ _ => rfl)) pa_nil)) (blkOk_by (N := ["rule", "crowd", "number", "meeting"]) (sc := defScope s_can) (by decide +kernel))
    (fun _ _ _ _ _ => pg_tup rfl (pgs_cons (pg_name (i := 2) sc_can.nd rfl (.inl rfl)) (pgs_cons (pg_name (i := 3) sc_can.nd rfl (.inl rfl)) pgs_nil)))
    (fun _ _ _ _ _ => pts_one (pt_val (pe_c C1 hr (by decide) rfl (pa_cons (pv 1) (pa_cons (pv 3) pa_nil)))))
    (fun _ _ _ _ _ => pv 2))), ?_⟩
  refine ⟨_, rfl, _, _, _, _, rfl, rfl, SqT.of ha, atI_nat (j := 2) rfl, d, ms, rfl, SqT.of hd, fun l nl => ?_⟩
  have hml := Paired.length hms
  refine lc_same (walk_enumT (xs := ms)) (nums r) (fun p => if mayBe c p.2 = true then some p.1 else none) IntIs (by rw [nums_len, hml]) (small1000 (by have := ho.ml; omega)) nl (fun H1 s1 => SqT.of (s1 _ _ hd))
    (fun _ _ _ _ _ _ _ _ h => h) ?_ (fun H1 acc s1 e1 p1 => ?_)
  · intro i p x H1 H2 Kt Kf kt kf hp s1 _ hy
    obtain ⟨T, x1, x2, rfl, nT, rfl, e1, e2⟩ := hy
    cases e1
    obtain ⟨q1, q2⟩ := nums_get hp
    obtain ⟨mv, hmv, hma⟩ := Paired.getR hms q2
    obtain rfl : x2 = mv := Option.some.inj (e2.symm.trans hmv)
    obtain ⟨i1, i2, i3, i4⟩ := ho.mt p.2 (List.mem_of_getElem? q2)
    have sT : Same H1 (upd H1 T (.tup [.int (i : Nat), x2])) := same_new nT
    have k2 : Tk H (upd H1 T (.tup [.int (i : Nat), x2])) := Tk.same (s1.trans sT)
    refine ⟨T, [.int (i : Nat), x2], rfl, SqT.of upd_same, rfl, _, _, rfl, _, _, rfl, rfl, rfl, ?_⟩
    refine ⟨v, rfl, x2, rfl, r, v, x2, c, p.2, rfl, hv.tk k2, hma.tk k2, hc, i1, i2, _, rfl, ?_⟩
    cases hm : mayBe c p.2 with
    | true => exact iteT ⟨_, rfl, kt _ _ p.1 sT (by rw [hm, if_pos rfl]) (by rw [q1]; rfl)⟩
    | false => exact iteF (kf _ sT (by rw [hm]; rfl))
  · rw [succ_nums] at p1
    refine q _ _ s1 nl ?_
    rw [e1, ints_of p1]
end
end Pb
set_option Elab.async false
set_option linter.all false
set_option maxRecDepth 100000
set_option maxHeartbeats 4000000
namespace Pb
open PySem PySem.Spec PyProof.Rows L2
open C8 (Cal pe_c)
section
variable {P : Program} {w : World} {K : PySem.W.Frag} {mg : Str → Option Value} {base : Heap}
def W3.s : W3 → Str
  | .yes => "yes"
  | .no => "no"
  | .both => "both"
/-! ### begun -/
theorem sc_begun : FnScope ["rule", "counts", "found", "sort", "many", "room"] ["rule", "counts"] (defScope s_begun) := ⟨rfl, rfl, rfl, by decide +kernel, rfl, by decide +kernel, by decide +kernel⟩
def spBegun : Sp := fun vs H Q _ => ∃ (r : Rl) (u v : V) (cs : List Int), vs = [u, v] ∧ RlAt H u r ∧ RlOk r ∧ CrAt H v cs ∧ cs.length = r.starts.length ∧
  ∀ H' z, Same H H' → CrAt H' z (begM r cs) → Q z H'
theorem rep0 (n : Nat) : (List.replicate n [V.int 0]).flatten = (List.replicate n (0 : Int)).map V.int := by
  induction n with
  | zero => rfl
  | succ n ih => rw [List.replicate_succ, List.flatten_cons, ih, List.replicate_succ, List.map_cons]; rfl
theorem take_succ_fold2 {α β : Type} (f : α → β → α) (a : α) {ns : List β} {i : Nat} {x : β} (h : ns[i]? = some x) : (ns.take (i + 1)).foldl f a = f ((ns.take i).foldl f a) x := by
  rw [List.take_add_one, h, List.foldl_append]
  rfl
theorem ok_begun (T : Tx mg) (D : DefAt K mg "begun" s_begun []) : Cal P w K mg base 1 "begun" spBegun [] := by
  refine cal0 D sc_begun (fun _ _ _ _ _ _ us hl => match us, hl with | [_, _], _ => rfl) (fun vs H Q E ⟨_, _, _, _, e, _⟩ => by rw [e]; rfl) fun f cdv A outer s H vs Q E hr h => ?_
  obtain ⟨r, _, _, cs, rfl, ⟨a, b, d, z, ms, rfl, ha, hb, hd, hms, hz⟩, ho, ⟨t, rfl, ht⟩, hl, q⟩ := h
  refine ⟨_, pss_cons (ps_set (i := 2) sc_begun.nd rfl (.inl rfl) (pe_op op_rep (pe_lst (pa_cons pe_int pa_nil)) (pe_ix ix_tup (pv 0) pe_int (fun _ _ => rfl))))
    (pss_cons (ps_for PassesOwn.never rfl (pi_enumT (by rfl) T.enumerate (pa_cons (pv 1) pa_nil)) (pg_tup rfl (pgs_cons (pg_name (i := 3) sc_begun.nd rfl (.inl rfl)) (pgs_cons (pg_name (i := 4) sc_begun.nd rfl (.inl rfl)) pgs_nil)))
      (pss_cons (ps_set (i := 5) sc_begun.nd rfl (.inl rfl) (pe_ix ix_tup (pe_ix ix_tup (pv 0) pe_int (fun _ _ => rfl)) (pv 3) (fun _ _ => rfl)))
      (pss_one (ps_asg (pe_op op_add (pe_ix ix_list (pv 2) (pv 5) (fun _ _ => rfl)) (pv 4)) (pg_sub (pv 2) (pv 5) set_list)))))
    (pss_one (ps_ret (pe_callTy call_tuple_of (by rfl) T.tuple boot_tuple (pa_cons (pv 2) pa_nil))))), ?_⟩
  have hr5 := ho.r5
  refine ⟨by decide, fun l0 n0 => ?_⟩
  have s0 : Same H (upd H l0 (.lst [.int 0])) := same_new n0
  refine ⟨_, rfl, _, _, _, _, rfl, rfl, SqT.of (s0 _ _ ha), atI_nat (j := 0) rfl, l0, r.rooms, _, rfl, rfl, upd_same, by omega, by omega, (by show 1 * ((r.rooms : Int)).toNat ≤ sizeLine; have := small1000 (n := 1000) (by omega); omega), fun l nl => ?_⟩
  have en : ((r.rooms : Int)).toNat = r.rooms := by omega
  rw [en, rep0]
  have s1 : Same H (upd (upd H l0 (.lst [.int 0])) l (.lst ((List.replicate r.rooms (0 : Int)).map V.int))) := same_put s0 (s0.free nl)
  have nl0 : H l = none := s0.free nl
  refine ⟨.ref t, rfl, t, _, rfl, SqT.of (s1 _ _ ht), ?_⟩
  refine for_it (walk_enumT (xs := cs.map V.int)) (fun i σ H' => ∃ y3 y4 y5, σ = [some (.ref a), some (.ref t), some (.ref l), y3, y4, y5] ∧ Same H H' ∧ H' l = some (.lst ((((r.starts.zip cs).take i).foldl (fun c p => addTo c p.1 p.2) (List.replicate r.rooms 0)).map V.int)))
    ⟨none, none, none, rfl, s1, upd_same⟩ (fun i σ H' _ ⟨_, _, _, _, h, _⟩ => SqT.of (h _ _ ht)) ?_ ?_
  · rintro i x σ H1 H2 hi ⟨y3, y4, y5, rfl, s2, el⟩ ⟨T, x1, x2, rfl, nT, rfl, e1, e2⟩
    cases e1
    have e2 : (_ : List V)[i]? = some x2 := e2
    rw [List.getElem?_map] at e2
    obtain ⟨m, hm, rfl⟩ := Option.map_eq_some_iff.mp e2
    have hil : i < r.starts.length := by
      have := (List.getElem?_eq_some_iff.mp hm).1
      omega
    have hst : r.starts[i]? = some r.starts[i] := List.getElem?_eq_getElem hil
    have hin := ho.st _ (List.mem_of_getElem? hst)
    have hz : (r.starts.zip cs)[i]? = some (r.starts[i], m) := by rw [List.getElem?_zip_eq_some]; exact ⟨hst, hm⟩
    have hlen : (((r.starts.zip cs).take i).foldl (fun c p => addTo c p.1 p.2) (List.replicate r.rooms 0)).length = r.rooms := begFold_len _ List.length_replicate
    have s3 : Same H (upd H1 T (.tup [.int (i : Nat), .int m])) := s2.trans (same_new nT)
    have elT : upd H1 T (.tup [.int (i : Nat), .int m]) l = some (.lst ((((r.starts.zip cs).take i).foldl (fun c p => addTo c p.1 p.2) (List.replicate r.rooms 0)).map V.int)) := at_ne el (ne_of_none el nT)
    refine ⟨T, _, rfl, SqT.of upd_same, rfl, _, _, rfl, _, _, rfl, rfl, ?_⟩
    refine ⟨_, rfl, _, _, _, _, rfl, rfl, SqT.of (s3 _ _ ha), atI_nat (j := 1) rfl, _, rfl, b, _, _, _, rfl, rfl, SqT.of (s3 _ _ hb), atI_nat (by rw [List.getElem?_map, hst]; rfl), ?_⟩
    refine ⟨_, rfl, _, rfl, l, _, _, _, rfl, rfl, SqL.of elT, at_cr hlen hin, _, rfl, _, _, rfl, rfl, _, rfl, _, rfl, l, _, _, _, rfl, rfl, elT, by rw [List.length_map, hlen]; exact ixN_in hin, ?_⟩
    refine ⟨_, _, _, rfl, same_put s3 nl0, ?_⟩
    rw [upd_same, take_succ_fold2 _ _ hz, map_setI]
    rfl
  · rintro σ H3 ⟨y3, y4, y5, rfl, s3, el⟩
    refine ⟨_, rfl, l, _, rfl, .inl ⟨SqL.of el, fun t nt => ?_⟩⟩
    have ez : (r.starts.zip cs).take (cs.map V.int).length = r.starts.zip cs := List.take_of_length_le (by rw [List.length_zip, List.length_map]; omega)
    rw [ez]
    exact q _ _ (s3.trans (same_new nt)) ⟨t, rfl, upd_same⟩
/-! ### said -/
theorem sc_said : FnScope ["rule", "crowd", "words", "room", "many"] ["rule", "crowd"] (defScope s_said) := ⟨rfl, rfl, rfl, by decide +kernel, rfl, by decide +kernel, by decide +kernel⟩
def BlIs (H : Hp) (v : V) (b : Bool) : Prop := v = .bl b
theorem bls_of {H : Hp} : ∀ {vs : List V} {ns : List Bool}, Paired (BlIs H) vs ns → vs = ns.map V.bl
  | _, _, .nil => rfl
  | _, _, .cons h t => by rw [List.map_cons, ← bls_of t, h]
theorem flat_bls (ws : List Bool) : (ws.map V.bl).all flatV = true := by
  induction ws with
  | nil => rfl
  | cons b ws ih => rw [List.map_cons, List.all_cons, ih]; rfl
theorem in_bls (b : Bool) (ws : List Bool) : inV (.bl b) (ws.map V.bl) = decide (b ∈ ws) := by
  unfold inV
  induction ws with
  | nil => rfl
  | cons a ws ih =>
    rw [List.map_cons, List.any_cons, ih]
    show (a == b || decide (b ∈ ws)) = decide (b ∈ a :: ws)
    by_cases e : a = b
    · subst e; simp
    · have e2 : ¬ b = a := fun z => e z.symm
      simp [e, e2]
def spSaid : Sp := fun vs H Q _ => ∃ (r : Rl) (u v : V) (c : Cr), vs = [u, v] ∧ RlAt H u r ∧ RlOk r ∧ CrAt H v c ∧ c.length = r.rooms ∧ ∀ H', Same H H' → Q (.str (saidM r c).s) H'
theorem ok_said (T : Tx mg) (D : DefAt K mg "said" s_said []) : Cal P w K mg base 1 "said" spSaid [] := by
  refine cal0 D sc_said (fun _ _ _ _ _ _ us hl => match us, hl with | [_, _], _ => rfl) (fun vs H Q E ⟨_, _, _, _, e, _⟩ => by rw [e]; rfl) fun f cdv A outer s H vs Q E hr h => ?_
  obtain ⟨r, _, _, c, rfl, ⟨a, b, d, z, ms, rfl, ha, hb, hd, hms, hz⟩, ho, ⟨t, rfl, ht⟩, hl, q⟩ := h
  refine ⟨_, pss_cons (ps_setLc (i := 2) (own := [("room", 3), ("many", 4)]) (g := gTup K 2 (gCons (gName 3) (gCons (gName 4) gNil))) (te := tOp (rIxT K) (tOp (rIxT K) (tVar 0) (tC (.int 3))) (tVar 3)) rfl sc_said.nd rfl rfl (sw_true rfl rfl rfl (by decide +kernel)) (pi_enumT (by rfl) T.enumerate (pa_cons (pv 1) pa_nil))
      (blkOk_by (N := ["rule", "crowd", "words", "room", "many"]) (sc := defScope s_said) (by decide +kernel))
      (fun _ _ _ _ _ => pg_tup rfl (pgs_cons (pg_name (i := 3) sc_said.nd rfl (.inl rfl)) (pgs_cons (pg_name (i := 4) sc_said.nd rfl (.inl rfl)) pgs_nil)))
      (fun _ _ _ _ _ => pts_one (pt_cmpR op_gt (pv 4) pe_int (nomark _)))
      (fun _ _ _ _ _ => pe_ix ix_tup (pe_ix ix_tup (pv 0) pe_int (fun _ _ => rfl)) (pv 3) (fun _ _ => rfl)))
    (pss_cons (ps_if (pt_cmpR op_notIn_seq pe_bl (pv 2) (by rfl)) (pss_one (ps_ret pe_str)) pss_nil)
    (pss_one (ps_ret (pe_ifExp (pt_cmpR op_in_seq pe_bl (pv 2) (by rfl)) pe_str pe_str)))), ?_⟩
  refine ⟨.ref t, rfl, t, _, rfl, SqT.of ht, fun l nl => ?_⟩
  refine lc_same (walk_enumT (xs := c.map V.int)) c.zipIdx (fun p => if 0 < p.1 then r.says[p.2]? else none) BlIs (by rw [List.length_map, List.length_zipIdx]) (by rw [List.length_map]; exact small1000 (by have := ho.r5; omega)) nl (fun H1 s1 => SqT.of (s1 _ _ ht))
    (fun _ _ _ _ _ _ _ _ h => h) ?_ (fun H1 acc s1 e1 p1 => ?_)
  · intro i p x H1 H2 Kt Kf kt kf hp s1 _ hy
    obtain ⟨T, x1, x2, rfl, nT, rfl, e1, e2⟩ := hy
    cases e1
    rw [List.getElem?_zipIdx] at hp
    have e2 : (_ : List V)[i]? = some x2 := e2
    rw [List.getElem?_map] at e2
    obtain ⟨m, hm, rfl⟩ := Option.map_eq_some_iff.mp e2
    rw [hm] at hp
    obtain rfl : (m, 0 + i) = p := Option.some.inj hp
    have sT : Same H1 (upd H1 T (.tup [.int (i : Nat), .int m])) := same_new nT
    have hil : i < r.says.length := by
      have := (List.getElem?_eq_some_iff.mp hm).1
      have := ho.sl
      omega
    have hs : r.says[i]? = some r.says[i] := List.getElem?_eq_getElem hil
    refine ⟨T, _, rfl, SqT.of upd_same, rfl, _, _, rfl, _, _, rfl, rfl, rfl, ?_⟩
    refine ⟨_, rfl, _, _, rfl, rfl, _, rfl, ?_⟩
    by_cases h0 : 0 < m
    · rw [decide_eq_true h0]
      refine iteT ⟨_, rfl, _, _, _, _, rfl, rfl, SqT.of (sT _ _ (s1 _ _ ha)), atI_nat (j := 3) rfl, _, rfl, z, _, _, _, rfl, rfl, SqT.of (sT _ _ (s1 _ _ hz)), atI_nat (by rw [List.getElem?_map, hs]; rfl), ?_⟩
      exact kt _ _ r.says[i] sT (by rw [if_pos h0, Nat.zero_add, hs]) rfl
    · rw [decide_eq_false h0]
      exact iteF (kf _ sT (by rw [if_neg h0]))
  · have ew := bls_of p1
    refine ⟨_, rfl, l, _, rfl, .inl (SqL.of e1), rfl, (by rw [ew]; exact flat_bls _), _, rfl, ?_⟩
    rw [ew, in_bls]
    unfold saidM at q
    change if (!decide (false ∈ wordsM r c)) = true then _ else _
    by_cases hf : false ∈ wordsM r c
    · rw [decide_eq_true hf]
      rw [if_pos hf] at q
      refine iteF ⟨_, rfl, l, _, rfl, .inl (SqL.of e1), rfl, (by rw [ew]; exact flat_bls _), _, rfl, ?_⟩
      rw [ew, in_bls]
      change if decide (true ∈ wordsM r c) = true then _ else _
      by_cases ht : true ∈ wordsM r c
      · rw [if_pos ht] at q
        rw [decide_eq_true ht]
        exact iteT (q _ s1)
      · rw [if_neg ht] at q
        rw [decide_eq_false ht]
        exact iteF (q _ s1)
    · rw [decide_eq_false hf]
      rw [if_neg hf] at q
      exact iteT (q _ s1)
end
end Pb
set_option Elab.async false
set_option linter.all false
set_option maxRecDepth 100000
set_option maxHeartbeats 4000000
namespace Pb
open PySem PySem.Spec PyProof.Rows L2
open PySem.W (EachIs AllAlike Sortable dataLe dataLt alike)
/-! ### crowds, sorted -/
abbrev cd (c : Cr) : PyData := .tuple (c.map .int)
def srtC (L : List Cr) : List Cr := L.mergeSort (dataLe false cd)
theorem dataLt_cd (a b : Cr) : dataLt (cd a) (cd b) = decide (a < b) := by
  unfold cd
  rw [PySem.W.dataLt_tuple]
  exact PySem.W.dataLt_ints a b
theorem srtC_perm (L : List Cr) : (srtC L).Perm L := List.mergeSort_perm _ _
theorem srtC_sorted (L : List Cr) : (srtC L).Pairwise (fun a b => dataLe false cd a b = true) := PySem.W.sort_pairwise (PySem.W.sortLe_total _ _ _) L
theorem le_cd (a b : Cr) : dataLe false cd a b = !decide (b < a) := by
  show (!dataLt (cd b) (cd a)) = _
  rw [dataLt_cd]
theorem srtC_eq {L M : List Cr} (h : L.Perm M) : srtC L = srtC M := by
  refine List.Perm.eq_of_pairwise (le := fun a b => dataLe false cd a b = true) (fun a b _ _ h1 h2 => ?_) (srtC_sorted L) (srtC_sorted M) (((srtC_perm L).trans h).trans (srtC_perm M).symm)
  rw [le_cd] at h1 h2
  have h1 : ¬ b < a := of_decide_eq_false (by simpa using h1)
  have h2 : ¬ a < b := of_decide_eq_false (by simpa using h2)
  exact List.le_antisymm (List.not_lt.mp h1) (List.not_lt.mp h2)
theorem srtC_len (L : List Cr) : (srtC L).length = L.length := (srtC_perm L).length_eq
theorem mem_srtC {L : List Cr} {c : Cr} : c ∈ srtC L ↔ c ∈ L := (srtC_perm L).mem_iff
theorem srtC_nd {L : List Cr} (h : L.Nodup) : (srtC L).Nodup := (srtC_perm L).symm.nodup h
/-- read back -/
def toI : PyData → Int
  | .int i => i
  | _ => 0
def dec : PyData → Cr
  | .tuple ds => ds.map toI
  | _ => []
theorem dec_cd (c : Cr) : dec (cd c) = c := by
  show (c.map PyData.int).map toI = c
  rw [List.map_map]
  exact List.map_id' c
/-- a sorted list of data is the sorted list of what the data stand for -/
theorem srt_crs {H : Hp} {bs : DB} {L : List Cr} (e : bs.map (·.2) = L.map cd) (h : ∀ b ∈ bs, ∃ a c, b.1 = V.ref a ∧ b.2 = PyData.tuple (List.map PyData.int c) ∧ H a = some (.tup (c.map V.int))) : Paired (CrAt H) ((srt bs).map (·.1)) (srtC L) := by
  have hb : bs.map (fun b => dec b.2) = L := by
    have : bs.map (fun b => dec b.2) = (bs.map (·.2)).map dec := by rw [List.map_map]; rfl
    rw [this, e, List.map_map]
    have : (dec ∘ cd) = id := funext dec_cd
    rw [this, List.map_id]
  have hs : (srt bs).map (fun b => dec b.2) = srtC L := by
    unfold srt srtC
    rw [← hb]
    refine PySem.W.sort_maps (fun b : V × PyData => dec b.2) fun a ha b hbm => ?_
    obtain ⟨_, c, _, e1, _⟩ := h a ha
    obtain ⟨_, d, _, e2, _⟩ := h b hbm
    show (!dataLt b.2 a.2) = (!dataLt (cd (dec b.2)) (cd (dec a.2)))
    rw [e1, e2, dec_cd, dec_cd]
  rw [← hs]
  refine paired_maps fun b hbm => ?_
  obtain ⟨a, c, e1, e2, e3⟩ := h b ((List.mergeSort_perm _ _).mem_iff.mp hbm)
  refine ⟨a, e1, ?_⟩
  rw [e2, dec_cd]
  exact e3
/-- the keys of a dict of crowds -/
theorem keys_ck {kvs : List (List Key × V)} {L : List Cr} {F : V → Cr → Prop} (h : Paired (fun kv c => kv.1 = ck c ∧ F kv.2 c) kvs L) : kvs.map (·.1) = L.map (fun c => c.map Sum.inl) := by
  induction h with
  | nil => rfl
  | cons f _ ih => rw [List.map_cons, List.map_cons, ih, f.1]; rfl
end Pb
set_option Elab.async false
set_option linter.all false
set_option maxRecDepth 100000
set_option maxHeartbeats 4000000
namespace Pb
open PySem PySem.Spec PyProof.Rows L2
open C8 (Cal pe_c)
section
variable {P : Program} {w : World} {K : PySem.W.Frag} {mg : Str → Option Value} {base : Heap}
/-! ### graph_of -/
theorem sc_graph_of : FnScope ["rule", "crowd", "limit", "found", "line", "seen", "here", "number", "behind"] ["rule", "crowd", "limit"] (defScope s_graph_of) := ⟨rfl, rfl, rfl, by decide +kernel, rfl, by decide +kernel, by decide +kernel⟩
/-- a dict that holds, for each of L, its numbers and crowds -/
def GrD (H : Hp) (g : Addr) (S : Cr → List (Int × Cr)) (L : List Cr) : Prop := ∃ kvs : List (List Key × V), H g = some (.dT kvs) ∧ Paired (fun kv c => kv.1 = ck c ∧ LsAt H kv.2 (S c)) kvs L
def spGraph : Sp := fun vs H Q _ => ∃ (r : Rl) (u v : V) (c : Cr) (h : Nat), vs = [u, v, .int 1000] ∧ RlAt H u r ∧ RlOk r ∧ CrAt H v c ∧ CrOk r h c ∧ h ≤ 4 ∧
  ∀ H' g L, Same H H' → H g = none → GrD H' g (succ r) L → GrOf (succ r) c L → Q (.ref g) H'
def LsNe (H : Hp) (x : Addr) (v : V) (ps : List (Int × Cr)) : Prop := ∃ l vs, v = .ref l ∧ l ≠ x ∧ H l = some (.lst vs) ∧ Paired (PrAt H) vs ps
theorem ok_graph_of (T : Tx mg) (D : DefAt K mg "graph_of" s_graph_of []) (C1 : Cal P w K mg base 2 "can" spCan []) (C2 : Cal P w K mg base 3 "met" spMet []) : Cal P w K mg base 4 "graph_of" spGraph [] := by
  refine cal0 D sc_graph_of (fun _ _ _ _ _ _ us hl => match us, hl with | [_, _, _], _ => rfl) (fun vs H Q E ⟨_, _, _, _, _, e, _⟩ => by rw [e]; rfl) fun f cdv A outer s H0 vs Q E hr h => ?_
  obtain ⟨r, u, _, c0, h, rfl, hR, ho, ⟨a0, rfl, ha0⟩, hc, hh, q⟩ := h
  have hu := hu_of hr
  refine ⟨_, (pss_cons (ps_set (i := 3) sc_graph_of.nd rfl (.inl rfl) pe_dnewT)
    (pss_cons (ps_set (i := 4) sc_graph_of.nd rfl (.inl rfl) (pe_lst (pa_cons (pv 1) pa_nil)))
    (pss_cons (ps_set (i := 5) sc_graph_of.nd rfl (.inl rfl) (pe_disp1T hu (pv 1) pe_bl))
    (pss_cons (ps_while PassesOwn.never (pt_cmpR op_lt (pe_callB call_len_dT (by rfl) T.len boot_len (pa_cons (pv 3) pa_nil)) (pe_callB call_len_seq (by rfl) T.len boot_len (pa_cons (pv 4) pa_nil)) (nomark _))
      (pss_cons (ps_set (i := 6) sc_graph_of.nd rfl (.inr rfl) (pe_ix ix_list (pv 4) (pe_callB call_len_dT (by rfl) T.len boot_len (pa_cons (pv 3) pa_nil)) (fun _ _ => rfl)))
      (pss_cons (ps_dput hu (pv 3) (pv 6) (pe_lc (own := [("number", 7)]) (g := (gName 7)) (tt := tYes) (te := (tTup (tCons (tVar 7) (tCons (tCall spMet [] E0 (tCons (tVar 0) (tCons (tVar 6) (tCons (tVar 7) tNil)))) tNil)))) rfl sc_graph_of.nd (pi_list (pe_c C1 hr (by decide) rfl (pa_cons (pv 0) (pa_cons (pv 6) pa_nil)))) (blkOk_by (N := ["rule", "crowd", "limit", "found", "line", "seen", "here", "number", "behind"]) (sc := defScope s_graph_of) (by decide +kernel)) (fun _ _ _ _ _ => (pg_name (i := 7) sc_graph_of.nd rfl (.inl rfl))) (fun _ _ _ _ _ => pts_nil) (fun _ _ _ _ _ => (pe_tup (pa_cons (pv 7) (pa_cons (pe_c C2 hr (by decide) rfl (pa_cons (pv 0) (pa_cons (pv 6) (pa_cons (pv 7) pa_nil)))) pa_nil))))) rfl)
      (pss_cons (ps_for PassesOwn.never rfl (pi_list (pe_dget hu (pv 3) (pv 6) (fun _ _ => rfl))) (pg_tup rfl (pgs_cons (pg_name (i := 7) sc_graph_of.nd rfl (.inl rfl)) (pgs_cons (pg_name (i := 8) sc_graph_of.nd rfl (.inl rfl)) pgs_nil)))
        (pss_one (ps_if (pt_cmp (pc_dnotin hu (pv 8) (pv 5)))
          (pss_cons (ps_dput hu (pv 5) (pv 8) pe_bl rfl)
          (pss_one (ps_expr (pe_bm PySem.F.plainAttrs_list PySem.F.slot_list_append PySem.F.type_list_append mt_append (pv 4) (pa_cons (pv 8) pa_nil))))) pss_nil)))
      (pss_one (ps_if (pt_cmpR op_gt (pe_callB call_len_seq (by rfl) T.len boot_len (pa_cons (pv 4) pa_nil)) (pv 2) (nomark _))
        (pss_one ps_never) pss_nil))))))
    (pss_one (ps_ret (pv 3))))))), ?_⟩
  refine fun g ng => ⟨_, rfl, (by show 1 ≤ sizeLine; decide), fun ln nln => ?_⟩
  obtain ⟨nlg, nln0⟩ := upd_none nln
  refine fun sn nsn => ⟨_, rfl, upd_same, a0, ck c0, rfl, ?_, ?_⟩
  · rw [ck_kV]
    have n1 := upd_none nsn
    have n2 := upd_none n1.2
    exact at_ne (at_ne (at_ne ha0 (ne_of_none ha0 ng)) (ne_of_none ha0 nln0)) (ne_of_none ha0 n2.2)
  obtain ⟨nsl, nsn1⟩ := upd_none nsn
  obtain ⟨nsg, nsn0⟩ := upd_none nsn1
  rw [upd_upd]
  generalize hH : upd (upd (upd H0 g (.dT [])) ln (.lst [.ref a0])) sn (.dT [(ck c0, .bl true)]) = H
  have s0 : Same H0 H := by rw [← hH]; exact same_put (same_put (same_new ng) nln0) nsn0
  have eg : H g = some (.dT []) := by rw [← hH]; exact at_ne (at_ne upd_same (Ne.symm nlg)) (Ne.symm nsg)
  have el : H ln = some (.lst [.ref a0]) := by rw [← hH]; exact at_ne upd_same (Ne.symm nsl)
  have es : H sn = some (.dT [(ck c0, .bl true)]) := by rw [← hH]; exact upd_same
  clear hH nsn nsn1 nln
  refine ⟨fun m σ H => ∃ (L : List Cr) (k : Nat) (vs : List V) (kf ks : List (List Key × V)) (y6 y7 y8 : Option V), m = 71 - k ∧ σ = [some u, some (.ref a0), some (.int 1000), some (.ref g), some (.ref ln), some (.ref sn), y6, y7, y8] ∧ Same H0 H ∧
      H g = some (.dT kf) ∧ H ln = some (.lst vs) ∧ H sn = some (.dT ks) ∧ Paired (fun kv c => kv.1 = ck c ∧ LsNe H ln kv.2 (succ r c)) kf (L.take k) ∧ Paired (CrAt H) vs L ∧ Paired (fun kv c => kv.1 = ck c ∧ True) ks L ∧ Bfs (succ r) c0 L k,
    ⟨71, [c0], 0, [.ref a0], [], [(ck c0, .bl true)], none, none, none, rfl, rfl, s0, eg, el, es, .nil, .cons ⟨a0, rfl, s0 _ _ ha0⟩ .nil, .cons ⟨rfl, trivial⟩ .nil, Bfs.start _ _⟩, ?_⟩
  rintro m σ H ⟨L, k, vs, kf, ks, y6, y7, y8, rfl, rfl, s1, eg, el, es, pf, pl, ps, bf⟩
  have hL := bf.len ho hh hc
  have hkl := bf.kl
  have lv : vs.length = L.length := Paired.length pl
  have lf : kf.length = k := by rw [Paired.length pf, List.length_take]; omega
  refine ⟨_, rfl, g, kf, rfl, eg, _, rfl, ln, vs, rfl, .inl (SqL.of el), _, _, rfl, rfl, _, rfl, ?_⟩
  refine ite2 (fun z => ?_) (fun z => ?_)
  · -- a turn
    have z := of_decide_eq_true z
    have hk : k < L.length := by omega
    have hck : L[k]? = some L[k] := List.getElem?_eq_getElem hk
    generalize hc' : L[k] = c at hck
    obtain ⟨hv, hvk, av, rfl, hav⟩ := Paired.getR pl hck
    have hcL : c ∈ L := List.mem_of_getElem? hck
    have hcr : Reach (succ r) c0 c := bf.re c hcL
    have hco : CrOk r h c := reach_ok ho hc hcr
    have hR1 : RlAt H u r := hR.tk (Tk.same s1)
    refine ⟨fun σ H' => ∃ m', m' < 71 - k ∧ ∃ (L : List Cr) (k : Nat) (vs : List V) (kf ks : List (List Key × V)) (y6 y7 y8 : Option V), m' = 71 - k ∧ σ = [some u, some (.ref a0), some (.int 1000), some (.ref g), some (.ref ln), some (.ref sn), y6, y7, y8] ∧ Same H0 H' ∧
      H' g = some (.dT kf) ∧ H' ln = some (.lst vs) ∧ H' sn = some (.dT ks) ∧ Paired (fun kv c => kv.1 = ck c ∧ LsNe H' ln kv.2 (succ r c)) kf (L.take k) ∧ Paired (CrAt H') vs L ∧ Paired (fun kv c => kv.1 = ck c ∧ True) ks L ∧ Bfs (succ r) c0 L k, fun σ' H' ⟨m', h1, h2⟩ => ⟨m', h1, h2⟩, ?_⟩
    -- here = line[len(found)]
    refine ⟨_, rfl, _, rfl, g, kf, rfl, eg, ln, vs, _, _, rfl, rfl, SqL.of el, atI_nat (by rw [lf]; exact hvk), ?_⟩
    -- can(rule, here)
    refine ⟨u, rfl, .ref av, rfl, r, u, .ref av, c, rfl, hR1, ho, ⟨av, rfl, hav⟩, hco.len, fun H2 l2 s2 n2 e2 => ?_⟩
    refine ⟨l2, rfl, ⟨_, SqL.of e2⟩, fun D nD => ?_⟩
    refine lc_same (walk_list (K := K) (a := l2) (xs := ((succ r c).map (·.1)).map V.int)) (succ r c) some PrAt (by simp) ?_ nD (fun H1 s => SqL.of (s _ _ e2))
      (fun H1 H2 y b acc _ e k h => h.tk (Tk.butL e k)) ?_ (fun H3 acc s3 e3 p3 => ?_)
    · refine small1000 ?_
      rw [List.length_map, List.length_map]
      refine Nat.le_trans (List.length_filterMap_le ..) ?_
      rw [nums_len]
      have := ho.ml
      omega
    · intro i p x H3 H4 Kt Kf kt kf hp s3 _ hy
      obtain ⟨rfl, hx⟩ := hy
      rw [List.getElem?_map, List.getElem?_map, hp] at hx
      obtain rfl : V.int p.1 = x := Option.some.inj hx
      obtain ⟨j, mt, q1, q2, q3, q4⟩ := succ_num (List.mem_of_getElem? hp)
      have k3 : Tk H0 H4 := Tk.same ((s1.trans s2).trans s3)
      refine ⟨rfl, iteT (B := Kf H4) ⟨_, rfl, u, rfl, .ref av, rfl, _, rfl, r, u, .ref av, c, j, mt, by rw [q1]; rfl, hR.tk k3, ho, ⟨av, rfl, s3 _ _ (s2 _ _ hav)⟩, hco.len, q2, q3, fun H5 z s5 hz => ?_⟩⟩
      refine ⟨(by show 2 ≤ sizeLine; decide), fun T nT => kt _ _ p (s5.trans (same_new nT)) rfl ⟨T, z, rfl, upd_same, ?_⟩⟩
      rw [q4]
      exact hz.tk (Tk.new nT)
    · -- found[here] = ..
      rw [List.filterMap_some] at p3
      have s03 : Same H H3 := s2.trans s3
      have hcn : c ∉ L.take k := fun hm => by
        have nd := bf.nd
        obtain ⟨i, hi⟩ := List.mem_iff_getElem?.mp hm
        have hi2 : i < k := by
          have := (List.getElem?_eq_some_iff.mp hi).1
          rw [List.length_take] at this
          omega
        rw [List.getElem?_take_of_lt hi2] at hi
        have := nd_ix nd hi hck
        omega
      have hDl : D ≠ ln := fun e => by rw [e] at nD; rw [s2 _ _ el] at nD; cases nD
      have hgD : D ≠ g := fun e => by rw [e] at nD; rw [s2 _ _ eg] at nD; cases nD
      have pf3 : Paired (fun kv c => kv.1 = ck c ∧ LsNe H3 ln kv.2 (succ r c)) kf (L.take k) := pf.mono fun kv c ⟨h1, l, vs, h2, h3, h4, h5⟩ => ⟨h1, l, vs, h2, h3, s03 _ _ h4, prs_tk (Tk.same s03) h5⟩
      have pf4 := dk_put (F := fun v c => LsNe H3 ln v (succ r c)) pf3 hcn (v := .ref D) ⟨D, acc, rfl, hDl, e3, p3⟩
      refine ⟨_, rfl, _, rfl, g, _, rfl, DPut.t (k := ck c) (s03 _ _ eg) (by rw [ck_kV]; exact s03 _ _ hav) (small1000 (by omega)), ?_⟩
      generalize hH4 : upd H3 g (.dT (putK kf (ck c) (.ref D))) = H4
      have b4 : But g H3 H4 := by rw [← hH4]; exact but_upd
      have eg4 : H4 g = some (.dT (putK kf (ck c) (.ref D))) := by rw [← hH4]; exact upd_same
      have k4 : Tk H3 H4 := Tk.butD (s03 _ _ eg) b4
      have k04 : Tk H H4 := (Tk.same s03).trans k4
      have s4 : Same H0 H4 := by rw [← hH4]; exact same_put (s1.trans s03) ng
      have el4 : H4 ln = some (.lst vs) := b4 _ _ nlg (s03 _ _ el)
      have es4 : H4 sn = some (.dT ks) := b4 _ _ nsg (s03 _ _ es)
      have eD4 : H4 D = some (.lst acc) := b4 _ _ hgD e3
      have pf4' : Paired (fun kv c => kv.1 = ck c ∧ LsNe H4 ln kv.2 (succ r c)) (putK kf (ck c) (.ref D)) (L.take k ++ [c]) := pf4.mono fun kv c ⟨h1, l, vs, h2, h3, h4, h5⟩ => ⟨h1, l, vs, h2, h3, b4 _ _ (ne_of h4 (s03 _ _ eg) (by intro z; cases z)) h4, prs_tk k4 h5⟩
      have hD : valV (putK kf (ck c) (.ref D)) (ck c) = some (.ref D) := by rw [valV_put, if_pos rfl]
      clear hH4 pf4 pf3
      -- for number, behind in found[here]
      refine ⟨_, rfl, _, rfl, g, .ref D, rfl, by rw [← hD]; exact DGet.t eg4 (by rw [ck_kV]; exact k04 _ _ hav), D, rfl, ⟨_, SqL.of eD4⟩, ?_⟩
      refine for_it (walk_list (K := K) (a := D) (xs := acc)) (fun i σ H' => ∃ (vs : List V) (ks : List (List Key × V)) (y7 y8 : Option V), σ = [some u, some (.ref a0), some (.int 1000), some (.ref g), some (.ref ln), some (.ref sn), some (.ref av), y7, y8] ∧ Same H0 H' ∧ Tk H4 H' ∧
          H' g = some (.dT (putK kf (ck c) (.ref D))) ∧ H' ln = some (.lst vs) ∧ H' sn = some (.dT ks) ∧ H' D = some (.lst acc) ∧ Paired (fun kv c => kv.1 = ck c ∧ LsNe H' ln kv.2 (succ r c)) (putK kf (ck c) (.ref D)) (L.take k ++ [c]) ∧
          Paired (CrAt H') vs (addNew L ((succ r c).take i)) ∧ Paired (fun kv c => kv.1 = ck c ∧ True) ks (addNew L ((succ r c).take i)))
        ⟨vs, ks, y7, y8, rfl, s4, Tk.refl _, eg4, el4, es4, eD4, pf4', by rw [List.take_zero]; exact crs_tk k04 pl, by rw [List.take_zero]; exact ps⟩ (fun i σ H' _ ⟨_, _, _, _, _, _, _, _, _, _, h, _⟩ => SqL.of h) ?_ ?_
      · rintro i x σ H5 H6 hi ⟨vs, ks, y7, y8, rfl, s5, k5, eg5, el5, es5, eD5, pf5, pl5, ps5⟩ ⟨rfl, hx⟩
        have hia : i < (succ r c).length := by rw [← Paired.length p3]; exact hi
        obtain ⟨p, hp, a6, u6, rfl, ha6, b6, rfl, hb6⟩ := paired_get p3 hx
        have ha6 := k5 _ _ (k4 _ _ ha6)
        have hb6 := k5 _ _ (k4 _ _ hb6)
        have et : (succ r c).take (i + 1) = (succ r c).take i ++ [p] := by rw [List.take_add_one, hp]; rfl
        refine ⟨a6, _, rfl, SqT.of ha6, rfl, _, _, rfl, _, _, rfl, rfl, ?_⟩
        have hmem := dk_isSome (F := fun _ _ => True) ps5 p.2
        refine ⟨_, rfl, _, rfl, sn, _, rfl, DGet.t (k := ck p.2) es5 (by rw [ck_kV]; exact hb6), _, rfl, ?_⟩
        rw [hmem]
        have hlen : (addNew L ((succ r c).take i)).length ≤ 1000 := by
          have n5 := addNew_nodup ((succ r c).take i) bf.nd
          refine Nat.le_trans (few ho hh n5 fun d hd => ?_) (by decide)
          rcases (addNew_mem _).mp hd with hd | ⟨p, h1, h2⟩
          · exact reach_ok ho hc (bf.re d hd)
          · rw [← h2]
            exact succ_ok ho hco (List.mem_of_mem_take h1)
        by_cases hin : p.2 ∈ addNew L ((succ r c).take i)
        · rw [decide_eq_true hin]
          refine iteF ⟨vs, ks, _, _, rfl, s5, k5, eg5, el5, es5, eD5, pf5, ?_, ?_⟩
          · rw [et, addNew_snoc, if_pos hin]; exact pl5
          · rw [et, addNew_snoc, if_pos hin]; exact ps5
        · rw [decide_eq_false hin]
          refine iteT ⟨_, rfl, _, rfl, sn, _, rfl, DPut.t (k := ck p.2) es5 (by rw [ck_kV]; exact hb6) (small1000 (by rw [Paired.length ps5]; exact hlen)), ?_⟩
          refine ⟨.ref ln, rfl, .inl ⟨rfl, _, SqL.of (at_ne el5 (Ne.symm nsl))⟩, .ref b6, rfl, ln, vs, .ref b6, rfl, rfl, at_ne el5 (Ne.symm nsl), small1000 (by rw [Paired.length pl5]; exact hlen), ?_⟩
          have k6 : Tk H6 (upd (upd H6 sn (.dT (putK ks (ck p.2) (.bl true)))) ln (.lst (vs ++ [.ref b6]))) := (Tk.mutD es5).trans (Tk.mutL (at_ne el5 (Ne.symm nsl)))
          refine ⟨vs ++ [.ref b6], putK ks (ck p.2) (.bl true), _, _, rfl, same_put (same_put s5 nsn0) nln0, k5.trans k6, at_ne (at_ne eg5 (Ne.symm nsg)) (Ne.symm nlg), upd_same, at_ne upd_same nsl, at_ne (at_ne eD5 ?_) hDl, ?_, ?_, ?_⟩
          · exact ne_of eD5 es5 (by intro z; cases z)
          · exact pf5.mono fun kv c ⟨h1, l, vs, h2, h3, h4, h5⟩ => ⟨h1, l, vs, h2, h3, at_ne (at_ne h4 (ne_of h4 es5 (by intro z; cases z))) h3, prs_tk k6 h5⟩
          · rw [et, addNew_snoc, if_neg hin]
            exact (crs_tk k6 pl5).snoc ⟨b6, rfl, k6 _ _ hb6⟩
          · rw [et, addNew_snoc, if_neg hin]
            exact dk_put (F := fun _ _ => True) ps5 hin trivial
      · rintro σ H5 ⟨vs, ks, y7, y8, rfl, s5, k5, eg5, el5, es5, eD5, pf5, pl5, ps5⟩
        rw [Paired.length p3, List.take_length] at pl5 ps5
        obtain ⟨bf', et'⟩ := bf.step hck
        have hL' := bf'.len ho hh hc
        refine ⟨.ref ln, rfl, ln, vs, rfl, .inl (SqL.of el5), _, rfl, _, _, rfl, rfl, _, rfl, ?_⟩
        have : ¬ ((1000 : Int) < (vs.length : Int)) := by rw [Paired.length pl5]; omega
        rw [decide_eq_false this]
        refine iteF ⟨71 - (k + 1), by omega, addNew L (succ r c), k + 1, vs, _, ks, _, _, _, rfl, rfl, s5, eg5, el5, es5, ?_, pl5, ps5, bf'⟩
        rw [et']
        exact pf5
  · -- the end
    have z : ¬ _ := fun h => z (decide_eq_true h)
    have hk : L.length ≤ k := by omega
    refine ⟨_, rfl, q H g L s1 ng ⟨kf, eg, ?_⟩ (bf.done hk)⟩
    rw [List.take_of_length_le hk] at pf
    exact pf.mono fun kv c ⟨h1, l, vs, h2, h3, h4, h5⟩ => ⟨h1, l, vs, h2, h4, h5⟩
end
end Pb
set_option Elab.async false
set_option linter.all false
set_option maxRecDepth 100000
set_option maxHeartbeats 4000000
namespace Pb
open PySem PySem.Spec PyProof.Rows L2
open C8 (Cal pe_c)
section
variable {P : Program} {w : World} {K : PySem.W.Frag} {mg : Str → Option Value} {base : Heap}
theorem hu64_of {A : Around} {k : Nat} (hr : Room k A) : A.units + 64 < cLine := by have := hr.un; omega
theorem hu65_of {A : Around} {k : Nat} (hr : Room k A) : A.units + 65 < cLine := by have := hr.un; omega
theorem strF {a b : Str} {A B : Prop} (h : a ≠ b) (k : B) : if decide (V.str a = V.str b) = true then A else B := by
  rw [decide_eq_false (fun z => h (V.str.inj z))]
  exact iteF k
theorem strT {a b : Str} {A B : Prop} (h : a = b) (k : A) : if decide (V.str a = V.str b) = true then A else B := by
  rw [decide_eq_true (congrArg V.str h)]
  exact iteT k
/-! ### come -/
theorem sc_come : FnScope ["rule", "crowd", "limit"] ["rule", "crowd", "limit"] (defScope s_come) := ⟨rfl, rfl, rfl, by decide +kernel, rfl, by decide +kernel, by decide +kernel⟩
def spCome (dv : List V) : Sp := fun vs H Q _ => ∃ (r : Rl) (u v : V) (c : Cr) (h : Nat), vs = [u, v, .int 1000] ∧ RlAt H u r ∧ RlOk r ∧ CrAt H v c ∧ CrOk r h c ∧ h ≤ 4 ∧ 1 ≤ r.rooms ∧
  ∀ H' l vs L, Same H H' → H l = none → H' l = some (.lst vs) → Paired (CrAt H') vs (srtC L) → GrOf (succ r) c L → Q (.ref l) H'
theorem come_body (T : Tx mg) (C1 : Cal P w K mg base 4 "graph_of" spGraph []) (dv : List V) : BodyOk P w K mg base "come" s_come ["rule", "crowd", "limit"] 4 (spCome dv) := by
  refine fun f cdv A outer s H vs Q E hr h => ?_
  obtain ⟨r, u, v, c, h, rfl, hR, ho, hv, hc, hh, h1, q⟩ := h
  have hu64 := hu64_of hr
  refine ⟨_, (pss_one (ps_ret (pe_callB (cr_sortKT rfl hu64) (by rfl) T.sorted boot_sorted (pa_cons (pe_c C1 hr (by decide) rfl (pa_cons (pv 0) (pa_cons (pv 1) (pa_cons (pv 2) pa_nil)))) pa_nil)))), ?_⟩
  refine ⟨u, rfl, v, rfl, .int 1000, rfl, r, u, v, c, h, rfl, hR, ho, hv, hc, hh, fun H' g L s1 n1 ⟨kvs, eg, pg⟩ gr => ?_⟩
  refine ⟨g, kvs, L, rfl, .inl eg, keys_ck (F := fun v c => LsAt H' v (succ r c)) pg, fun d hd e => ?_, fun p bs np hb1 hb2 => ?_⟩
  · have o := reach_ok ho hc ((gr.mem d).mp hd)
    rw [e] at o
    have := o.len
    simp at this
    omega
  · refine q _ p _ L (s1.trans (same_new np)) (s1.free np) upd_same ?_ gr
    have := srt_crs hb1 hb2
    exact crs_tk (Tk.new np) this
theorem ok_come3 (T : Tx mg) (D : DefAt K mg "come" s_come [.int 1000]) (C1 : Cal P w K mg base 4 "graph_of" spGraph []) : Cal P w K mg base 5 "come" (spCome []) [] := by
  obtain ⟨f, fd, F, hm⟩ := D.ex
  obtain ⟨ds, hds, hB⟩ := F.binds1 (ps := ["rule", "crowd", "limit"]) 3 1 (by simp) rfl fun T kV doc pm an cdv ct us its h1 h2 => match us, its, h1, h2 with | [_, _, _], [_], _, _ => ⟨_, rfl, rfl⟩
  refine ⟨f, fd, _, ds, F.ok sc_come (fun vs H Q E ⟨_, _, _, _, _, e, _⟩ => by rw [e]; rfl) (fun cdv A outer s H vs Q E hr hsp => ?_), hm, F.kp, hB, hds⟩
  obtain ⟨t, h, q⟩ := come_body T C1 [] f cdv A outer s H vs Q E hr hsp
  exact ⟨t, PSs.nox h, q⟩
theorem ok_come2 (T : Tx mg) (D : DefAt K mg "come" s_come [.int 1000]) (C1 : Cal P w K mg base 4 "graph_of" spGraph []) : Cal P w K mg base 5 "come" (spCome [.int 1000]) [.int 1000] :=
  cal1 (n := 2) D sc_come rfl (fun T kV doc pm an cdv ct us its h1 h2 => match us, its, h1, h2 with | [_, _], [_], _, _ => ⟨_, rfl, rfl⟩) (fun vs H Q E ⟨_, _, _, _, _, e, _⟩ => by rw [e]; rfl) (come_body T C1 _)
/-! ### hands_of -/
theorem sc_hands_of : FnScope ["some", "counts", "sort"] ["some", "counts"] (defScope s_hands_of) := ⟨rfl, rfl, rfl, by decide +kernel, rfl, by decide +kernel, by decide +kernel⟩
def spHands : Sp := fun vs H Q _ => ∃ (u v : V) (ss cs : List Int), vs = [u, v] ∧ CrAt H u ss ∧ CrAt H v cs ∧ (∀ i ∈ ss, InR cs.length i) ∧ ss.length ≤ 1000 ∧ ∀ H', Same H H' → Q (.int (sumOf ss cs)) H'
/-- an item of a tuple, by its place -/
theorem at_in {c : List Int} {i : Int} (hi : InR c.length i) : atI (c.map V.int) i = some (.int (gt c i)) := by
  obtain ⟨h0, h1⟩ := hi
  have e : i = ((i.toNat : Nat) : Int) := by omega
  have hl : i.toNat < c.length := by omega
  rw [e]
  refine atI_nat ?_
  rw [List.getElem?_map, ← e, List.getElem?_eq_getElem hl]
  unfold gt
  rw [List.getD_eq_getElem?_getD, List.getElem?_eq_getElem hl]
  rfl
theorem ok_hands_of (T : Tx mg) (D : DefAt K mg "hands_of" s_hands_of []) : Cal P w K mg base 1 "hands_of" spHands [] := by
  refine cal0 D sc_hands_of (fun _ _ _ _ _ _ us hl => match us, hl with | [_, _], _ => rfl) (fun vs H Q E ⟨_, _, _, _, e, _⟩ => by rw [e]; rfl) fun f cdv A outer s H vs Q E hr h => ?_
  obtain ⟨_, _, ss, cs, rfl, ⟨a, rfl, ha⟩, ⟨b, rfl, hb⟩, hin, hz, q⟩ := h
  refine ⟨_, (pss_one (ps_ret (pe_callB (cr_sum rfl) (by rfl) T.sum boot_sum (pa_cons (pe_lc (own := [("sort", 2)]) (g := (gName 2)) (tt := tYes) (te := (tOp (rIxT K) (tVar 1) (tVar 2))) rfl sc_hands_of.nd (pi_tup (pv 0)) (blkOk_by (N := ["some", "counts", "sort"]) (sc := defScope s_hands_of) (by decide +kernel)) (fun _ _ _ _ _ => (pg_name (i := 2) sc_hands_of.nd rfl (.inl rfl))) (fun _ _ _ _ _ => pts_nil) (fun _ _ _ _ _ => (pe_ix ix_tup (pv 1) (pv 2) (fun _ _ => rfl)))) pa_nil)))), ?_⟩
  refine ⟨_, rfl, a, rfl, ⟨_, SqT.of ha⟩, fun l nl => ?_⟩
  refine lc_same (walk_tup (K := K) (a := a) (xs := ss.map V.int)) ss (fun i => some (gt cs i)) IntIs (by simp) (by rw [List.length_map]; exact small1000 hz) nl (fun H1 s => SqT.of (s _ _ ha))
    (fun _ _ _ _ _ _ _ _ h => h) ?_ (fun H1 acc s1 e1 p1 => ?_)
  · intro i p x H1 H2 Kt Kf kt kf hp s1 _ hy
    obtain ⟨rfl, hx⟩ := hy
    rw [List.getElem?_map, hp] at hx
    obtain rfl : V.int p = x := Option.some.inj hx
    refine ⟨rfl, iteT (B := Kf H2) ⟨_, rfl, _, rfl, b, _, _, _, rfl, rfl, SqT.of (s1 _ _ hb), at_in (hin p (List.mem_of_getElem? hp)), ?_⟩⟩
    exact kt _ _ _ (Same.refl _) rfl rfl
  · rw [List.filterMap_eq_map'] at p1
    refine ⟨l, ss.map (gt cs), rfl, ?_, q H1 s1⟩
    have e := ints_of p1
    rw [← e]
    exact SqL.of e1
/-! ### holds -/
theorem sc_holds : FnScope ["question", "counts", "word"] ["question", "counts"] (defScope s_holds) := ⟨rfl, rfl, rfl, by decide +kernel, rfl, by decide +kernel, by decide +kernel⟩
def QnAt (H : Hp) : V → Qn → Prop
  | v, .least ss n => ∃ a b, v = .ref a ∧ H a = some (.tup [.str "least", .ref b, .int n]) ∧ H b = some (.tup (ss.map V.int))
  | v, .more ss os => ∃ a b d, v = .ref a ∧ H a = some (.tup [.str "more", .ref b, .ref d]) ∧ H b = some (.tup (ss.map V.int)) ∧ H d = some (.tup (os.map V.int))
  | v, .rest ss m r => ∃ a b, v = .ref a ∧ H a = some (.tup [.str "rest", .ref b, .int m, .int r]) ∧ H b = some (.tup (ss.map V.int))
  | v, .not q => ∃ a u, v = .ref a ∧ H a = some (.tup [.str "not", u]) ∧ QnAt H u q
theorem QnAt.tk {H H' : Hp} (k : Tk H H') : ∀ {v : V} {q : Qn}, QnAt H v q → QnAt H' v q
  | _, .least _ _, ⟨a, b, e, h1, h2⟩ => ⟨a, b, e, k _ _ h1, k _ _ h2⟩
  | _, .more _ _, ⟨a, b, d, e, h1, h2, h3⟩ => ⟨a, b, d, e, k _ _ h1, k _ _ h2, k _ _ h3⟩
  | _, .rest _ _ _, ⟨a, b, e, h1, h2⟩ => ⟨a, b, e, k _ _ h1, k _ _ h2⟩
  | _, .not _, ⟨a, u, e, h1, h2⟩ => ⟨a, u, e, k _ _ h1, QnAt.tk k h2⟩
def QnLen : Qn → Prop
  | .least s _ => s.length ≤ 1000
  | .more s o => s.length ≤ 1000 ∧ o.length ≤ 1000
  | .rest s _ _ => s.length ≤ 1000
  | .not q => QnLen q
def spHolds (n : Nat) : Sp := fun vs H Q _ => ∃ (u v : V) (q : Qn) (cs : List Int), vs = [u, v] ∧ QnAt H u q ∧ q.depth ≤ n ∧ QnOk cs.length q ∧ QnLen q ∧ CrAt H v cs ∧ ∀ H', Same H H' → Q (.bl (holdsM cs q)) H'
theorem holds_leaf {T : Tx mg} {D : DefAt K mg "holds" s_holds []} {C1 : Cal P w K mg base 1 "hands_of" spHands []} : True := trivial
theorem ok_holds0 (T : Tx mg) (D : DefAt K mg "holds" s_holds []) (C1 : Cal P w K mg base 1 "hands_of" spHands []) : Cal P w K mg base 2 "holds" (spHolds 0) [] := by
  refine cal0 D sc_holds (fun _ _ _ _ _ _ us hl => match us, hl with | [_, _], _ => rfl) (fun vs H Q E ⟨_, _, _, _, e, _⟩ => by rw [e]; rfl) fun f cdv A outer s H vs Q E hr h => ?_
  obtain ⟨_, v, q, cs, rfl, hq, hd, hok, hlen, hv, k⟩ := h
  refine ⟨_, (pss_cons (ps_set (i := 2) sc_holds.nd rfl (.inl rfl) (pe_ix ix_tup (pv 0) pe_int (fun _ _ => rfl)))
    (pss_cons (ps_if (pt_cmpR op_eq (pv 2) pe_str (nomark _)) (pss_one ps_never) pss_nil)
    (pss_cons (ps_if (pt_cmpR op_eq (pv 2) pe_str (nomark _)) (pss_one ps_never) pss_nil)
    (pss_cons (ps_if (pt_cmpR op_eq (pv 2) pe_str (nomark _)) (pss_one ps_never) pss_nil)
    (pss_cons (ps_if (pt_cmpR op_eq (pv 2) pe_str (nomark _))
      (pss_one (ps_ret (pe_cmpR op_ge (pe_c C1 hr (by decide) rfl (pa_cons (pe_ix ix_tup (pv 0) pe_int (fun _ _ => rfl)) (pa_cons (pv 1) pa_nil))) (pe_ix ix_tup (pv 0) pe_int (fun _ _ => rfl)) (nomark _)))) pss_nil)
    (pss_cons (ps_if (pt_cmpR op_eq (pv 2) pe_str (nomark _))
      (pss_one (ps_ret (pe_cmpR op_gt (pe_c C1 hr (by decide) rfl (pa_cons (pe_ix ix_tup (pv 0) pe_int (fun _ _ => rfl)) (pa_cons (pv 1) pa_nil))) (pe_c C1 hr (by decide) rfl (pa_cons (pe_ix ix_tup (pv 0) pe_int (fun _ _ => rfl)) (pa_cons (pv 1) pa_nil))) (nomark _)))) pss_nil)
    (pss_one (ps_ret (pe_cmpR op_eq (pe_op op_mod (pe_c C1 hr (by decide) rfl (pa_cons (pe_ix ix_tup (pv 0) pe_int (fun _ _ => rfl)) (pa_cons (pv 1) pa_nil))) (pe_ix ix_tup (pv 0) pe_int (fun _ _ => rfl))) (pe_ix ix_tup (pv 0) pe_int (fun _ _ => rfl)) (nomark _)))))))))), ?_⟩
  cases q with
  | not q => exact absurd hd (by show ¬ q.depth + 1 ≤ 0; omega)
  | least ss n =>
    obtain ⟨a, b, rfl, ha, hb⟩ := hq
    refine ⟨_, rfl, _, _, _, _, rfl, rfl, SqT.of ha, atI_nat (j := 0) rfl, ?_⟩
    refine ⟨_, rfl, rfl, _, rfl, strF (by decide) ⟨_, rfl, rfl, _, rfl, strF (by decide) ⟨_, rfl, rfl, _, rfl, strF (by decide) ⟨_, rfl, rfl, _, rfl, strT rfl ?_⟩⟩⟩⟩
    refine ⟨_, rfl, _, _, _, _, rfl, rfl, SqT.of ha, atI_nat (j := 1) rfl, v, rfl, _, v, ss, cs, rfl, ⟨b, rfl, hb⟩, hv, hok, hlen, fun H1 s1 => ?_⟩
    exact ⟨_, rfl, _, _, _, _, rfl, rfl, SqT.of (s1 _ _ ha), atI_nat (j := 2) rfl, _, _, rfl, rfl, k _ s1⟩
  | more ss os =>
    obtain ⟨a, b, d, rfl, ha, hb, hd⟩ := hq
    refine ⟨_, rfl, _, _, _, _, rfl, rfl, SqT.of ha, atI_nat (j := 0) rfl, ?_⟩
    refine ⟨_, rfl, rfl, _, rfl, strF (by decide) ⟨_, rfl, rfl, _, rfl, strF (by decide) ⟨_, rfl, rfl, _, rfl, strF (by decide) ⟨_, rfl, rfl, _, rfl, strF (by decide) ⟨_, rfl, rfl, _, rfl, strT rfl ?_⟩⟩⟩⟩⟩
    refine ⟨_, rfl, _, _, _, _, rfl, rfl, SqT.of ha, atI_nat (j := 1) rfl, v, rfl, _, v, ss, cs, rfl, ⟨b, rfl, hb⟩, hv, hok.1, hlen.1, fun H1 s1 => ?_⟩
    refine ⟨_, rfl, _, _, _, _, rfl, rfl, SqT.of (s1 _ _ ha), atI_nat (j := 2) rfl, v, rfl, _, v, os, cs, rfl, ⟨d, rfl, s1 _ _ hd⟩, hv.tk (Tk.same s1), hok.2, hlen.2, fun H2 s2 => ?_⟩
    exact ⟨_, _, rfl, rfl, k _ (s1.trans s2)⟩
  | rest ss m r =>
    obtain ⟨a, b, rfl, ha, hb⟩ := hq
    refine ⟨_, rfl, _, _, _, _, rfl, rfl, SqT.of ha, atI_nat (j := 0) rfl, ?_⟩
    refine ⟨_, rfl, rfl, _, rfl, strF (by decide) ⟨_, rfl, rfl, _, rfl, strF (by decide) ⟨_, rfl, rfl, _, rfl, strF (by decide) ⟨_, rfl, rfl, _, rfl, strF (by decide) ⟨_, rfl, rfl, _, rfl, strF (by decide) ?_⟩⟩⟩⟩⟩
    refine ⟨_, rfl, _, _, _, _, rfl, rfl, SqT.of ha, atI_nat (j := 1) rfl, v, rfl, _, v, ss, cs, rfl, ⟨b, rfl, hb⟩, hv, hok.1, hlen, fun H1 s1 => ?_⟩
    refine ⟨_, rfl, _, _, _, _, rfl, rfl, SqT.of (s1 _ _ ha), atI_nat (j := 2) rfl, _, _, rfl, rfl, hok.2, ?_⟩
    refine ⟨_, rfl, _, _, _, _, rfl, rfl, SqT.of (s1 _ _ ha), atI_nat (j := 3) rfl, rfl, ?_⟩
    have e : decide (V.int (sumOf ss cs % m) = V.int r) = decide (sumOf ss cs % m = r) := by
      by_cases h : sumOf ss cs % m = r
      · rw [decide_eq_true h, decide_eq_true (congrArg V.int h)]
      · rw [decide_eq_false h, decide_eq_false (fun z => h (V.int.inj z))]
    rw [e]
    exact k _ s1
end
end Pb
set_option Elab.async false
set_option linter.all false
set_option maxRecDepth 100000
set_option maxHeartbeats 4000000
namespace Pb
open PySem PySem.Spec PyProof.Rows L2
open C8 (Cal pe_c)
section
variable {P : Program} {w : World} {K : PySem.W.Frag} {mg : Str → Option Value} {base : Heap}
/-! ### holds, deeper -/
theorem ok_holdsS (n : Nat) (T : Tx mg) (D : DefAt K mg "holds" s_holds []) (C0 : Cal P w K mg base (n + 2) "holds" (spHolds n) []) (C1 : Cal P w K mg base 1 "hands_of" spHands []) : Cal P w K mg base (n + 3) "holds" (spHolds (n + 1)) [] := by
  have CH : Cal P w K mg base 2 "holds" (spHolds 0) [] := ok_holds0 T D C1
  refine cal0 D sc_holds (fun _ _ _ _ _ _ us hl => match us, hl with | [_, _], _ => rfl) (fun vs H Q E ⟨_, _, _, _, e, _⟩ => by rw [e]; rfl) fun f cdv A outer s H vs Q E hr h => ?_
  obtain ⟨_, v, q, cs, rfl, hq, hd, hok, hlen, hv, k⟩ := h
  have hk : n + 2 ≤ n + 2 := Nat.le_refl _
  have hk1 : 1 ≤ n + 2 := by omega
  refine ⟨_, (pss_cons (ps_set (i := 2) sc_holds.nd rfl (.inl rfl) (pe_ix ix_tup (pv 0) pe_int (fun _ _ => rfl)))
    (pss_cons (ps_if (pt_cmpR op_eq (pv 2) pe_str (nomark _))
      (pss_one (ps_ret (pe_not (pe_c C0 hr (by omega) rfl (pa_cons (pe_ix ix_tup (pv 0) pe_int (fun _ _ => rfl)) (pa_cons (pv 1) pa_nil)))))) pss_nil)
    (pss_cons (ps_if (pt_cmpR op_eq (pv 2) pe_str (nomark _)) (pss_one ps_never) pss_nil)
    (pss_cons (ps_if (pt_cmpR op_eq (pv 2) pe_str (nomark _)) (pss_one ps_never) pss_nil)
    (pss_cons (ps_if (pt_cmpR op_eq (pv 2) pe_str (nomark _))
      (pss_one (ps_ret (pe_cmpR op_ge (pe_c C1 hr (by omega) rfl (pa_cons (pe_ix ix_tup (pv 0) pe_int (fun _ _ => rfl)) (pa_cons (pv 1) pa_nil))) (pe_ix ix_tup (pv 0) pe_int (fun _ _ => rfl)) (nomark _)))) pss_nil)
    (pss_cons (ps_if (pt_cmpR op_eq (pv 2) pe_str (nomark _))
      (pss_one (ps_ret (pe_cmpR op_gt (pe_c C1 hr (by omega) rfl (pa_cons (pe_ix ix_tup (pv 0) pe_int (fun _ _ => rfl)) (pa_cons (pv 1) pa_nil))) (pe_c C1 hr (by omega) rfl (pa_cons (pe_ix ix_tup (pv 0) pe_int (fun _ _ => rfl)) (pa_cons (pv 1) pa_nil))) (nomark _)))) pss_nil)
    (pss_one (ps_ret (pe_cmpR op_eq (pe_op op_mod (pe_c C1 hr (by omega) rfl (pa_cons (pe_ix ix_tup (pv 0) pe_int (fun _ _ => rfl)) (pa_cons (pv 1) pa_nil))) (pe_ix ix_tup (pv 0) pe_int (fun _ _ => rfl))) (pe_ix ix_tup (pv 0) pe_int (fun _ _ => rfl)) (nomark _)))))))))), ?_⟩
  cases q with
  | not q =>
    obtain ⟨a, u, rfl, ha, hu⟩ := hq
    refine ⟨_, rfl, _, _, _, _, rfl, rfl, SqT.of ha, atI_nat (j := 0) rfl, ?_⟩
    refine ⟨_, rfl, rfl, _, rfl, strT rfl ?_⟩
    refine ⟨_, rfl, _, _, _, _, rfl, rfl, SqT.of ha, atI_nat (j := 1) rfl, v, rfl, u, v, q, cs, rfl, hu, Nat.le_of_succ_le_succ hd, hok, hlen, hv, fun H1 s1 => ⟨_, rfl, k _ s1⟩⟩
  | least ss n =>
    obtain ⟨a, b, rfl, ha, hb⟩ := hq
    refine ⟨_, rfl, _, _, _, _, rfl, rfl, SqT.of ha, atI_nat (j := 0) rfl, ?_⟩
    refine ⟨_, rfl, rfl, _, rfl, strF (by decide) ⟨_, rfl, rfl, _, rfl, strF (by decide) ⟨_, rfl, rfl, _, rfl, strF (by decide) ⟨_, rfl, rfl, _, rfl, strT rfl ?_⟩⟩⟩⟩
    refine ⟨_, rfl, _, _, _, _, rfl, rfl, SqT.of ha, atI_nat (j := 1) rfl, v, rfl, _, v, ss, cs, rfl, ⟨b, rfl, hb⟩, hv, hok, hlen, fun H1 s1 => ?_⟩
    exact ⟨_, rfl, _, _, _, _, rfl, rfl, SqT.of (s1 _ _ ha), atI_nat (j := 2) rfl, _, _, rfl, rfl, k _ s1⟩
  | more ss os =>
    obtain ⟨a, b, d, rfl, ha, hb, hd⟩ := hq
    refine ⟨_, rfl, _, _, _, _, rfl, rfl, SqT.of ha, atI_nat (j := 0) rfl, ?_⟩
    refine ⟨_, rfl, rfl, _, rfl, strF (by decide) ⟨_, rfl, rfl, _, rfl, strF (by decide) ⟨_, rfl, rfl, _, rfl, strF (by decide) ⟨_, rfl, rfl, _, rfl, strF (by decide) ⟨_, rfl, rfl, _, rfl, strT rfl ?_⟩⟩⟩⟩⟩
    refine ⟨_, rfl, _, _, _, _, rfl, rfl, SqT.of ha, atI_nat (j := 1) rfl, v, rfl, _, v, ss, cs, rfl, ⟨b, rfl, hb⟩, hv, hok.1, hlen.1, fun H1 s1 => ?_⟩
    refine ⟨_, rfl, _, _, _, _, rfl, rfl, SqT.of (s1 _ _ ha), atI_nat (j := 2) rfl, v, rfl, _, v, os, cs, rfl, ⟨d, rfl, s1 _ _ hd⟩, hv.tk (Tk.same s1), hok.2, hlen.2, fun H2 s2 => ?_⟩
    exact ⟨_, _, rfl, rfl, k _ (s1.trans s2)⟩
  | rest ss m r =>
    obtain ⟨a, b, rfl, ha, hb⟩ := hq
    refine ⟨_, rfl, _, _, _, _, rfl, rfl, SqT.of ha, atI_nat (j := 0) rfl, ?_⟩
    refine ⟨_, rfl, rfl, _, rfl, strF (by decide) ⟨_, rfl, rfl, _, rfl, strF (by decide) ⟨_, rfl, rfl, _, rfl, strF (by decide) ⟨_, rfl, rfl, _, rfl, strF (by decide) ⟨_, rfl, rfl, _, rfl, strF (by decide) ?_⟩⟩⟩⟩⟩
    refine ⟨_, rfl, _, _, _, _, rfl, rfl, SqT.of ha, atI_nat (j := 1) rfl, v, rfl, _, v, ss, cs, rfl, ⟨b, rfl, hb⟩, hv, hok.1, hlen, fun H1 s1 => ?_⟩
    refine ⟨_, rfl, _, _, _, _, rfl, rfl, SqT.of (s1 _ _ ha), atI_nat (j := 2) rfl, _, _, rfl, rfl, hok.2, ?_⟩
    refine ⟨_, rfl, _, _, _, _, rfl, rfl, SqT.of (s1 _ _ ha), atI_nat (j := 3) rfl, rfl, ?_⟩
    have e : decide (V.int (sumOf ss cs % m) = V.int r) = decide (sumOf ss cs % m = r) := by
      by_cases h : sumOf ss cs % m = r
      · rw [decide_eq_true h, decide_eq_true (congrArg V.int h)]
      · rw [decide_eq_false h, decide_eq_false (fun z => h (V.int.inj z))]
    rw [e]
    exact k _ s1
theorem ok_holds (T : Tx mg) (D : DefAt K mg "holds" s_holds []) (C1 : Cal P w K mg base 1 "hands_of" spHands []) : ∀ n, Cal P w K mg base (n + 2) "holds" (spHolds n) []
  | 0 => ok_holds0 T D C1
  | n + 1 => ok_holdsS n T D (ok_holds T D C1 n) C1
/-! ### truth_word -/
theorem sc_truth_word : FnScope ["question", "counts"] ["question", "counts"] (defScope s_truth_word) := ⟨rfl, rfl, rfl, by decide +kernel, rfl, by decide +kernel, by decide +kernel⟩
def W3.of (b : Bool) : W3 := if b then .yes else .no
def spTruth : Sp := fun vs H Q _ => ∃ (u v : V) (q : Qn) (cs : List Int), vs = [u, v] ∧ QnAt H u q ∧ q.depth ≤ 3 ∧ QnOk cs.length q ∧ QnLen q ∧ CrAt H v cs ∧ ∀ H', Same H H' → Q (.str (W3.of (holdsM cs q)).s) H'
theorem ok_truth_word (D : DefAt K mg "truth_word" s_truth_word []) (C1 : Cal P w K mg base 5 "holds" (spHolds 3) []) : Cal P w K mg base 6 "truth_word" spTruth [] := by
  refine cal0 D sc_truth_word (fun _ _ _ _ _ _ us hl => match us, hl with | [_, _], _ => rfl) (fun vs H Q E ⟨_, _, _, _, e, _⟩ => by rw [e]; rfl) fun f cdv A outer s H vs Q E hr h => ?_
  obtain ⟨u, v, q, cs, rfl, hq, hd, hok, hlen, hv, k⟩ := h
  refine ⟨_, (pss_one (ps_ret (pe_ifExp (pt_val (pe_c C1 hr (by omega) rfl (pa_cons (pv 0) (pa_cons (pv 1) pa_nil)))) pe_str pe_str))), ?_⟩
  refine ⟨u, rfl, v, rfl, u, v, q, cs, rfl, hq, hd, hok, hlen, hv, fun H1 s1 => ⟨_, rfl, ?_⟩⟩
  have := k H1 s1
  cases hb : holdsM cs q with
  | true => rw [hb] at this; exact iteT this
  | false => rw [hb] at this; exact iteF this
/-! ### settled -/
theorem sc_settled : FnScope ["rule", "crowd", "limit", "words", "word", "truth", "one"] ["rule", "crowd", "limit"] (defScope s_settled) := ⟨rfl, rfl, rfl, by decide +kernel, rfl, by decide +kernel, by decide +kernel⟩
def tri : Option Bool → V
  | some b => .bl b
  | none => .non
def spSettled : Sp := fun vs H Q _ => ∃ (r : Rl) (u v : V) (c : Cr) (h : Nat), vs = [u, v, .int 1000] ∧ RlAt H u r ∧ RlOk r ∧ CrAt H v c ∧ CrOk r h c ∧ h ≤ 4 ∧ ∀ H', Same H H' → Q (tri (stM r c)) H'
def StrIs (H : Hp) (v : V) (z : W3) : Prop := v = .str z.s
theorem strs_of {H : Hp} : ∀ {vs : List V} {ns : List W3}, Paired (StrIs H) vs ns → vs = ns.map fun z => V.str z.s
  | _, _, .nil => rfl
  | _, _, .cons h t => by rw [List.map_cons, ← strs_of t, h]
theorem W3.s_inj : ∀ {a b : W3}, a.s = b.s → a = b := by
  intro a b h
  cases a <;> cases b <;> first | rfl | exact absurd h (by decide)
theorem dec_w3 (a b : W3) : decide (V.str a.s = V.str b.s) = decide (a = b) := by
  by_cases h : a = b
  · rw [h]; simp
  · rw [decide_eq_false h, decide_eq_false (fun z => h (W3.s_inj (V.str.inj z)))]
theorem all_dec (ws : List W3) (z : W3) : (ws.map fun w => decide (w = z)).all id = decide (∀ w ∈ ws, w = z) := by
  induction ws with
  | nil => simp
  | cons w ws ih => simp [ih]
theorem ok_settled (T : Tx mg) (D : DefAt K mg "settled" s_settled [.int 1000]) (C1 : Cal P w K mg base 5 "come" (spCome []) []) (C2 : Cal P w K mg base 1 "said" spSaid []) : Cal P w K mg base 6 "settled" spSettled [.int 1000] := by
  refine cal1 (n := 2) D sc_settled rfl (fun T kV doc pm an cdv ct us its h1 h2 => match us, its, h1, h2 with | [_, _], [_], _, _ => ⟨_, rfl, rfl⟩) (fun vs H Q E ⟨_, _, _, _, _, e, _⟩ => by rw [e]; rfl) fun f cdv A outer s H vs Q E hr h => ?_
  obtain ⟨r, u, v, c, h, rfl, hR, ho, hv, hc, hh, k⟩ := h
  refine ⟨_, (pss_cons (ps_setLc (i := 3) (own := [("one", 6)]) (g := (gName 6)) (tt := tYes) (te := (tCall spSaid [] E0 (tCons (tVar 0) (tCons (tVar 6) tNil)))) rfl sc_settled.nd rfl rfl (sw_true rfl rfl rfl (by decide +kernel)) (pi_list (pe_c C1 hr (by omega) rfl (pa_cons (pv 0) (pa_cons (pv 1) (pa_cons (pv 2) pa_nil))))) (blkOk_by (N := ["rule", "crowd", "limit", "words", "word", "truth", "one"]) (sc := defScope s_settled) (by decide +kernel)) (fun _ _ _ _ _ => (pg_name (i := 6) sc_settled.nd rfl (.inl rfl))) (fun _ _ _ _ _ => pts_nil) (fun _ _ _ _ _ => (pe_c C2 hr (by omega) rfl (pa_cons (pv 0) (pa_cons (pv 6) pa_nil)))))
    (pss_cons (ps_for PassesOwn.never rfl (pi_tup (pe_tup (pa_cons (pe_tup (pa_cons pe_str (pa_cons pe_bl pa_nil))) (pa_cons (pe_tup (pa_cons pe_str (pa_cons pe_bl pa_nil))) pa_nil)))) (pg_tup rfl (pgs_cons (pg_name (i := 4) sc_settled.nd rfl (.inr rfl)) (pgs_cons (pg_name (i := 5) sc_settled.nd rfl (.inl rfl)) pgs_nil)))
      (pss_one (ps_if (pt_val (pe_callB (cr_all rfl) (by rfl) T.all boot_all (pa_cons (pe_lc (own := [("one", 6)]) (g := (gName 6)) (tt := tYes) (te := (tOp rEq (tVar 6) (tVar 4))) rfl sc_settled.nd (pi_list (pv 3)) (blkOk_by (N := ["rule", "crowd", "limit", "words", "word", "truth", "one"]) (sc := defScope s_settled) (by decide +kernel)) (fun _ _ _ _ _ => (pg_name (i := 6) sc_settled.nd rfl (.inl rfl))) (fun _ _ _ _ _ => pts_nil) (fun _ _ _ _ _ => (pe_cmpR op_eq (pv 6) (pv 4) (nomark _)))) pa_nil)))
        (pss_one (ps_ret (pv 5))) pss_nil)))
    (pss_one (ps_ret pe_non)))), ?_⟩
  refine ⟨u, rfl, v, rfl, .int 1000, rfl, r, u, v, c, h, rfl, hR, ho, hv, hc, hh, ho.r1, fun H1 l ls L s1 n1 e1 p1 gr => ?_⟩
  have hL := gr.len ho hh hc
  refine ⟨l, rfl, ⟨_, SqL.of e1⟩, fun D nD => ?_⟩
  refine lc_same (walk_list (K := K) (a := l) (xs := ls)) (srtC L) (fun d => some (saidM r d)) StrIs (Paired.length p1) (by rw [Paired.length p1, srtC_len]; exact small1000 (by omega)) nD (fun H1 s => SqL.of (s _ _ e1))
    (fun _ _ _ _ _ _ _ _ h => h) ?_ (fun H2 acc s2 e2 p2 => ?_)
  · intro i d x H2 H3 Kt Kf kt kf hp s2 _ hy
    obtain ⟨rfl, hx⟩ := hy
    obtain ⟨x', hx', hd⟩ := Paired.getR p1 hp
    obtain rfl : x' = x := Option.some.inj (hx'.symm.trans hx)
    have hmd := mem_srtC.mp (List.mem_of_getElem? hp)
    have hdo := reach_ok ho hc ((gr.mem d).mp hmd)
    refine ⟨rfl, iteT (B := Kf H3) ⟨_, rfl, _, rfl, r, u, x', d, rfl, hR.tk (Tk.same (s1.trans s2)), ho, hd.tk (Tk.same s2), hdo.len, fun H4 s4 => ?_⟩⟩
    exact kt _ _ _ s4 rfl rfl
  · rw [List.filterMap_eq_map'] at p2
    have ew := strs_of p2
    generalize hws : (srtC L).map (fun d => saidM r d) = ws at ew p2
    have hall : ∀ z : W3, (∀ w ∈ ws, w = z) ↔ ∀ d, Reach (succ r) c d → saidM r d = z := fun z => by
      rw [← hws]
      constructor
      · intro hz d hd
        exact hz _ (List.mem_map.mpr ⟨d, mem_srtC.mpr ((gr.mem d).mpr hd), rfl⟩)
      · intro hz w hw
        obtain ⟨d, hd, rfl⟩ := List.mem_map.mp hw
        exact hz d ((gr.mem d).mp (mem_srtC.mp hd))
    have lw : ws.length ≤ 1000 := by rw [← hws, List.length_map, srtC_len]; omega
    refine ⟨by show 2 ≤ sizeLine; decide, fun t1 nt1 => ⟨by show 2 ≤ sizeLine; decide, fun t2 nt2 => ⟨by show 2 ≤ sizeLine; decide, fun t3 nt3 => ⟨t3, rfl, ⟨_, SqT.of upd_same⟩, ?_⟩⟩⟩⟩
    obtain ⟨n21, nt2'⟩ := upd_none nt2
    obtain ⟨n32, nt3'⟩ := upd_none nt3
    obtain ⟨n31, nt3''⟩ := upd_none nt3'
    generalize hH : upd (upd (upd H2 t1 _) t2 _) t3 _ = H3
    have s3 : Same H2 H3 := by rw [← hH]; exact ((same_new nt1).trans (same_new nt2)).trans (same_new nt3)
    have et1 : H3 t1 = some (.tup [.str "yes", .bl true]) := by rw [← hH]; exact at_ne (at_ne upd_same (Ne.symm n21)) (Ne.symm n31)
    have et2 : H3 t2 = some (.tup [.str "no", .bl false]) := by rw [← hH]; exact at_ne upd_same (Ne.symm n32)
    have et3 : H3 t3 = some (.tup [.ref t1, .ref t2]) := by rw [← hH]; exact upd_same
    clear hH nt3 nt3' nt2
    have s03 : Same H H3 := (s1.trans s2).trans s3
    have eD3 : H3 D = some (.lst (ws.map fun z => V.str z.s)) := by rw [← ew]; exact s3 _ _ e2
    -- one turn: all([one == word for one in words])
    have turn : ∀ (σ : L2.St) (H4 : Hp) (z : W3) (Kn : L2.St → Hp → Prop) (Kr : V → Hp → Prop) (tv : V), True := fun _ _ _ _ _ _ => trivial
    refine for_it (walk_tup (K := K) (a := t3) (xs := [V.ref t1, .ref t2])) (fun i σ H' => ∃ y5 y6 y7, σ = [some u, some v, some (.int 1000), some (.ref D), y5, y6, y7] ∧ Same H3 H' ∧ (1 ≤ i → ¬ ∀ w ∈ ws, w = .yes) ∧ (2 ≤ i → ¬ ∀ w ∈ ws, w = .no))
      ⟨none, none, none, rfl, Same.refl _, fun z => absurd z (by decide), fun z => absurd z (by decide)⟩ (fun i σ H' _ ⟨_, _, _, _, h, _⟩ => SqT.of (h _ _ et3)) ?_ ?_
    · rintro i x σ H4 H5 hi ⟨y5, y6, y7, rfl, s4, g1, g2⟩ ⟨rfl, hx⟩
      have hz : ∃ (z : W3) (b : Bool) (t : Addr), x = .ref t ∧ H3 t = some (.tup [.str z.s, .bl b]) ∧ (b = true ∧ z = .yes ∧ i = 0 ∨ b = false ∧ z = .no ∧ i = 1) := by
        match i, hi with
        | 0, _ => exact ⟨.yes, true, t1, (Option.some.inj hx).symm, et1, .inl ⟨rfl, rfl, rfl⟩⟩
        | 1, _ => exact ⟨.no, false, t2, (Option.some.inj hx).symm, et2, .inr ⟨rfl, rfl, rfl⟩⟩
      obtain ⟨z, b, t, rfl, et, hz⟩ := hz
      refine ⟨t, _, rfl, SqT.of (s4 _ _ et), rfl, _, _, rfl, _, _, rfl, rfl, ?_⟩
      refine ⟨_, rfl, D, rfl, ⟨_, SqL.of (s4 _ _ eD3)⟩, fun D2 nD2 => ?_⟩
      refine lc_same (walk_list (K := K) (a := D) (xs := ws.map fun z => V.str z.s)) ws (fun w => some (decide (w = z))) BlIs (by rw [List.length_map]) (by rw [List.length_map]; exact small1000 lw) nD2 (fun H1 s => SqL.of (s _ _ (s4 _ _ eD3)))
        (fun _ _ _ _ _ _ _ _ h => h) ?_ (fun H6 acc2 s6 e6 p6 => ?_)
      · intro j w x H6 H7 Kt Kf kt kf hp s6 _ hy
        obtain ⟨rfl, hx⟩ := hy
        rw [List.getElem?_map, hp] at hx
        obtain rfl : V.str w.s = x := Option.some.inj hx
        refine ⟨rfl, iteT (B := Kf H7) ⟨_, rfl, _, rfl, rfl, ?_⟩⟩
        exact kt _ _ _ (Same.refl _) rfl (congrArg V.bl (dec_w3 w z))
      · rw [List.filterMap_eq_map'] at p6
        refine ⟨D2, ws.map (fun w => decide (w = z)), rfl, by rw [← bls_of p6]; exact SqL.of e6, _, rfl, ?_⟩
        rw [all_dec]
        have s7 : Same H H6 := s03.trans (s4.trans s6)
        by_cases hall' : ∀ w ∈ ws, w = z
        · rw [decide_eq_true hall']
          refine iteT ⟨_, rfl, ?_⟩
          have hk := k H6 s7
          have ez : stM r c = some b := by
            unfold stM
            rcases hz with ⟨rfl, rfl, rfl⟩ | ⟨rfl, rfl, rfl⟩
            · rw [if_pos ((hall .yes).mp hall')]
            · rw [if_neg (fun z => g1 (Nat.le_refl 1) ((hall .yes).mpr z)), if_pos ((hall .no).mp hall')]
          rw [ez] at hk
          exact hk
        · rw [decide_eq_false hall']
          refine iteF ⟨_, _, _, rfl, s4.trans s6, fun _ => ?_, fun h2 => ?_⟩
          · rcases hz with ⟨rfl, rfl, rfl⟩ | ⟨rfl, rfl, rfl⟩
            · exact hall'
            · exact g1 (Nat.le_refl 1)
          · rcases hz with ⟨rfl, rfl, rfl⟩ | ⟨rfl, rfl, rfl⟩
            · exact absurd h2 (by decide)
            · exact hall'
    · rintro σ H4 ⟨y5, y6, y7, rfl, s4, g1, g2⟩
      have hk := k H4 (s03.trans s4)
      have ez : stM r c = none := by
        unfold stM
        rw [if_neg (fun z => g1 (by show 1 ≤ 2; decide) ((hall .yes).mpr z)), if_neg (fun z => g2 (by show 2 ≤ 2; decide) ((hall .no).mpr z))]
      rw [ez] at hk
      exact hk
end
end Pb
set_option Elab.async false
set_option linter.all false
set_option maxRecDepth 100000
set_option maxHeartbeats 4000000
namespace Pb
open PySem PySem.Spec PyProof.Rows L2
open C8 (Cal pe_c)
section
variable {P : Program} {w : World} {K : PySem.W.Frag} {mg : Str → Option Value} {base : Heap}
theorem dget_at {H : Hp} {d b : Addr} {kvs : List (List Key × V)} {c : Cr} (e : Rd H d (.dT kvs)) (eb : H b = some (.tup (c.map V.int))) : DGet H d (.ref b) (valV kvs (ck c)) := .inr ⟨kvs, ck c, b, e, rfl, by rw [ck_kV]; exact eb, rfl⟩
theorem GrD.at {H : Hp} {g : Addr} {S : Cr → List (Int × Cr)} {L : List Cr} (h : GrD H g S L) : GrAt H g S L := let ⟨kvs, e, p⟩ := h; ⟨kvs, .inl e, p⟩
/-! ### row_to -/
theorem sc_row_to : FnScope ["graph", "crowd", "goals", "steps", "line", "at", "numbers", "here", "number", "behind"] ["graph", "crowd", "goals"] (defScope s_row_to) := ⟨rfl, rfl, rfl, by decide +kernel, rfl, by decide +kernel, by decide +kernel⟩
def StV (S : Cr → List (Int × Cr)) (H : Hp) (L : List Cr) (v : V) (c : Cr) : Prop := ∃ i, L[i]? = some c ∧ ((i = 0 ∧ v = .non) ∨ ∃ j p n T z, j < i ∧ L[j]? = some p ∧ (n, c) ∈ S p ∧ v = .ref T ∧ H T = some (.tup [z, .int n]) ∧ CrAt H z p)
theorem StV.tk {S : Cr → List (Int × Cr)} {H H' : Hp} {L : List Cr} {v : V} {c : Cr} (k : Tk H H') (h : StV S H L v c) : StV S H' L v c := by
  obtain ⟨i, h1, h2⟩ := h
  refine ⟨i, h1, ?_⟩
  rcases h2 with h2 | ⟨j, p, n, T, z, a1, a2, a3, a4, a5, a6⟩
  · exact .inl h2
  · exact .inr ⟨j, p, n, T, z, a1, a2, a3, a4, k _ _ a5, a6.tk k⟩
theorem get_ext {L E : List Cr} {i : Nat} {c : Cr} (h : L[i]? = some c) : (L ++ E)[i]? = some c := by
  rw [List.getElem?_append_left (List.getElem?_eq_some_iff.mp h).1]
  exact h
theorem StV.ext {S : Cr → List (Int × Cr)} {H : Hp} {L : List Cr} {v : V} {c : Cr} (E : List Cr) (h : StV S H L v c) : StV S H (L ++ E) v c := by
  obtain ⟨i, h1, h2⟩ := h
  refine ⟨i, get_ext h1, ?_⟩
  rcases h2 with h2 | ⟨j, p, n, T, z, a1, a2, a3, a4, a5, a6⟩
  · exact .inl h2
  · exact .inr ⟨j, p, n, T, z, a1, get_ext a2, a3, a4, a5, a6⟩
def spRow : Sp := fun vs H Q _ => ∃ (S : Cr → List (Int × Cr)) (g gl : Addr) (v : V) (c0 : Cr) (ks gs : List Cr), vs = [.ref g, v, .ref gl] ∧ GrAt H g S ks ∧ (∀ c ∈ ks, ∀ p ∈ S c, p.2 ∈ ks) ∧ ks.length ≤ 100 ∧ CrAt H v c0 ∧ c0 ∈ ks ∧
  DkAt H gl gs (fun _ _ => True) ∧ (∃ d ∈ gs, Reach S c0 d) ∧
  ∀ H' t l z ns d, Same H H' → H' t = some (.tup [.ref l, z]) → H l = none → H' l = some (.lst (ns.map V.int)) → CrAt H' z d → d ∈ gs → WalkS S c0 ns d → ns.length ≤ 100 → Q (.ref t) H'
theorem ok_row_to (T : Tx mg) (D : DefAt K mg "row_to" s_row_to []) : Cal P w K mg base 1 "row_to" spRow [] := by
  refine cal0 D sc_row_to (fun _ _ _ _ _ _ us hl => match us, hl with | [_, _, _], _ => rfl) (fun vs H Q E ⟨_, _, _, _, _, _, _, e, _⟩ => by rw [e]; rfl) fun f cdv A outer s H0 vs Q E hr h => ?_
  obtain ⟨S, g, gl, _, c0, ks, gs, rfl, hG, hcl, hkl, ⟨a0, rfl, ha0⟩, hc0, hgl, hgo, q⟩ := h
  have hu := hu_of hr
  refine ⟨_, (pss_cons (ps_set (i := 3) sc_row_to.nd rfl (.inl rfl) (pe_disp1T hu (pv 1) pe_non))
    (pss_cons (ps_set (i := 4) sc_row_to.nd rfl (.inl rfl) (pe_lst (pa_cons (pv 1) pa_nil)))
    (pss_cons (ps_set (i := 5) sc_row_to.nd rfl (.inl rfl) pe_int)
    (pss_cons (ps_while PassesOwn.never (pt_cmp (pc_dnotin hu (pe_ix ix_list (pv 4) (pv 5) (fun _ _ => rfl)) (pv 2)))
      (pss_cons (ps_for PassesOwn.never rfl (pi_list (pe_dget hu (pv 0) (pe_ix ix_list (pv 4) (pv 5) (fun _ _ => rfl)) (fun _ _ => rfl))) (pg_tup rfl (pgs_cons (pg_name (i := 8) sc_row_to.nd rfl (.inl rfl)) (pgs_cons (pg_name (i := 9) sc_row_to.nd rfl (.inl rfl)) pgs_nil)))
        (pss_one (ps_if (pt_cmp (pc_dnotin hu (pv 9) (pv 3)))
          (pss_cons (ps_dput hu (pv 3) (pv 9) (pe_tup (pa_cons (pe_ix ix_list (pv 4) (pv 5) (fun _ _ => rfl)) (pa_cons (pv 8) pa_nil))) rfl)
          (pss_one (ps_expr (pe_bm PySem.F.plainAttrs_list PySem.F.slot_list_append PySem.F.type_list_append mt_append (pv 4) (pa_cons (pv 9) pa_nil))))) pss_nil)))
      (pss_one (ps_set (i := 5) sc_row_to.nd rfl (.inl rfl) (pe_op op_add (pv 5) pe_int)))))
    (pss_cons (ps_set (i := 6) sc_row_to.nd rfl (.inl rfl) (pe_lst pa_nil))
    (pss_cons (ps_set (i := 7) sc_row_to.nd rfl (.inl rfl) (pe_ix ix_list (pv 4) (pv 5) (fun _ _ => rfl)))
    (pss_cons (ps_while PassesOwn.never (pt_cmpR op_notN (pe_dget hu (pv 3) (pv 7) (fun _ _ => rfl)) pe_non (nomark _))
      (pss_cons (ps_asg (pe_dget hu (pv 3) (pv 7) (fun _ _ => rfl)) (pg_tup rfl (pgs_cons (pg_name (i := 7) sc_row_to.nd rfl (.inl rfl)) (pgs_cons (pg_name (i := 8) sc_row_to.nd rfl (.inl rfl)) pgs_nil))))
      (pss_one (ps_expr (pe_bm PySem.F.plainAttrs_list PySem.F.slot_list_append PySem.F.type_list_append mt_append (pv 6) (pa_cons (pv 8) pa_nil))))))
    (pss_one (ps_ret (pe_tup (pa_cons (pe_revL (pv 6)) (pa_cons (pe_ix ix_list (pv 4) (pv 5) (fun _ _ => rfl)) pa_nil)))))))))))), ?_⟩
  refine fun sn nsn => ⟨_, rfl, upd_same, a0, ck c0, rfl, (by rw [ck_kV]; exact at_ne ha0 (ne_of_none ha0 nsn)), ?_⟩
  rw [upd_upd]
  refine ⟨_, rfl, (by show 1 ≤ sizeLine; decide), fun ln nln => ?_⟩
  obtain ⟨nls, nln0⟩ := upd_none nln
  generalize hH : upd (upd H0 sn (.dT [(ck c0, .non)])) ln (.lst [.ref a0]) = H
  have s0 : Same H0 H := by rw [← hH]; exact same_put (same_new nsn) nln0
  have es : H sn = some (.dT [(ck c0, .non)]) := by rw [← hH]; exact at_ne upd_same (Ne.symm nls)
  have el : H ln = some (.lst [.ref a0]) := by rw [← hH]; exact upd_same
  clear hH nln
  have hLk : ∀ {L : List Cr} {k : Nat}, Bfs S c0 L k → (∀ c ∈ L, c ∈ ks) := fun b c hc => (b.re c hc).closed (P := fun c => c ∈ ks) (fun x y hx ⟨n, hy⟩ => hcl x hx (n, y) hy) hc0
  have hLl : ∀ {L : List Cr} {k : Nat}, Bfs S c0 L k → L.length ≤ 100 := fun b => Nat.le_trans (nodup_len b.nd (hLk b)) hkl
  have hrow : Paired (fun (kv : List Key × V) c => kv.1 = ck c ∧ StV S H [c0] kv.2 c) [(ck c0, .non)] [c0] := .cons ⟨rfl, 0, rfl, .inl ⟨rfl, rfl⟩⟩ .nil
  -- the first while
  refine ⟨fun m σ H => ∃ (L : List Cr) (k : Nat) (vs : List V) (st : List (List Key × V)) (y8 y9 : Option V), m = 101 - k ∧ σ = [some (.ref g), some (.ref a0), some (.ref gl), some (.ref sn), some (.ref ln), some (.int k), none, none, y8, y9] ∧ Same H0 H ∧
      H sn = some (.dT st) ∧ H ln = some (.lst vs) ∧ Paired (fun kv c => kv.1 = ck c ∧ StV S H L kv.2 c) st L ∧ Paired (CrAt H) vs L ∧ Bfs S c0 L k ∧ ∀ i c, i < k → L[i]? = some c → c ∉ gs,
    ⟨101, [c0], 0, [.ref a0], [(ck c0, .non)], none, none, rfl, rfl, s0, es, el, hrow, .cons ⟨a0, rfl, s0 _ _ ha0⟩ .nil, Bfs.start _ _, fun i c hi => absurd hi (Nat.not_lt_zero _)⟩, ?_⟩
  rintro m σ H ⟨L, k, vs, st, y8, y9, rfl, rfl, s1, es, el, pst, pl, bf, hng⟩
  have hk := bfs_goal bf hng hgo
  have hL := hLl bf
  have hck : L[k]? = some L[k] := List.getElem?_eq_getElem hk
  generalize hc' : L[k] = c at hck
  obtain ⟨_, hvk, av, rfl, hav⟩ := Paired.getR pl hck
  obtain ⟨kg, rg, pg⟩ := hgl
  have hmem := dk_isSome (F := fun _ _ => True) pg c
  refine ⟨_, rfl, _, rfl, ln, vs, _, _, rfl, rfl, SqL.of el, atI_nat hvk, _, rfl, gl, _, rfl, dget_at (rd_same s1 rg) hav, _, rfl, ?_⟩
  rw [hmem]
  by_cases hcg : c ∈ gs
  · -- line[at] is a goal
    rw [decide_eq_true hcg]
    refine iteF ?_
    refine ⟨by show 0 ≤ sizeLine; decide, fun nn nnn => ?_⟩
    have sn1 : Same H (upd H nn (.lst [])) := same_new nnn
    refine ⟨_, rfl, _, rfl, ln, vs, _, _, rfl, rfl, SqL.of (sn1 _ _ el), atI_nat hvk, ?_⟩
    have nnl : nn ≠ ln := (ne_of_none el nnn).symm
    refine ⟨fun m σ H' => ∃ (ns : List Int) (d : Cr) (b : Addr) (y8 : Option V), L[m]? = some d ∧ σ = [some (.ref g), some (.ref a0), some (.ref gl), some (.ref sn), some (.ref ln), some (.int k), some (.ref nn), some (.ref b), y8, y9] ∧ Same H H' ∧ H' nn = some (.lst (ns.map V.int)) ∧ H' b = some (.tup (d.map V.int)) ∧ WalkS S d ns.reverse c ∧ ns.length + m ≤ 100,
      ⟨k, [], c, av, y8, hck, rfl, sn1, upd_same, sn1 _ _ hav, rfl, by show 0 + k ≤ 100; omega⟩, ?_⟩
    rintro m σ H2 ⟨ns, d, b, y8, hdm, rfl, s2, en, eb, wk, hnl⟩
    obtain ⟨v, hv, i, hi, hcase⟩ := dk_some (F := fun v c => StV S H L v c) pst (List.mem_of_getElem? hdm)
    have him : i = m := nd_ix bf.nd hi hdm
    subst him
    refine ⟨_, rfl, _, rfl, sn, v, rfl, by rw [← hv]; exact dget_at (.inl (s2 _ _ es)) eb, rfl, _, rfl, ?_⟩
    rcases hcase with ⟨h0, rfl⟩ | ⟨j, p, n, T', z, a1, a2, a3, rfl, a5, ⟨bz, rfl, a6⟩⟩
    · -- the beginning
      refine iteF ?_
      have hd0 : d = c0 := by
        obtain ⟨R, hR⟩ := bf.hd
        rw [h0, hR] at hi
        exact (Option.some.inj hi).symm
      refine ⟨_, rfl, nn, _, rfl, SqL.of en, fun rv nrv => ?_⟩
      have s3 : Same H2 (upd H2 rv (.lst (ns.map V.int).reverse)) := same_new nrv
      refine ⟨_, rfl, _, rfl, ln, vs, _, _, rfl, rfl, SqL.of (s3 _ _ (s2 _ _ el)), atI_nat hvk, by show 2 ≤ sizeLine; decide, fun t nt => ?_⟩
      obtain ⟨ntr, _⟩ := upd_none nt
      have s4 := same_new (o := .tup [.ref rv, .ref av]) nt
      refine q _ t rv (.ref av) ns.reverse c ((s1.trans s2).trans (s3.trans s4)) upd_same ((s1.trans s2).free nrv) ?_ ⟨av, rfl, s4 _ _ (s3 _ _ (s2 _ _ hav))⟩ hcg (by rw [← hd0]; exact wk) (by rw [List.length_reverse]; omega)
      rw [upd_ne (Ne.symm ntr), upd_same, List.map_reverse]
    · refine iteT ⟨fun σ' H' => ∃ m', m' < i ∧ ∃ (ns : List Int) (d : Cr) (b : Addr) (y8 : Option V), L[m']? = some d ∧ σ' = [some (.ref g), some (.ref a0), some (.ref gl), some (.ref sn), some (.ref ln), some (.int k), some (.ref nn), some (.ref b), y8, y9] ∧ Same H H' ∧ H' nn = some (.lst (ns.map V.int)) ∧ H' b = some (.tup (d.map V.int)) ∧ WalkS S d ns.reverse c ∧ ns.length + m' ≤ 100, fun σ' H' ⟨m', h1, h2⟩ => ⟨m', h1, h2⟩, ?_⟩
      refine ⟨_, rfl, _, rfl, sn, .ref T', rfl, by rw [← hv]; exact dget_at (.inl (s2 _ _ es)) eb, T', _, rfl, SqT.of (s2 _ _ a5), rfl, _, _, rfl, _, _, rfl, rfl, ?_⟩
      refine ⟨_, rfl, .inl ⟨rfl, _, SqL.of en⟩, _, rfl, nn, _, _, rfl, rfl, en, ?_, ?_⟩
      · exact small1000 (by rw [List.length_map]; omega)
      · refine ⟨j, a1, ns ++ [n], p, bz, _, a2, rfl, same_put s2 nnn, ?_, at_ne (s2 _ _ a6) (ne_tl (s2 _ _ a6) en), ?_⟩
        · rw [upd_same, List.map_append]; rfl
        · rw [List.reverse_append]
          exact ⟨⟨d, a3, wk⟩, by rw [List.length_append]; show ns.length + 1 + j ≤ 100; omega⟩
  · -- not yet
    rw [decide_eq_false hcg]
    refine iteT ⟨fun σ' H' => ∃ m', m' < 101 - k ∧ ∃ (L : List Cr) (k : Nat) (vs : List V) (st : List (List Key × V)) (y8 y9 : Option V), m' = 101 - k ∧ σ' = [some (.ref g), some (.ref a0), some (.ref gl), some (.ref sn), some (.ref ln), some (.int k), none, none, y8, y9] ∧ Same H0 H' ∧
      H' sn = some (.dT st) ∧ H' ln = some (.lst vs) ∧ Paired (fun kv c => kv.1 = ck c ∧ StV S H' L kv.2 c) st L ∧ Paired (CrAt H') vs L ∧ Bfs S c0 L k ∧ ∀ i c, i < k → L[i]? = some c → c ∉ gs, fun σ' H' ⟨m', h1, h2⟩ => ⟨m', h1, h2⟩, ?_⟩
    obtain ⟨kvs, rG, pG⟩ := hG
    have hcL : c ∈ L := List.mem_of_getElem? hck
    obtain ⟨vg, hvg, lg, ws, rfl, elg, pw⟩ := dk_some (F := fun v c => LsAt H0 v (S c)) pG (hLk bf c hcL)
    have pw1 : Paired (PrAt H) ws (S c) := prs_tk (Tk.same s1) pw
    refine ⟨_, rfl, _, rfl, _, rfl, ln, vs, _, _, rfl, rfl, SqL.of el, atI_nat hvk, g, .ref lg, rfl, by rw [← hvg]; exact dget_at (rd_same s1 rG) hav, lg, rfl, ⟨_, SqL.of (s1 _ _ elg)⟩, ?_⟩
    refine for_it (walk_list (K := K) (a := lg) (xs := ws)) (fun i σ H' => ∃ (vs : List V) (st : List (List Key × V)) (y8 y9 : Option V), σ = [some (.ref g), some (.ref a0), some (.ref gl), some (.ref sn), some (.ref ln), some (.int k), none, none, y8, y9] ∧ Same H0 H' ∧ Tk H H' ∧
        H' sn = some (.dT st) ∧ H' ln = some (.lst vs) ∧ Paired (fun kv d => kv.1 = ck d ∧ StV S H' (addNew L ((S c).take i)) kv.2 d) st (addNew L ((S c).take i)) ∧ Paired (CrAt H') vs (addNew L ((S c).take i)))
      ⟨vs, st, y8, y9, rfl, s1, Tk.refl _, es, el, by rw [List.take_zero]; exact pst, by rw [List.take_zero]; exact pl⟩ (fun i σ H' _ ⟨_, _, _, _, _, h, _⟩ => SqL.of (h _ _ elg)) ?_ ?_
    · rintro i x σ H5 H6 hi ⟨vs, st, y8, y9, rfl, s5, k5, es5, el5, pst5, pl5⟩ ⟨rfl, hx⟩
      obtain ⟨p, hp, a6, u6, rfl, ha6, b6, rfl, hb6⟩ := paired_get pw1 hx
      have ha6 := k5 _ _ ha6
      have hb6 := k5 _ _ hb6
      have hav5 := k5 _ _ hav
      have et : (S c).take (i + 1) = (S c).take i ++ [p] := by rw [List.take_add_one, hp]; rfl
      obtain ⟨E, eE⟩ := addNew_ext ((S c).take i) L
      have hk5 : (addNew L ((S c).take i))[k]? = some c := by rw [eE]; exact get_ext hck
      obtain ⟨_, hvk5, av5, rfl, hav5'⟩ := Paired.getR pl5 hk5
      have hlen : (addNew L ((S c).take i)).length ≤ 100 := by
        refine Nat.le_trans (nodup_len (addNew_nodup _ bf.nd) fun d hd => ?_) hkl
        rcases (addNew_mem _).mp hd with hd | ⟨p, h1, h2⟩
        · exact hLk bf d hd
        · rw [← h2]
          exact hcl c (hLk bf c hcL) p (List.mem_of_mem_take h1)
      refine ⟨a6, _, rfl, SqT.of ha6, rfl, _, _, rfl, _, _, rfl, rfl, ?_⟩
      have hmem5 := dk_isSome (F := fun v d => StV S H6 (addNew L ((S c).take i)) v d) pst5 p.2
      refine ⟨_, rfl, _, rfl, sn, _, rfl, dget_at (.inl es5) hb6, _, rfl, ?_⟩
      rw [hmem5]
      by_cases hin : p.2 ∈ addNew L ((S c).take i)
      · rw [decide_eq_true hin]
        refine iteF ⟨vs, st, _, _, rfl, s5, k5, es5, el5, ?_, ?_⟩
        · rw [et, addNew_snoc, if_pos hin]; exact pst5
        · rw [et, addNew_snoc, if_pos hin]; exact pl5
      · rw [decide_eq_false hin]
        refine iteT ⟨_, rfl, _, rfl, ln, vs, _, _, rfl, rfl, SqL.of el5, atI_nat hvk5, _, rfl, by show 2 ≤ sizeLine; decide, fun t nt => ?_⟩
        have nts : sn ≠ t := ne_of_none es5 nt
        have ntl : ln ≠ t := ne_of_none el5 nt
        have nt0 : H0 t = none := s5.free nt
        refine ⟨_, rfl, _, rfl, sn, _, rfl, DPut.t (k := ck p.2) (at_ne es5 nts) (by rw [ck_kV]; exact at_ne hb6 (ne_of_none hb6 nt)) (small1000 (by rw [Paired.length pst5]; omega)), ?_⟩
        have el6 : upd (upd H6 t (.tup [.ref av5, .int p.1])) sn (.dT (putK st (ck p.2) (.ref t))) ln = some (.lst vs) := at_ne (at_ne el5 ntl) nls
        refine ⟨_, rfl, .inl ⟨rfl, _, SqL.of el6⟩, _, rfl, ln, vs, _, rfl, rfl, el6, small1000 (by rw [Paired.length pl5]; omega), ?_⟩
        have k6a : Tk H6 (upd H6 t (.tup [.ref av5, .int p.1])) := Tk.new nt
        have k6b : Tk (upd H6 t (.tup [.ref av5, .int p.1])) (upd (upd H6 t (.tup [.ref av5, .int p.1])) sn (.dT (putK st (ck p.2) (.ref t)))) := Tk.mutD (at_ne es5 nts)
        have k6c := Tk.mutL (o := .lst (vs ++ [.ref b6])) el6
        have k6 := (k6a.trans k6b).trans k6c
        have kt := (k6b.trans k6c) t _ upd_same
        refine ⟨vs ++ [.ref b6], putK st (ck p.2) (.ref t), _, _, rfl, same_put (same_put (same_put s5 nt0) nsn) nln0, k5.trans k6, at_ne upd_same (Ne.symm nls), upd_same, ?_, ?_⟩
        · rw [et, addNew_snoc, if_neg hin]
          refine dk_put (F := fun v d => StV S (upd (upd (upd H6 t (.tup [.ref av5, .int p.1])) sn (.dT (putK st (ck p.2) (.ref t)))) ln (.lst (vs ++ [.ref b6]))) (addNew L ((S c).take i) ++ [p.2]) v d) ?_ hin ?_
          · exact pst5.mono fun kv d ⟨h1, h2⟩ => ⟨h1, (h2.tk k6).ext _⟩
          · refine ⟨(addNew L ((S c).take i)).length, by rw [List.getElem?_append_right (Nat.le_refl _), Nat.sub_self]; rfl, .inr ⟨k, c, p.1, t, .ref av5, (List.getElem?_eq_some_iff.mp hk5).1, get_ext hk5, List.mem_of_getElem? hp, rfl, kt, ⟨av5, rfl, k6 _ _ hav5'⟩⟩⟩
        · rw [et, addNew_snoc, if_neg hin]
          exact (crs_tk k6 pl5).snoc ⟨b6, rfl, k6 _ _ hb6⟩
    · rintro σ H5 ⟨vs, st, y8, y9, rfl, s5, k5, es5, el5, pst5, pl5⟩
      rw [Paired.length pw1, List.take_length] at pst5 pl5
      obtain ⟨bf', et'⟩ := bf.step hck
      refine ⟨_, rfl, _, _, rfl, rfl, 101 - (k + 1), by omega, addNew L (S c), k + 1, vs, st, _, _, rfl, rfl, s5, es5, el5, pst5, pl5, bf', fun i d hi hd => ?_⟩
      obtain ⟨E, eE⟩ := addNew_ext (S c) L
      rw [eE, List.getElem?_append_left (by omega)] at hd
      by_cases hik : i = k
      · rw [hik, hck] at hd
        rw [← Option.some.inj hd]
        exact hcg
      · exact hng i d (by omega) hd
end
end Pb
set_option Elab.async false
set_option linter.all false
set_option maxRecDepth 100000
set_option maxHeartbeats 4000000
namespace Pb
open PySem PySem.Spec PyProof.Rows L2
open C8 (Cal pe_c)
section
variable {K : PySem.W.Frag}
/-! ### over a dict's crowds -/
theorem keysT_walk {g : Addr} {od : Obj} {kvs : List (List Key × V)} {ks : List Cr} (hk : kvs.map (·.1) = ks.map ck) : Walk (Itkt g od kvs) ks.length (fun H => H g = some (.frz od (.dT kvs))) (fun i H x H' => H' = H ∧ ∃ c b, ks[i]? = some c ∧ x = .ref b ∧ H b = some (.tup (c.map V.int))) := by
  have hl : kvs.length = ks.length := by
    have := congrArg List.length hk
    simpa using this
  rw [← hl]
  refine (walk_keysT (d := g) (o := od) (kvs := kvs)).mono (fun _ h => h) fun i H x H' hi h y => ?_
  obtain ⟨rfl, k, v, q, e1, rfl, e2⟩ := y
  have e3 : (kvs.map (·.1))[i]? = some k := by rw [List.getElem?_map, e1]; rfl
  rw [hk, List.getElem?_map] at e3
  cases e4 : ks[i]? with
  | none => rw [e4] at e3; cases e3
  | some c =>
    rw [e4] at e3
    have e5 : ck c = k := Option.some.inj e3
    rw [← e5, ck_kV] at e2
    exact ⟨rfl, c, q, rfl, rfl, e2⟩
theorem unlock_same {H H' : Hp} {g : Addr} {u : HO} (hg : H g = some u) (b : But g H H') : Same H (upd H' g u) := fun c o e => by
  by_cases h : c = g
  · subst h
    rw [upd_same, ← hg]
    exact e
  · rw [upd_ne h]
    exact b c o h e
theorem but_lock {H : Hp} {g : Addr} {u : HO} : But g H (upd H g u) := fun c o n e => by rw [upd_ne n]; exact e
/-- [elt for c in d if ..] -/
theorem lcK {g : Addr} {kvs : List (List Key × V)} {ks : List Cr} {i0 : Nat} {σ : L2.St} {H : Hp} {Q : V → Hp → Prop} {gg : TG} {tt : TT} {te : TE} {vs : List Nat} {β : Type} (f : Cr → Option β) (R : Addr → Hp → V → β → Prop)
    (hσ : σ[i0]? = some (some (.ref g))) (hg : H g = some (.dT kvs)) (hk : kvs.map (·.1) = ks.map ck) (hz : ks.length ≤ 1000)
    (hR : ∀ D H1 H2 y b acc, H1 D = some (.lst acc) → But D H1 H2 → R D H1 y b → R D H2 y b)
    (hs : ∀ (od : Obj) (D : Addr) (i : Nat) (c : Cr) (b : Addr) (H1 : Hp) (Kt : V → Hp → Prop) (Kf : Hp → Prop), (∀ y H4 b, Same H1 H4 → f c = some b → R D H4 y b → Kt y H4) → (∀ H3, Same H1 H3 → f c = none → Kf H3) → ks[i]? = some c → H1 b = some (.tup (c.map V.int)) →
      But g H H1 → H1 g = some (.frz od (.dT kvs)) → (∃ acc, H1 D = some (.lst acc)) → H D = none →
      gg (.ref b) (wipe σ vs) H1 fun σ2 H2 => wipe σ2 vs = wipe σ vs ∧ tt σ2 H2 fun b H3 => if b = true then te σ2 H3 Kt else Kf H3)
    (hd : ∀ H1 H2 D acc, Same H H2 → But g H1 H2 → H D = none → H2 D = some (.lst acc) → Paired (R D H1) acc (ks.filterMap f) → H1 D = some (.lst acc) → D ≠ g → H2 g = some (.dT kvs) → (∃ od, H1 g = some (.frz od (.dT kvs))) → Q (.ref D) H2) : tLockE (tLc (iKeys (tVar i0)) gg tt te vs) σ H Q := by
  refine ⟨g, _, hg, trivial, fun od => ⟨_, hσ, g, od, rfl, .inr ⟨kvs, upd_same, fun D nD => ?_⟩⟩⟩
  obtain ⟨nDg, nD0⟩ := upd_none nD
  refine lc_same (keysT_walk hk) ks f (R D) rfl (small1000 hz) nD (fun H1 s => s _ _ upd_same) (fun H1 H2 y b acc _ e k h => hR D H1 H2 y b acc e k h) ?_ (fun H1 acc s1 e1 p1 => ?_)
  · intro i c x H1 H2 Kt Kf kt kf hp s1 ha hy
    obtain ⟨rfl, c', b, e1, rfl, e2⟩ := hy
    obtain rfl : c = c' := Option.some.inj (hp.symm.trans e1)
    exact hs od D i c b H2 Kt Kf kt kf hp e2 (but_lock.trans (But.same s1)) (s1 _ _ upd_same) ha nD0
  · refine ⟨s1 _ _ upd_same, hd H1 _ D acc (unlock_same hg (but_lock.trans (But.same s1))) but_upd nD0 (at_ne e1 nDg) p1 e1 nDg upd_same ⟨od, s1 _ _ upd_same⟩⟩
/-- [elt for c in d if ..], of things that tuples keep -/
theorem lcT {g : Addr} {kvs : List (List Key × V)} {ks : List Cr} {i0 : Nat} {σ : L2.St} {H : Hp} {Q : V → Hp → Prop} {gg : TG} {tt : TT} {te : TE} {vs : List Nat} {β : Type} (f : Cr → Option β) (R : Hp → V → β → Prop)
    (hσ : σ[i0]? = some (some (.ref g))) (hg : H g = some (.dT kvs)) (hk : kvs.map (·.1) = ks.map ck) (hz : ks.length ≤ 1000) (hR : ∀ H1 H2 y b, Tk H1 H2 → R H1 y b → R H2 y b)
    (hs : ∀ (od : Obj) (c : Cr) (b : Addr) (H1 : Hp) (Kt : V → Hp → Prop) (Kf : Hp → Prop), (∀ y H4 b, Same H1 H4 → f c = some b → R H4 y b → Kt y H4) → (∀ H3, Same H1 H3 → f c = none → Kf H3) → c ∈ ks → H1 b = some (.tup (c.map V.int)) →
      But g H H1 → H1 g = some (.frz od (.dT kvs)) → Tk H H1 →
      gg (.ref b) (wipe σ vs) H1 fun σ2 H2 => wipe σ2 vs = wipe σ vs ∧ tt σ2 H2 fun b H3 => if b = true then te σ2 H3 Kt else Kf H3)
    (hd : ∀ H2 D acc, Same H H2 → H D = none → H2 D = some (.lst acc) → Paired (R H2) acc (ks.filterMap f) → Q (.ref D) H2) : tLockE (tLc (iKeys (tVar i0)) gg tt te vs) σ H Q := by
  refine lcK f (fun _ => R) hσ hg hk hz (fun D H1 H2 y b acc e k h => hR _ _ _ _ (Tk.butL e k) h) ?_ ?_
  · intro od D i c b H1 Kt Kf kt kf hc hb bu eg _ nD
    exact hs od c b H1 Kt Kf kt kf (List.mem_of_getElem? hc) hb bu eg (Tk.butD hg bu)
  · rintro H1 H2 D acc s2 b12 nD e2 p1 e1 nDg eg2 ⟨od, eg1⟩
    have k12 : Tk H1 H2 := fun t xs e => b12 _ _ (ne_of e eg1 (by intro z; cases z)) e
    exact hd H2 D acc s2 nD e2 (p1.mono fun y b h => hR _ _ _ _ k12 h)
/-- for c in d -/
theorem forK {g : Addr} {kvs : List (List Key × V)} {ks : List Cr} {i0 : Nat} {σ : L2.St} {H : Hp} {D : Ends} {gg : TG} {tb : TS} (Pv : Obj → Nat → L2.St → Hp → Prop)
    (hσ : σ[i0]? = some (some (.ref g))) (hg : H g = some (.dT kvs)) (hk : kvs.map (·.1) = ks.map ck)
    (h0 : ∀ od, Pv od 0 σ (upd H g (.frz od (.dT kvs)))) (hG : ∀ od i σ H', i ≤ ks.length → Pv od i σ H' → H' g = some (.frz od (.dT kvs)))
    (hs : ∀ od i c b σ H' Drt Dbk, ks[i]? = some c → H' b = some (.tup (c.map V.int)) → Pv od i σ H' → gg (.ref b) σ H' fun σ2 H2 => tb { nx := Pv od (i + 1), rt := Drt, bk := Dbk, ct := Pv od (i + 1) } σ2 H2)
    (hd : ∀ od σ' H', Pv od ks.length σ' H' → D.nx σ' (upd H' g (.dT kvs))) : tLock (tFor (iKeys (tVar i0)) gg tb) D σ H := by
  refine ⟨g, _, hg, trivial, fun od => ⟨_, hσ, g, od, rfl, .inr ⟨kvs, upd_same, ?_⟩⟩⟩
  refine for_it (keysT_walk hk) (Pv od) (h0 od) (fun i σ H' hi h => hG od i σ H' hi h) ?_ (fun σ' H' h => ⟨hG od _ σ' H' (Nat.le_refl _) h, hd od σ' H' h⟩)
  rintro i x σ H1 H2 hi hp ⟨rfl, c, b, e1, rfl, e2⟩
  exact hs od i c b σ H2 _ _ e1 e2 hp
end
end Pb
set_option Elab.async false
set_option linter.all false
set_option maxRecDepth 100000
set_option maxHeartbeats 4000000
namespace Pb
open PySem PySem.Spec PyProof.Rows L2
open C8 (Cal pe_c)
/-- a comprehension by what holds of the whole list -/
theorem lc_inv {J : It} {n : Nat} {G : Hp → Prop} {Y : Nat → Hp → V → Hp → Prop} (w : Walk J n G Y) {g : TG} {tt : TT} {te : TE} {vs : List Nat} {σ : L2.St} {H1 : Hp} {D : Addr} {Qd : Hp → Prop} (I : Nat → Hp → List V → Prop)
    (hz : n < sizeLine) (hD : H1 D = none) (hG : ∀ H, Same H1 H → G H) (h0 : I 0 (upd H1 D (.lst [])) [])
    (hI : ∀ i H H' acc xs, Same H1 H → H D = some (.lst xs) → But D H H' → I i H acc → I i H' acc)
    (hs : ∀ i x H H' acc (Kt : V → Hp → Prop) (Kf : Hp → Prop), (∀ y H4, Same H H4 → I (i + 1) H4 (acc ++ [y]) → Kt y H4) → (∀ H3, Same H H3 → I (i + 1) H3 acc → Kf H3) → i < n → Same H1 H → H D = some (.lst acc) → I i H acc → Y i H x H' →
      g x (wipe σ vs) H' fun σ2 H2 => wipe σ2 vs = wipe σ vs ∧ tt σ2 H2 fun b H3 => if b = true then te σ2 H3 Kt else Kf H3)
    (hd : ∀ H acc, Same H1 H → H D = some (.lst acc) → I n H acc → Qd H) :
    ∃ W : Nat → Nat → Hp → Prop, (∃ m, W 0 m (upd H1 D (.lst []))) ∧ ∀ i m H, W i m H →
      (J.stop i H ∧ Qd H) ∨ (J.go i H ∧ ∃ Nx : Hp → Prop, (∀ H', Nx H' → ∃ m', m' < m ∧ W (i + 1) m' H') ∧ ∀ x H', J.yld i H x H' → g x (wipe σ vs) H' fun σ2 H2 => wipe σ2 vs = wipe σ vs ∧ tt σ2 H2 fun b H3 =>
        if b = true then te σ2 H3 fun y H4 => ∃ acc, H4 D = some (.lst acc) ∧ acc.length < sizeLine ∧ Nx (upd H4 D (.lst (acc ++ [y]))) else Nx H3) := by
  refine lc_it w (fun i H => Same H1 H ∧ ∃ acc, H D = some (.lst acc) ∧ acc.length ≤ i ∧ I i H acc) ⟨same_new hD, [], upd_same, Nat.zero_le _, h0⟩ (fun i H _ h => hG H h.1) ?_ ?_
  · rintro i x H H' hi ⟨s, acc, ea, la, pa⟩ y
    refine hs i x H H' acc _ _ (fun v H4 s4 hr => ?_) (fun H3 s3 hr => ?_) hi s ea pa y
    · have h4 : H4 D = some (.lst acc) := s4 _ _ ea
      exact ⟨acc, h4, by omega, same_put (s.trans s4) hD, acc ++ [v], upd_same, by rw [List.length_append]; show acc.length + 1 ≤ i + 1; omega, hI (i + 1) H4 _ _ _ (s.trans s4) h4 but_upd hr⟩
    · exact ⟨s.trans s3, acc, s3 _ _ ea, by omega, hr⟩
  · rintro H ⟨s, acc, ea, _, pa⟩
    exact hd H acc s ea pa
section
variable {K : PySem.W.Frag}
/-- [elt for c in d], by what holds of the whole list -/
theorem lcK2 {g : Addr} {kvs : List (List Key × V)} {ks : List Cr} {i0 : Nat} {σ : L2.St} {H : Hp} {Q : V → Hp → Prop} {gg : TG} {tt : TT} {te : TE} {vs : List Nat} (I : Addr → Nat → Hp → List V → Prop)
    (hσ : σ[i0]? = some (some (.ref g))) (hg : H g = some (.dT kvs)) (hk : kvs.map (·.1) = ks.map ck) (hz : ks.length ≤ 1000)
    (h0 : ∀ D H', I D 0 H' [])
    (hI : ∀ D i H1 H2 acc xs, H1 D = some (.lst xs) → But D H1 H2 → I D i H1 acc → I D i H2 acc)
    (hs : ∀ (od : Obj) (D : Addr) (i : Nat) (c : Cr) (b : Addr) (H1 : Hp) acc (Kt : V → Hp → Prop) (Kf : Hp → Prop), (∀ y H4, Same H1 H4 → I D (i + 1) H4 (acc ++ [y]) → Kt y H4) → (∀ H3, Same H1 H3 → I D (i + 1) H3 acc → Kf H3) → ks[i]? = some c → H1 b = some (.tup (c.map V.int)) →
      But g H H1 → H1 g = some (.frz od (.dT kvs)) → H1 D = some (.lst acc) → H D = none → I D i H1 acc →
      gg (.ref b) (wipe σ vs) H1 fun σ2 H2 => wipe σ2 vs = wipe σ vs ∧ tt σ2 H2 fun b H3 => if b = true then te σ2 H3 Kt else Kf H3)
    (hd : ∀ H1 H2 D acc, Same H H2 → But g H1 H2 → H1 g ≠ none → H D = none → H2 D = some (.lst acc) → I D ks.length H1 acc → D ≠ g → H2 g = some (.dT kvs) → (∃ od, H1 g = some (.frz od (.dT kvs))) → Q (.ref D) H2) : tLockE (tLc (iKeys (tVar i0)) gg tt te vs) σ H Q := by
  refine ⟨g, _, hg, trivial, fun od => ⟨_, hσ, g, od, rfl, .inr ⟨kvs, upd_same, fun D nD => ?_⟩⟩⟩
  obtain ⟨nDg, nD0⟩ := upd_none nD
  refine lc_inv (keysT_walk hk) (I D) (small1000 hz) nD (fun H1 s => s _ _ upd_same) (h0 D _) (fun i H1 H2 acc xs _ e k h => hI D i H1 H2 acc xs e k h) ?_ (fun H1 acc s1 e1 p1 => ?_)
  · intro i x H1 H2 acc Kt Kf kt kf hi s1 ha hIn hy
    obtain ⟨rfl, c, b, e1, rfl, e2⟩ := hy
    exact hs od D i c b H2 acc Kt Kf kt kf e1 e2 (but_lock.trans (But.same s1)) (s1 _ _ upd_same) ha nD0 hIn
  · have eg := s1 _ _ upd_same
    refine ⟨eg, hd H1 _ D acc (unlock_same hg (but_lock.trans (But.same s1))) but_upd (by rw [eg]; intro z; cases z) nD0 (at_ne e1 nDg) p1 nDg upd_same ⟨od, eg⟩⟩
/-! ### those ahead -/
def AhAt (H0 H : Hp) (ad : Addr) (kvs : List (List Key × V)) (ks : List Cr) (A : Cr → List Cr) : Prop :=
  H ad = some (.dT kvs) ∧ Paired (fun kv c => kv.1 = ck c ∧ ∃ l vs, kv.2 = .ref l ∧ H0 l = none ∧ H l = some (.lst vs) ∧ Paired (CrAt H) vs (A c)) kvs ks ∧ (kvs.map (·.2)).Nodup
theorem nodup_snd {kvs : List (List Key × V)} (h : (kvs.map (·.2)).Nodup) {i j : Nat} {a b : List Key × V} (h1 : kvs[i]? = some a) (h2 : kvs[j]? = some b) (e : a.2 = b.2) : i = j := by
  refine nd_ix h (i := i) (j := j) (x := a.2) ?_ ?_
  · rw [List.getElem?_map, h1]; rfl
  · rw [List.getElem?_map, h2, e]; rfl
theorem paired_of_get {α β : Type} {F : α → β → Prop} : ∀ {xs : List α} {ys : List β}, xs.length = ys.length → (∀ (i : Nat) (x : α) (y : β), xs[i]? = some x → ys[i]? = some y → F x y) → Paired F xs ys
  | [], [], _, _ => .nil
  | x :: xs, y :: ys, hl, h => .cons (h 0 x y rfl rfl) (paired_of_get (by simpa using hl) fun i a b h1 h2 => h (i + 1) a b (by simpa using h1) (by simpa using h2))
  | [], _ :: _, hl, _ => by simp at hl
  | _ :: _, [], hl, _ => by simp at hl
theorem valV_at {kvs : List (List Key × V)} {k : List Key} {v : V} (h : valV kvs k = some v) : ∃ (j : Nat) (p : List Key × V), kvs[j]? = some p ∧ p.1 = k ∧ p.2 = v := by
  unfold valV at h
  obtain ⟨p, p1, p2⟩ := Option.map_eq_some_iff.mp h
  obtain ⟨j, hj⟩ := List.mem_iff_getElem?.mp (List.mem_of_find?_eq_some p1)
  have e := List.find?_some p1
  exact ⟨j, p, hj, of_decide_eq_true e, p2⟩
/-- one is put behind those ahead of c -/
theorem AhAt.put {H0 H : Hp} {ad l : Addr} {kvs : List (List Key × V)} {ks : List Cr} {A : Cr → List Cr} {c d : Cr} {y : V} {vs : List V} (h : AhAt H0 H ad kvs ks A) (hn : ks.Nodup) (hc : c ∈ ks) (hv : valV kvs (ck c) = some (.ref l)) (hl : H l = some (.lst vs)) (hy : CrAt H y d) :
    AhAt H0 (upd H l (.lst (vs ++ [y]))) ad kvs ks (put1 A c d) := by
  obtain ⟨h1, h2, h3⟩ := h
  have k : Tk H (upd H l (.lst (vs ++ [y]))) := Tk.mutL hl
  refine ⟨at_ne h1 (ne_of h1 hl (by intro z; cases z)), paired_of_get (Paired.length h2) fun i kv e hi he => ?_, h3⟩
  obtain ⟨e', he', f1, l', vs', f2, f3, f4, f5⟩ := paired_get h2 hi
  obtain rfl : e = e' := Option.some.inj (he.symm.trans he')
  unfold put1
  by_cases hec : e = c
  · subst hec
    have hvv : valV kvs (ck e) = some kv.2 := by
      obtain ⟨v, g1, g2⟩ := dk_some (F := fun v c => ∃ l vs, v = .ref l ∧ H0 l = none ∧ H l = some (.lst vs) ∧ Paired (CrAt H) vs (A c)) h2 hc
      obtain ⟨j, kv2, hj, hk2, hv2⟩ := valV_at g1
      obtain ⟨e2, he2, f2', _⟩ := paired_get h2 hj
      have : e2 = e := ck_inj (f2'.symm.trans hk2)
      subst this
      have hij : i = j := nd_ix hn he he2
      subst hij
      rw [hi] at hj
      have := Option.some.inj hj
      rw [this, g1, hv2]
    rw [hv] at hvv
    rw [f2] at hvv
    obtain rfl : l = l' := V.ref.inj (Option.some.inj hvv)
    obtain rfl : vs' = vs := by rw [hl] at f4; cases f4; rfl
    refine ⟨f1, l, vs' ++ [y], f2, f3, upd_same, ?_⟩
    rw [if_pos rfl]
    exact (crs_tk k f5).snoc (hy.tk k)
  · rw [if_neg hec]
    have hll : l' ≠ l := fun z => by
      subst z
      obtain ⟨v, g1, _⟩ := dk_some (F := fun v c => ∃ l vs, v = .ref l ∧ H0 l = none ∧ H l = some (.lst vs) ∧ Paired (CrAt H) vs (A c)) h2 hc
      obtain ⟨j, p, hj, hk2, p2⟩ := valV_at hv
      obtain ⟨e2, he2, f2', _⟩ := paired_get h2 hj
      have hij : i = j := nodup_snd h3 hi hj (by rw [f2, p2])
      subst hij
      rw [he] at he2
      have : e = e2 := Option.some.inj he2
      exact hec (this ▸ ck_inj (f2'.symm.trans hk2))
    exact ⟨f1, l', vs', f2, f3, at_ne f4 hll, crs_tk k f5⟩
theorem AhAt.but {H0 H H' : Hp} {ad : Addr} {kvs : List (List Key × V)} {ks : List Cr} {A : Cr → List Cr} (h : AhAt H0 H ad kvs ks A) (had : H' ad = some (.dT kvs)) (k : Tk H H') (hb : ∀ l vs, H0 l = none → H l = some (.lst vs) → H' l = some (.lst vs)) : AhAt H0 H' ad kvs ks A :=
  ⟨had, h.2.1.mono fun kv c ⟨h1, l, vs, h2, h3, h4, h5⟩ => ⟨h1, l, vs, h2, h3, hb l vs h3 h4, crs_tk k h5⟩, h.2.2⟩
def rDictPT (K : PySem.W.Frag) : List V → Hp → VK → Prop := fun xs H Q => ∃ (a : Addr) (ps : List Addr) (kvs : List (List Key × V)), xs = [.ref a] ∧ SqL K H a (ps.map V.ref) ∧ Paired (fun p (kv : List Key × V) => ∃ b, SqT K H p [.ref b, kv.2] ∧ H b = some (.tup (kv.1.map kV))) ps kvs ∧
    ∀ p, H p = none → Q (.ref p) (upd H p (.dT (mergeT [] kvs)))
theorem merge_nodup : ∀ {more kvs : List (List Key × V)}, ((kvs ++ more).map (·.1)).Nodup → mergeT kvs more = kvs ++ more
  | [], kvs, _ => by rw [List.append_nil]; rfl
  | p :: more, kvs, h => by
    rw [mergeT_cons]
    have hn : valV kvs p.1 = none := by
      unfold valV
      rw [List.find?_eq_none.mpr]
      · rfl
      · intro q hq
        have : q.1 ≠ p.1 := by
          rw [List.map_append, List.map_cons] at h
          intro e
          have := (List.nodup_append.mp h).2.2 q.1 (List.mem_map.mpr ⟨q, hq, rfl⟩) p.1 (List.mem_cons_self ..)
          exact this e
        simpa using this
    rw [putK_new p.2 hn, merge_nodup (kvs := kvs ++ [(p.1, p.2)]) (by rw [List.append_assoc]; exact h), List.append_assoc]
    rfl
theorem ahead_new {g : Addr} {kvs : List (List Key × V)} {ks : List Cr} {i : Nat} {σ : L2.St} {H : Hp} {Q : V → Hp → Prop} (hσ : σ[0]? = some (some (.ref g))) (hi : i < σ.length) (hg : H g = some (.dT kvs)) (hk : kvs.map (·.1) = ks.map ck) (hz : ks.length ≤ 1000) (hn : ks.Nodup)
    (q : ∀ H' ad ka, Same H H' → H ad = none → AhAt H H' ad ka ks (fun _ => []) → Q (.ref ad) H') :
    tCB (rDictPT K) (tCons (tLockE (tLc (iKeys (tVar 0)) (gName i) tYes (tTup (tCons (tVar i) (tCons (tLst tNil) tNil))) [i])) tNil) σ H Q := by
  refine lcK2 (fun (D : Addr) (j : Nat) (H1 : Hp) (acc : List V) => ∃ (ls : List Addr), ls.Nodup ∧ acc.length = j ∧ ls.length = j ∧ (∀ l ∈ ls, l ≠ D ∧ l ≠ g ∧ H l = none ∧ H1 l = some (.lst [])) ∧ ∀ (k : Nat) (y : V) (c : Cr) (l : Addr), acc[k]? = some y → ks[k]? = some c → ls[k]? = some l → ∃ t b, y = .ref t ∧ H1 t = some (.tup [.ref b, .ref l]) ∧ H1 b = some (.tup (c.map V.int)))
    hσ hg hk hz (fun D H' => ⟨[], List.nodup_nil, rfl, rfl, (fun l hl => by cases hl), fun k y c l h => by simp at h⟩) ?_ ?_ ?_
  · rintro D j H1 H2 acc xs e b ⟨ls, a1, a2, a3, a4, a5⟩
    have k : Tk H1 H2 := Tk.butL e b
    refine ⟨ls, a1, a2, a3, fun l hl => ?_, fun k' y c l h1 h2 h3 => ?_⟩
    · obtain ⟨b1, b2, b3, b4⟩ := a4 l hl
      exact ⟨b1, b2, b3, b _ _ b1 b4⟩
    · obtain ⟨t, b', c1, c2, c3⟩ := a5 k' y c l h1 h2 h3
      exact ⟨t, b', c1, k _ _ c2, k _ _ c3⟩
  · intro od D j c b H1 acc Kt Kf kt kf hc hb bu hg1 hD1 hD0 ⟨ls, a1, a2, a3, a4, a5⟩
    have hs1 : ((wipe σ [i]).set i (some (V.ref b)))[i]? = some (some (.ref b)) := by
      rw [List.getElem?_set_self]
      rw [wipe_length]; exact hi
    refine ⟨?_, iteT (B := Kf H1) ⟨_, hs1, by show 0 ≤ sizeLine; decide, fun l nl => ⟨by show 2 ≤ sizeLine; decide, fun t nt => ?_⟩⟩⟩
    · show ((σ.set i none).set i _).set i none = σ.set i none
      rw [List.set_set, List.set_set]
    · obtain ⟨ntl, nt1⟩ := upd_none nt
      have s4 : Same H1 (upd (upd H1 l (.lst [])) t (.tup [.ref b, .ref l])) := (same_new nl).trans (same_new nt)
      refine kt _ _ s4 ⟨ls ++ [l], ?_, by rw [List.length_append, a2]; rfl, by rw [List.length_append, a3]; rfl, fun l' hl' => ?_, fun k' y c' l' h1 h2 h3 => ?_⟩
      · refine List.nodup_append.mpr ⟨a1, nd1 _, fun x hx z hz' => ?_⟩
        rw [List.mem_singleton.mp hz']
        intro e
        rw [e] at hx
        rw [(a4 l hx).2.2.2] at nl
        cases nl
      · rcases List.mem_append.mp hl' with hl' | hl'
        · obtain ⟨b1, b2, b3, b4⟩ := a4 l' hl'
          exact ⟨b1, b2, b3, s4 _ _ b4⟩
        · rw [List.mem_singleton.mp hl']
          have n0 : H l = none := by
            cases e : H l with
            | none => rfl
            | some o =>
              by_cases hlg : l = g
              · rw [hlg, hg1] at nl; cases nl
              · rw [bu _ _ hlg e] at nl; cases nl
          exact ⟨(ne_of_none hD1 nl).symm, (ne_of_none hg1 nl).symm, n0, at_ne upd_same (Ne.symm ntl)⟩
      · by_cases hkk : k' < j
        · rw [List.getElem?_append_left (by omega)] at h1 h3
          obtain ⟨t', b', c1, c2, c3⟩ := a5 k' y c' l' h1 h2 h3
          exact ⟨t', b', c1, s4 _ _ c2, s4 _ _ c3⟩
        · have hkj : k' = j := by
            have := (List.getElem?_eq_some_iff.mp h1).1
            rw [List.length_append, a2] at this
            have : k' < j + 1 := this
            omega
          subst hkj
          rw [List.getElem?_append_right (by omega), a2, Nat.sub_self] at h1
          rw [List.getElem?_append_right (by omega), a3, Nat.sub_self] at h3
          cases h1
          cases h3
          rw [hc] at h2
          cases h2
          exact ⟨t, b, rfl, upd_same, s4 _ _ hb⟩
  · intro H1 H2 D acc s2 b12 _ hD0 hD2 ⟨ls, a1, a2, a3, a4, a5⟩ hDg hg2 ⟨od, hg1⟩
    have k12 : Tk H1 H2 := fun t xs e => b12 _ _ (ne_of e hg1 (by intro z; cases z)) e
    have hget : ∀ (k' : Nat) (c : Cr), ks[k']? = some c → ∃ (y : V) (l t b : Addr), acc[k']? = some y ∧ ls[k']? = some l ∧ y = V.ref t ∧ H2 t = some (.tup [.ref b, .ref l]) ∧ H2 b = some (.tup (c.map V.int)) := by
      intro k' c hc
      have hkl := (List.getElem?_eq_some_iff.mp hc).1
      have e1 : acc[k']? = some acc[k'] := List.getElem?_eq_getElem (by omega)
      have e2 : ls[k']? = some ls[k'] := List.getElem?_eq_getElem (by omega)
      obtain ⟨t, b, c1, c2, c3⟩ := a5 k' _ c _ e1 hc e2
      exact ⟨_, _, t, b, e1, e2, c1, k12 _ _ c2, k12 _ _ c3⟩
    -- the addresses of the pairs
    let ps : List Addr := acc.map fun v => match v with | .ref t => t | _ => 0
    have eps : ps.map V.ref = acc := by
      apply List.ext_getElem?
      intro k'
      show ((acc.map _).map V.ref)[k']? = _
      rw [List.getElem?_map, List.getElem?_map]
      cases e : acc[k']? with
      | none => rfl
      | some y =>
        have hkl : k' < ks.length := by have := (List.getElem?_eq_some_iff.mp e).1; omega
        obtain ⟨y', l, t, b, e1, _, e3, _⟩ := hget k' _ (List.getElem?_eq_getElem hkl)
        rw [e] at e1
        cases e1
        rw [e3]
        rfl
    let ka : List (List Key × V) := (ks.zip ls).map fun z => (ck z.1, V.ref z.2)
    have lka : ka.length = ks.length := by
      show ((ks.zip ls).map _).length = _
      rw [List.length_map, List.length_zip, a3]; omega
    have kfst : ka.map (·.1) = ks.map ck := by
      show ((ks.zip ls).map _).map _ = _
      rw [List.map_map]
      have : ((fun x : List Key × V => x.1) ∘ fun z : Cr × Addr => (ck z.1, V.ref z.2)) = ck ∘ Prod.fst := rfl
      rw [this, ← List.map_map, List.map_fst_zip (by omega)]
    have ksnd : ka.map (·.2) = ls.map V.ref := by
      show ((ks.zip ls).map _).map _ = _
      rw [List.map_map]
      have : ((fun x : List Key × V => x.2) ∘ fun z : Cr × Addr => (ck z.1, V.ref z.2)) = V.ref ∘ Prod.snd := rfl
      rw [this, ← List.map_map, List.map_snd_zip (by omega)]
    refine ⟨D, ps, ka, rfl, by rw [eps]; exact SqL.of hD2, paired_of_get ?_ fun k' p kv h1 h2 => ?_, fun ad nad => ?_⟩
    · rw [lka]
      show (acc.map _).length = _
      rw [List.length_map, a2]
    · have h2' := h2
      rw [List.getElem?_map] at h2'
      obtain ⟨z, hz1, hz2⟩ := Option.map_eq_some_iff.mp h2'
      rw [List.getElem?_zip_eq_some] at hz1
      obtain ⟨y, l, t, b, e1, e2, e3, e4, e5⟩ := hget k' z.1 hz1.1
      have hl : l = z.2 := Option.some.inj (e2.symm.trans hz1.2)
      have hp : p = t := by
        have : (ps.map V.ref)[k']? = some (.ref p) := by rw [List.getElem?_map, h1]; rfl
        rw [eps, e1, e3] at this
        cases this
        rfl
      refine ⟨b, ?_, ?_⟩
      · rw [hp, ← hz2, ← hl]
        exact SqT.of e4
      · rw [← hz2, ck_kV]
        exact e5
    · have hm : mergeT [] ka = ka := by
        refine merge_nodup (kvs := []) ?_
        rw [List.nil_append, kfst]
        exact List.Pairwise.map ck (fun a b h e => h (ck_inj e)) hn
      rw [hm]
      refine q _ ad ka (s2.trans (same_new nad)) (s2.free nad) ⟨upd_same, paired_of_get lka fun k' kv c h1 h2 => ?_, ?_⟩
      · have h1' := h1
        rw [List.getElem?_map] at h1'
        obtain ⟨z, hz1, hz2⟩ := Option.map_eq_some_iff.mp h1'
        rw [List.getElem?_zip_eq_some] at hz1
        have hzc : z.1 = c := Option.some.inj (hz1.1.symm.trans h2)
        have hzl := List.mem_of_getElem? hz1.2
        obtain ⟨b1, b2, b3, b4⟩ := a4 z.2 hzl
        have h2l : H2 z.2 = some (.lst []) := b12 _ _ b2 b4
        refine ⟨by rw [← hz2, hzc], z.2, [], by rw [← hz2], b3, at_ne h2l (ne_of_none h2l nad), .nil⟩
      · rw [ksnd]
        exact List.Pairwise.map V.ref (fun a b h e => h (V.ref.inj e)) a1
end
end Pb
set_option Elab.async false
set_option linter.all false
set_option maxRecDepth 100000
set_option maxHeartbeats 4000000
namespace Pb
open PySem PySem.Spec PyProof.Rows L2
open C8 (Cal pe_c)
section
variable {K : PySem.W.Frag}
/-- for c in g: for n, b in g[c]: ahead[b].append(c) -/
theorem ahead_loop {g ad : Addr} {H0 H : Hp} {kvs ka : List (List Key × V)} {ks : List Cr} {S : Cr → List (Int × Cr)} {io im ib ia : Nat} (mk : Option V → Option V → Option V → L2.St) {D : Ends} {a b c : Option V}
    (m0 : ∀ a b c, (mk a b c)[0]? = some (some (.ref g))) (ma : ∀ a b c, (mk a b c)[ia]? = some (some (.ref ad))) (mo : ∀ a b c x, (mk a b c).set io x = mk x b c) (mn : ∀ a b c x, (mk a b c).set im x = mk a x c) (mb : ∀ a b c x, (mk a b c).set ib x = mk a b x)
    (go : ∀ a b c, (mk a b c)[io]? = some a) (gb : ∀ a b c, (mk a b c)[ib]? = some c)
    (hg0 : H0 g = some (.dT kvs)) (hpg : Paired (fun kv c => kv.1 = ck c ∧ LsAt H0 kv.2 (S c)) kvs ks) (hn : ks.Nodup) (hz : ks.length ≤ 1000) (hcl : ∀ c ∈ ks, ∀ p ∈ S c, p.2 ∈ ks) (hS : ∀ c, (S c).length ≤ 100)
    (s0 : Same H0 H) (nad : H0 ad = none) (hah : AhAt H0 H ad ka ks (fun _ => [])) (hd : ∀ a b c H', Same H0 H' → AhAt H0 H' ad ka ks (aheadOf S ks) → D.nx (mk a b c) H') :
    tLock (tFor (iKeys (tVar 0)) (gName io) (tFor (iList K (tDGet (tVar 0) (tVar io))) (gTup K 2 (gCons (gName im) (gCons (gName ib) gNil))) (tDrop (tBM K "list" rAppend (tDGet (tVar ia) (tVar ib)) (tCons (tVar io) tNil))))) D (mk a b c) H := by
  have kfst : kvs.map (·.1) = ks.map ck := keys_ck (F := fun v c => LsAt H0 v (S c)) hpg
  have adg : ad ≠ g := (ne_of_none hg0 nad).symm
  refine forK (fun od i σ H' => ∃ a b c, σ = mk a b c ∧ But g H0 H' ∧ H' g = some (.frz od (.dT kvs)) ∧ AhAt H0 H' ad ka ks (aheadOf S (ks.take i))) (m0 a b c) (s0 _ _ hg0) kfst
    (fun od => ⟨a, b, c, rfl, (But.same s0).self, upd_same, ?_⟩) (fun od i σ H' _ ⟨_, _, _, _, _, h, _⟩ => h) ?_ ?_
  · refine hah.but (at_ne hah.1 adg) (fun t xs e => at_ne e (ne_of e (s0 _ _ hg0) (by intro z; cases z))) fun l vs _ e => at_ne e (ne_of e (s0 _ _ hg0) (by intro z; cases z))
  · rintro od i c b σ H1 Drt Dbk hc hb ⟨a1, b1, c1, rfl, bu, eg, ha⟩
    obtain ⟨kv, hkv, hk1, lg, ws, hk2, elg, pw⟩ := Paired.getR hpg hc
    have hcm : c ∈ ks := List.mem_of_getElem? hc
    obtain ⟨vg, hvg, lg2, ws2, rfl, elg2, pw2⟩ := dk_some (F := fun v c => LsAt H0 v (S c)) hpg hcm
    have lgg : lg2 ≠ g := ne_of elg2 hg0 (by intro z; cases z)
    show tFor _ _ _ _ ((mk a1 b1 c1).set io (some (.ref b))) H1
    rw [mo]
    refine ⟨_, m0 _ _ _, _, go _ _ _, g, .ref lg2, rfl, by rw [← hvg]; exact dget_at (.inr ⟨od, eg⟩) hb, lg2, rfl, ⟨_, SqL.of (bu _ _ lgg elg2)⟩, ?_⟩
    refine for_it (walk_list (K := K) (a := lg2) (xs := ws2)) (fun j σ H' => ∃ b1 c1, σ = mk (some (.ref b)) b1 c1 ∧ But g H0 H' ∧ H' g = some (.frz od (.dT kvs)) ∧ H' b = some (.tup (c.map V.int)) ∧ AhAt H0 H' ad ka ks (putAll (aheadOf S (ks.take i)) c ((S c).take j)))
      ⟨b1, c1, rfl, bu, eg, hb, ha⟩ (fun j σ H' _ ⟨_, _, _, h, _⟩ => SqL.of (h _ _ lgg elg2)) ?_ ?_
    · rintro j x σ H2 H3 hj ⟨b2, c2, rfl, bu2, eg2, hb2, ha2⟩ ⟨rfl, hx⟩
      obtain ⟨p, hp, a6, u6, rfl, ha6, b6, rfl, hb6⟩ := paired_get pw2 hx
      have ha6 := bu2 _ _ (ne_of ha6 hg0 (by intro z; cases z)) ha6
      have hb6 := bu2 _ _ (ne_of hb6 hg0 (by intro z; cases z)) hb6
      have hpm := hcl c hcm p (List.mem_of_getElem? hp)
      obtain ⟨h1, h2, h3⟩ := id ha2
      obtain ⟨v, hv, l, vs, rfl, nl, el, pl⟩ := dk_some (F := fun v d => ∃ l vs, v = .ref l ∧ H0 l = none ∧ H3 l = some (.lst vs) ∧ Paired (CrAt H3) vs (putAll (aheadOf S (ks.take i)) c ((S c).take j) d)) h2 hpm
      refine ⟨a6, _, rfl, SqT.of ha6, rfl, _, _, rfl, ?_⟩
      show gName im _ (mk _ b2 c2) H3 _
      unfold gName
      rw [mn]
      refine ⟨_, _, rfl, ?_⟩
      show gNil _ (List.set (mk _ _ _) ib _) H3 _
      rw [mb]
      refine ⟨rfl, ?_⟩
      refine ⟨_, ma _ _ _, _, gb _ _ _, ad, .ref l, rfl, by rw [← hv]; exact dget_at (.inl h1) hb6, .inl ⟨rfl, _, SqL.of el⟩, _, go _ _ _, l, vs, .ref b, rfl, rfl, el, ?_, ?_⟩
      · rw [Paired.length pl]
        have q1 := putAll_len ((S c).take j) (A := aheadOf S (ks.take i)) (c := c) (x := p.2)
        have q2 := aheadOf_len hS _ (cs := ks.take i) (x := p.2) rfl
        have q3 := hS c
        rw [List.length_take] at q1 q2
        have q4 : (putAll (aheadOf S (ks.take i)) c ((S c).take j) p.2).length ≤ 100200 := by omega
        exact Nat.lt_of_le_of_lt q4 (by decide)
      · have ep := ha2.put hn hpm hv el ⟨b, rfl, hb2⟩
        have et : (S c).take (j + 1) = (S c).take j ++ [p] := by rw [List.take_add_one, hp]; rfl
        refine ⟨_, _, rfl, bu2.put nl, at_ne eg2 (ne_of eg2 el (by intro z; cases z)), at_ne hb2 (ne_tl hb2 el), ?_⟩
        rw [et, putAll_snoc]
        exact ep
    · rintro σ H2 ⟨b2, c2, rfl, bu2, eg2, hb2, ha2⟩
      have et : ks.take (i + 1) = ks.take i ++ [c] := by rw [List.take_add_one, hc]; rfl
      refine ⟨_, _, _, rfl, bu2, eg2, ?_⟩
      rw [et, aheadOf_snoc]
      rw [Paired.length pw2, List.take_length] at ha2
      exact ha2
  · rintro od σ H2 ⟨a2, b2, c2, rfl, bu2, eg2, ha2⟩
    rw [List.take_length] at ha2
    refine hd _ _ _ _ (unlock_same hg0 bu2) (ha2.but (at_ne ha2.1 adg) (fun t xs e => at_ne e (ne_of e eg2 (by intro z; cases z))) fun l vs _ e => at_ne e (ne_of e eg2 (by intro z; cases z)))
end
end Pb
set_option Elab.async false
set_option linter.all false
set_option maxRecDepth 100000
set_option maxHeartbeats 4000000
namespace Pb
open PySem PySem.Spec PyProof.Rows L2
open C8 (Cal pe_c)
section
variable {P : Program} {w : World} {K : PySem.W.Frag} {mg : Str → Option Value} {base : Heap}
theorem seqI {t u : TS} {D : Ends} {σ : L2.St} {H : Hp} (h : t { D with nx := u D } σ H) : tSeq t u D σ H := h
theorem asgI {te : TE} {g : TG} {D : Ends} {σ : L2.St} {H : Hp} (h : te σ H fun x H1 => g x σ H1 D.nx) : tAsg te g D σ H := h
theorem nilI {σ : L2.St} {H : Hp} {k : List V → Hp → Prop} (h : k [] H) : tNil σ H k := h
/-! ### dicts of one value -/
def PvAt (v0 : V) (H : Hp) (y : V) (c : Cr) : Prop := ∃ t b, y = .ref t ∧ H t = some (.tup [.ref b, v0]) ∧ H b = some (.tup (c.map V.int))
theorem PvAt.tk {v0 : V} {H H' : Hp} {y : V} {c : Cr} (k : Tk H H') (h : PvAt v0 H y c) : PvAt v0 H' y c := let ⟨t, b, e, h1, h2⟩ := h; ⟨t, b, e, k _ _ h1, k _ _ h2⟩
theorem dict_const {v0 : V} {H : Hp} {D : Addr} {acc : List V} {cs : List Cr} {Q : V → Hp → Prop} (hD : H D = some (.lst acc)) (hp : Paired (PvAt v0 H) acc cs) (q : ∀ p, H p = none → Q (.ref p) (upd H p (.dT (mergeT [] (cs.map fun c => (ck c, v0)))))) : rDictPT K [.ref D] H Q := by
  have aux : ∀ {acc : List V} {cs : List Cr}, Paired (PvAt v0 H) acc cs → ∃ ps : List Addr, ps.map V.ref = acc ∧ Paired (fun p (kv : List Key × V) => ∃ b, SqT K H p [.ref b, kv.2] ∧ H b = some (.tup (kv.1.map kV))) ps (cs.map fun c => (ck c, v0)) := by
    intro acc cs h
    induction h with
    | nil => exact ⟨[], rfl, .nil⟩
    | @cons y c acc cs h _ ih =>
      obtain ⟨t, b, rfl, h1, h2⟩ := h
      obtain ⟨ps, e, p⟩ := ih
      exact ⟨t :: ps, by rw [List.map_cons, e], .cons ⟨b, SqT.of h1, by rw [ck_kV]; exact h2⟩ p⟩
  obtain ⟨ps, e, p⟩ := aux hp
  exact ⟨D, ps, _, rfl, by rw [e]; exact SqL.of hD, p, q⟩
theorem keys_const {v0 : V} (cs : List Cr) : Paired (fun (kv : List Key × V) c => kv.1 = ck c ∧ kv.2 = v0) (cs.map fun c => (ck c, v0)) cs := by
  have h : Paired (fun (kv : List Key × V) c => kv.1 = ck c ∧ kv.2 = v0) (cs.map fun c => (ck c, v0)) (cs.map id) := paired_maps fun c _ => ⟨rfl, rfl⟩
  rw [List.map_id] at h
  exact h
theorem merge_const {v0 : V} {cs : List Cr} (h : cs.Nodup) : mergeT [] (cs.map fun c => (ck c, v0)) = cs.map fun c => (ck c, v0) := by
  refine merge_nodup (kvs := []) ?_
  rw [List.nil_append, List.map_map]
  exact List.Pairwise.map ck (fun a b h e => h (ck_inj e)) h
theorem call_dictPTn {X : Cx} (hcalm : X.calm = true) (hu : X.A.units + 64 < cLine) : CallR X (.type "dict") (rDictPT X.K) := call_dictPT hcalm hu
/-! ### ranks_to -/
theorem sc_ranks_to : FnScope ["graph", "goals", "ahead", "crowd", "found", "line", "at", "number", "behind", "goal"] ["graph", "goals"] (defScope s_ranks_to) := ⟨rfl, rfl, rfl, by decide +kernel, rfl, by decide +kernel, by decide +kernel⟩
def spRanks : Sp := fun vs H Q _ => ∃ (S : Cr → List (Int × Cr)) (g gl : Addr) (ks gs : List Cr) (ws : List V), vs = [.ref g, .ref gl] ∧ GrD H g S ks ∧ ks.Nodup ∧ (∀ c ∈ ks, ∀ p ∈ S c, p.2 ∈ ks) ∧ ks.length ≤ 100 ∧ (∀ c, (S c).length ≤ 100) ∧
  H gl = some (.lst ws) ∧ Paired (CrAt H) ws gs ∧ gs.Nodup ∧ (∀ c ∈ gs, c ∈ ks) ∧
  ∀ H' f kf M, Same H H' → H f = none → H' f = some (.dT kf) → Paired (fun (kv : List Key × V) c => kv.1 = ck c ∧ ∃ i : Int, kv.2 = .int i) kf M → M.Nodup → (∀ c, c ∈ M ↔ c ∈ ks ∧ ∃ d ∈ gs, Reach S c d) → Q (.ref f) H'
theorem ok_ranks_to (T : Tx mg) (D : DefAt K mg "ranks_to" s_ranks_to []) : Cal P w K mg base 1 "ranks_to" spRanks [] := by
  refine cal0 D sc_ranks_to (fun _ _ _ _ _ _ us hl => match us, hl with | [_, _], _ => rfl) (fun vs H Q E ⟨_, _, _, _, _, _, e, _⟩ => by rw [e]; rfl) fun f cdv A outer s H0 vs Q E hr h => ?_
  obtain ⟨S, g, gl, ks, gs, ws, rfl, ⟨kvs, hg, hpg⟩, hn, hcl, hz, hS, hgl, hws, hgn, hgk, q⟩ := h
  have hu := hu_of hr
  have hu64 := hu64_of hr
  refine ⟨_, (pss_cons (ps_set (i := 2) sc_ranks_to.nd rfl (.inl rfl) (pe_callTy (call_dictPTn rfl hu64) (by rfl) T.dict boot_dict (pa_cons (pe_lock (pe_lc (own := [("crowd", 3)]) (g := (gName 3)) (tt := tYes) (te := (tTup (tCons (tVar 3) (tCons (tLst tNil) tNil)))) rfl sc_ranks_to.nd (pi_keys (pv 0)) (blkOk_by (N := ["graph", "goals", "ahead", "crowd", "found", "line", "at", "number", "behind", "goal"]) (sc := defScope s_ranks_to) (by decide +kernel)) (fun _ _ _ _ _ => (pg_name (i := 3) sc_ranks_to.nd rfl (.inl rfl))) (fun _ _ _ _ _ => pts_nil) (fun _ _ _ _ _ => (pe_tup (pa_cons (pv 3) (pa_cons (pe_lst pa_nil) pa_nil)))))) pa_nil)))
    (pss_cons (ps_lock (ps_for PassesOwn.never rfl (pi_keys (pv 0)) (pg_name (i := 3) sc_ranks_to.nd rfl (.inl rfl))
      (pss_one (ps_for PassesOwn.never rfl (pi_list (pe_dget hu (pv 0) (pv 3) (fun _ _ => rfl))) (pg_tup rfl (pgs_cons (pg_name (i := 7) sc_ranks_to.nd rfl (.inl rfl)) (pgs_cons (pg_name (i := 8) sc_ranks_to.nd rfl (.inl rfl)) pgs_nil)))
        (pss_one (ps_expr (pe_bm PySem.F.plainAttrs_list PySem.F.slot_list_append PySem.F.type_list_append mt_append (pe_dget hu (pv 2) (pv 8) (fun _ _ => rfl)) (pa_cons (pv 3) pa_nil))))))))
    (pss_cons (ps_set (i := 4) sc_ranks_to.nd rfl (.inl rfl) (pe_callTy (call_dictPTn rfl hu64) (by rfl) T.dict boot_dict (pa_cons (pe_lc (own := [("goal", 9)]) (g := (gName 9)) (tt := tYes) (te := (tTup (tCons (tVar 9) (tCons (tC (.int 0)) tNil)))) rfl sc_ranks_to.nd (pi_list (pv 1)) (blkOk_by (N := ["graph", "goals", "ahead", "crowd", "found", "line", "at", "number", "behind", "goal"]) (sc := defScope s_ranks_to) (by decide +kernel)) (fun _ _ _ _ _ => (pg_name (i := 9) sc_ranks_to.nd rfl (.inl rfl))) (fun _ _ _ _ _ => pts_nil) (fun _ _ _ _ _ => (pe_tup (pa_cons (pv 9) (pa_cons pe_int pa_nil))))) pa_nil)))
    (pss_cons (ps_set (i := 5) sc_ranks_to.nd rfl (.inl rfl) (pe_callTy call_list_of (by rfl) T.list boot_list (pa_cons (pv 1) pa_nil)))
    (pss_cons (ps_set (i := 6) sc_ranks_to.nd rfl (.inl rfl) pe_int)
    (pss_cons (ps_while PassesOwn.never (pt_cmpR op_lt (pv 6) (pe_callB call_len_seq (by rfl) T.len boot_len (pa_cons (pv 5) pa_nil)) (nomark _))
      (pss_cons (ps_for PassesOwn.never rfl (pi_list (pe_dget hu (pv 2) (pe_ix ix_list (pv 5) (pv 6) (fun _ _ => rfl)) (fun _ _ => rfl))) (pg_name (i := 3) sc_ranks_to.nd rfl (.inl rfl))
        (pss_one (ps_if (pt_cmp (pc_dnotin hu (pv 3) (pv 4)))
          (pss_cons (ps_dput hu (pv 4) (pv 3) (pe_op op_add (pe_dget hu (pv 4) (pe_ix ix_list (pv 5) (pv 6) (fun _ _ => rfl)) (fun _ _ => rfl)) pe_int) rfl)
          (pss_one (ps_expr (pe_bm PySem.F.plainAttrs_list PySem.F.slot_list_append PySem.F.type_list_append mt_append (pv 5) (pa_cons (pv 3) pa_nil))))) pss_nil)))
      (pss_one (ps_set (i := 6) sc_ranks_to.nd rfl (.inl rfl) (pe_op op_add (pv 6) pe_int)))))
    (pss_one (ps_ret (pv 4))))))))), ?_⟩
  refine seqI (asgI ?_)
  refine ahead_new (K := K) (i := 3) (σ := [some (.ref g), some (.ref gl), none, none, none, none, none, none, none, none]) rfl (by show 3 < 10; decide) hg (keys_ck (F := fun v c => LsAt H0 v (S c)) hpg) (by omega) hn fun H1 ad ka s1 nad hah => ?_
  refine seqI (ahead_loop (fun a b c => [some (.ref g), some (.ref gl), some (.ref ad), a, none, none, none, b, c, none]) (fun _ _ _ => rfl) (fun _ _ _ => rfl) (fun _ _ _ _ => rfl) (fun _ _ _ _ => rfl) (fun _ _ _ _ => rfl) (fun _ _ _ => rfl) (fun _ _ _ => rfl)
    hg hpg hn (by omega) hcl hS s1 nad hah fun y3 y7 y8 H2 s2 ha2 => ?_)
  -- found = dict([(goal, 0) for goal in goals])
  refine ⟨_, rfl, gl, rfl, ⟨_, SqL.of (s2 _ _ hgl)⟩, fun D nD => ?_⟩
  have hgl1 : gs.length ≤ 100 := Nat.le_trans (nodup_len hgn hgk) hz
  refine lc_same (walk_list (K := K) (a := gl) (xs := ws)) gs some (PvAt (.int 0)) (Paired.length hws) (by rw [Paired.length hws]; exact small1000 (by omega)) nD (fun H1 s => SqL.of (s _ _ (s2 _ _ hgl)))
    (fun H1 H2 y b acc _ e k h => h.tk (Tk.butL e k)) ?_ (fun H3 acc s3 e3 p3 => ?_)
  · intro i c x H3 H4 Kt Kf kt kf hp s3 _ hy
    obtain ⟨rfl, hx⟩ := hy
    obtain ⟨x', hx', b, rfl, hb⟩ := Paired.getR hws hp
    obtain rfl : x = .ref b := Option.some.inj (hx.symm.trans hx')
    refine ⟨rfl, iteT (B := Kf H4) ⟨_, rfl, by show 2 ≤ sizeLine; decide, fun t nt => kt _ _ c (same_new nt) rfl ⟨t, b, rfl, upd_same, ?_⟩⟩⟩
    exact at_ne (s3 _ _ (s2 _ _ hb)) (ne_of_none (s3 _ _ (s2 _ _ hb)) nt)
  · rw [List.filterMap_some] at p3
    refine nilI (dict_const (K := K) e3 p3 fun fd nfd => ?_)
    rw [merge_const hgn]
    have s23 : Same H2 (upd H3 fd (.dT (gs.map fun c => (ck c, .int 0)))) := s3.trans (same_new nfd)
    refine ⟨_, rfl, gl, ws, rfl, .inl (SqL.of (s23 _ _ (s2 _ _ hgl))), fun ln nln => ?_⟩
    obtain ⟨nlf, nln3⟩ := upd_none nln
    generalize hH4 : upd (upd H3 fd (.dT (gs.map fun c => (ck c, V.int 0)))) ln (.lst ws) = H4
    have s4 : Same H2 H4 := by rw [← hH4]; exact s23.trans (same_new nln)
    have ef : H4 fd = some (.dT (gs.map fun c => (ck c, .int 0))) := by rw [← hH4]; exact at_ne upd_same (Ne.symm nlf)
    have el : H4 ln = some (.lst ws) := by rw [← hH4]; exact upd_same
    have nf2 : H2 fd = none := s3.free nfd
    have nl2 : H2 ln = none := s3.free nln3
    clear hH4 nln
    have hA : PredOf S ks (aheadOf S ks) := aheadOf_pred S ks
    have hLk : ∀ {L : List Cr} {k : Nat}, MBfs (aheadOf S ks) gs L k → (∀ c ∈ L, c ∈ ks) := fun b c hc => by
      obtain ⟨d, hd, hr⟩ := b.re c hc
      exact (rel_reach hA hr (hgk d hd)).1
    have hLl : ∀ {L : List Cr} {k : Nat}, MBfs (aheadOf S ks) gs L k → L.length ≤ 100 := fun b => Nat.le_trans (nodup_len b.nd (hLk b)) hz
    refine ⟨fun m σ H => ∃ (L : List Cr) (k : Nat) (vs : List V) (kf : List (List Key × V)) (y3 : Option V), m = 101 - k ∧ σ = [some (.ref g), some (.ref gl), some (.ref ad), y3, some (.ref fd), some (.ref ln), some (.int k), y7, y8, none] ∧ Same H2 H ∧
        H fd = some (.dT kf) ∧ H ln = some (.lst vs) ∧ Paired (fun (kv : List Key × V) c => kv.1 = ck c ∧ ∃ i : Int, kv.2 = .int i) kf L ∧ Paired (CrAt H) vs L ∧ MBfs (aheadOf S ks) gs L k,
      ⟨101, gs, 0, ws, _, y3, rfl, rfl, s4, ef, el, (keys_const gs).mono fun kv c ⟨h1, h2⟩ => ⟨h1, 0, h2⟩, crs_tk (Tk.same (s2.trans s4)) hws, MBfs.start _ hgn⟩, ?_⟩
    rintro m σ H ⟨L, k, vs, kf, y3, rfl, rfl, s5, ef, el, pf, pl, bf⟩
    have hL := hLl bf
    refine ⟨_, rfl, _, rfl, ln, vs, rfl, .inl (SqL.of el), _, _, rfl, rfl, _, rfl, ?_⟩
    refine ite2 (fun z => ?_) (fun z => ?_)
    · have z := of_decide_eq_true z
      have hk : k < L.length := by rw [← Paired.length pl]; omega
      have hck : L[k]? = some L[k] := List.getElem?_eq_getElem hk
      generalize hc' : L[k] = c at hck
      obtain ⟨_, hvk, av, rfl, hav⟩ := Paired.getR pl hck
      have hck2 := hLk bf c (List.mem_of_getElem? hck)
      obtain ⟨h1, h2, h3⟩ := id ha2
      obtain ⟨v, hv, l, cs, rfl, nl, elc, pc⟩ := dk_some (F := fun v d => ∃ l vs, v = .ref l ∧ H0 l = none ∧ H2 l = some (.lst vs) ∧ Paired (CrAt H2) vs (aheadOf S ks d)) h2 hck2
      refine ⟨fun σ' H' => ∃ m', m' < 101 - k ∧ ∃ (L : List Cr) (k : Nat) (vs : List V) (kf : List (List Key × V)) (y3 : Option V), m' = 101 - k ∧ σ' = [some (.ref g), some (.ref gl), some (.ref ad), y3, some (.ref fd), some (.ref ln), some (.int k), y7, y8, none] ∧ Same H2 H' ∧
        H' fd = some (.dT kf) ∧ H' ln = some (.lst vs) ∧ Paired (fun (kv : List Key × V) c => kv.1 = ck c ∧ ∃ i : Int, kv.2 = .int i) kf L ∧ Paired (CrAt H') vs L ∧ MBfs (aheadOf S ks) gs L k, fun σ' H' ⟨m', h1, h2⟩ => ⟨m', h1, h2⟩, ?_⟩
      refine ⟨_, rfl, _, rfl, _, rfl, ln, vs, _, _, rfl, rfl, SqL.of el, atI_nat hvk, ad, .ref l, rfl, by rw [← hv]; exact dget_at (.inl (s5 _ _ h1)) hav, l, rfl, ⟨_, SqL.of (s5 _ _ elc)⟩, ?_⟩
      have hAl : (aheadOf S ks c).length ≤ 100 * ks.length := aheadOf_len hS _ rfl
      refine for_it (walk_list (K := K) (a := l) (xs := cs)) (fun i σ H' => ∃ (vs : List V) (kf : List (List Key × V)) (y3 : Option V), σ = [some (.ref g), some (.ref gl), some (.ref ad), y3, some (.ref fd), some (.ref ln), some (.int k), y7, y8, none] ∧ Same H2 H' ∧ Tk H H' ∧
          H' fd = some (.dT kf) ∧ H' ln = some (.lst vs) ∧ Paired (fun (kv : List Key × V) d => kv.1 = ck d ∧ ∃ i : Int, kv.2 = .int i) kf (addL L ((aheadOf S ks c).take i)) ∧ Paired (CrAt H') vs (addL L ((aheadOf S ks c).take i)))
        ⟨vs, kf, y3, rfl, s5, Tk.refl _, ef, el, by rw [List.take_zero]; exact pf, by rw [List.take_zero]; exact pl⟩ (fun i σ H' _ ⟨_, _, _, _, h, _⟩ => SqL.of (h _ _ elc)) ?_ ?_
      · rintro i x σ H5 H6 hi ⟨vs, kf, y3, rfl, s6, k6, ef6, el6, pf6, pl6⟩ ⟨rfl, hx⟩
        obtain ⟨d, hd, b6, rfl, hb6⟩ := paired_get pc hx
        have hb6 := s6 _ _ hb6
        have et : (aheadOf S ks c).take (i + 1) = (aheadOf S ks c).take i ++ [d] := by rw [List.take_add_one, hd]; rfl
        obtain ⟨E, eE⟩ := addL_ext ((aheadOf S ks c).take i) L
        have hk6 : (addL L ((aheadOf S ks c).take i))[k]? = some c := by rw [eE]; exact get_ext hck
        obtain ⟨_, hvk6, av6, rfl, hav6⟩ := Paired.getR pl6 hk6
        have hlen : (addL L ((aheadOf S ks c).take i)).length ≤ 100 := by
          refine Nat.le_trans (nodup_len (addL_nodup _ bf.nd) fun x hx => ?_) hz
          rcases addL_mem.mp hx with hx | hx
          · exact hLk bf x hx
          · exact ((hA c hck2 x).mp (List.mem_of_mem_take hx)).1
        have hmem := dk_isSome (F := fun v d => ∃ i : Int, v = .int i) pf6 d
        refine ⟨_, rfl, _, rfl, fd, _, rfl, dget_at (.inl ef6) hb6, _, rfl, ?_⟩
        rw [hmem]
        by_cases hin : d ∈ addL L ((aheadOf S ks c).take i)
        · rw [decide_eq_true hin]
          refine iteF ⟨vs, kf, _, rfl, s6, k6, ef6, el6, ?_, ?_⟩
          · rw [et, addL_snoc, if_pos hin]; exact pf6
          · rw [et, addL_snoc, if_pos hin]; exact pl6
        · rw [decide_eq_false hin]
          obtain ⟨v6, hv6, i6, rfl⟩ := dk_some (F := fun v d => ∃ i : Int, v = .int i) pf6 (List.mem_of_getElem? hk6)
          refine iteT ⟨_, rfl, _, rfl, _, rfl, ln, vs, _, _, rfl, rfl, SqL.of el6, atI_nat hvk6, fd, .int i6, rfl, by rw [← hv6]; exact dget_at (.inl ef6) hav6, _, _, rfl, rfl, ?_⟩
          refine ⟨_, rfl, _, rfl, fd, _, rfl, DPut.t (k := ck d) ef6 (by rw [ck_kV]; exact hb6) (small1000 (by rw [Paired.length pf6]; omega)), ?_⟩
          have el7 : upd H6 fd (.dT (putK kf (ck d) (.int (i6 + 1)))) ln = some (.lst vs) := at_ne el6 nlf
          refine ⟨_, rfl, .inl ⟨rfl, _, SqL.of el7⟩, _, rfl, ln, vs, _, rfl, rfl, el7, small1000 (by rw [Paired.length pl6]; omega), ?_⟩
          have k7 := (Tk.mutD (o := .dT (putK kf (ck d) (.int (i6 + 1)))) ef6).trans (Tk.mutL (o := .lst (vs ++ [.ref b6])) el7)
          refine ⟨vs ++ [.ref b6], putK kf (ck d) (.int (i6 + 1)), _, rfl, same_put (same_put s6 nf2) nl2, k6.trans k7, at_ne upd_same (Ne.symm nlf), upd_same, ?_, ?_⟩
          · rw [et, addL_snoc, if_neg hin]
            exact dk_put (F := fun v d => ∃ i : Int, v = .int i) pf6 hin ⟨_, rfl⟩
          · rw [et, addL_snoc, if_neg hin]
            exact (crs_tk k7 pl6).snoc ⟨b6, rfl, k7 _ _ hb6⟩
      · rintro σ H5 ⟨vs, kf, y3, rfl, s6, k6, ef6, el6, pf6, pl6⟩
        rw [Paired.length pc, List.take_length] at pf6 pl6
        exact ⟨_, rfl, _, _, rfl, rfl, 101 - (k + 1), by omega, addL L (aheadOf S ks c), k + 1, vs, kf, _, rfl, rfl, s6, ef6, el6, pf6, pl6, bf.step hck⟩
    · have z : ¬ _ := fun h => z (decide_eq_true h)
      have hk : L.length ≤ k := by rw [← Paired.length pl]; omega
      refine ⟨_, rfl, q H fd kf L (s2.trans s5) (s2.free nf2) ef pf bf.nd fun c => ?_⟩
      rw [bf.done hk c]
      constructor
      · rintro ⟨d, hd, hr⟩
        obtain ⟨h1, h2⟩ := rel_reach hA hr (hgk d hd)
        exact ⟨h1, d, hd, h2⟩
      · rintro ⟨hc, d, hd, hr⟩
        exact ⟨d, hd, reach_rel hA hcl hr hc⟩
end
end Pb
set_option Elab.async false
set_option linter.all false
set_option maxRecDepth 100000
set_option maxHeartbeats 4000000
namespace Pb
open PySem PySem.Spec PyProof.Rows L2
open C8 (Cal pe_c)
section
variable {P : Program} {w : World} {K : PySem.W.Frag} {mg : Str → Option Value} {base : Heap}
theorem fm_filter {α : Type} (p : α → Bool) : ∀ l : List α, (l.filterMap fun c => if p c = true then some c else none) = l.filter p
  | [] => rfl
  | x :: l => by
    by_cases h : p x = true
    · rw [List.filterMap_cons, List.filter_cons, if_pos h, if_pos h, fm_filter p l]
    · rw [List.filterMap_cons, List.filter_cons, if_neg h, if_neg h, fm_filter p l]
theorem GrD.tk {H H' : Hp} {g : Addr} {S : Cr → List (Int × Cr)} {L : List Cr} (s : Same H H') (h : GrD H g S L) : GrD H' g S L := let ⟨kvs, e, p⟩ := h; ⟨kvs, s _ _ e, p.mono fun _ _ z => ⟨z.1, z.2.same s⟩⟩
theorem GrOf.cl {S : Cr → List (Int × Cr)} {c0 : Cr} {L : List Cr} (g : GrOf S c0 L) : ∀ c ∈ L, ∀ p ∈ S c, p.2 ∈ L := fun c hc p hp => (g.mem p.2).mpr (((g.mem c).mp hc).tail ⟨p.1, hp⟩)
theorem succ_len {r : Rl} (ho : RlOk r) (c : Cr) : (succ r c).length ≤ 100 := by
  refine Nat.le_trans (List.length_filterMap_le ..) ?_
  rw [nums_len]
  have := ho.ml
  omega
/-- a dict of numbers by these crowds -/
def RkAt (H : Hp) (f : Addr) (M : List Cr) : Prop := ∃ kf : List (List Key × V), H f = some (.dT kf) ∧ Paired (fun (kv : List Key × V) c => kv.1 = ck c ∧ ∃ i : Int, kv.2 = .int i) kf M
theorem RkAt.same {H H' : Hp} {f : Addr} {M : List Cr} (s : Same H H') (h : RkAt H f M) : RkAt H' f M := let ⟨kf, e, p⟩ := h; ⟨kf, s _ _ e, p⟩
/-! ### gone_through -/
theorem sc_gone_through : FnScope ["rule", "question", "counts", "limit", "graph", "word", "to_wrong", "to_settled", "crowd"] ["rule", "question", "counts", "limit"] (defScope s_gone_through) := ⟨rfl, rfl, rfl, by decide +kernel, rfl, by decide +kernel, by decide +kernel⟩
def wrong (r : Rl) (z : W3) (c : Cr) : Prop := ∃ d, Reach (succ r) c d ∧ saidM r d ≠ z
structure Gone (r : Rl) (z : W3) (c0 : Cr) (L M1 M2 : List Cr) : Prop where
  gr : GrOf (succ r) c0 L
  n1 : M1.Nodup
  n2 : M2.Nodup
  m1 : ∀ c, c ∈ M1 ↔ c ∈ L ∧ wrong r z c
  m2 : ∀ c, c ∈ M2 ↔ c ∈ L ∧ ∃ d, Reach (succ r) c d ∧ ¬ wrong r z d
structure Qs (H : Hp) (r : Rl) (u vq vc : V) (q : Qn) (cs : List Int) (h : Nat) : Prop where
  rl : RlAt H u r
  ok : RlOk r
  qn : QnAt H vq q
  qd : q.depth ≤ 3
  qo : QnOk cs.length q
  ql : QnLen q
  cr : CrAt H vc cs
  cl : cs.length = r.starts.length
  cp : ∀ x ∈ cs, 0 ≤ x
  cs : cs.sum = h
  h4 : h ≤ 4
theorem Qs.tk {H H' : Hp} {r : Rl} {u vq vc : V} {q : Qn} {cs : List Int} {h : Nat} (k : Tk H H') (z : Qs H r u vq vc q cs h) : Qs H' r u vq vc q cs h := ⟨z.rl.tk k, z.ok, z.qn.tk k, z.qd, z.qo, z.ql, z.cr.tk k, z.cl, z.cp, z.cs, z.h4⟩
theorem Qs.co {H : Hp} {r : Rl} {u vq vc : V} {q : Qn} {cs : List Int} {h : Nat} (z : Qs H r u vq vc q cs h) : CrOk r h (begM r cs) := begM_ok z.ok z.cl z.cp z.cs
def spGone : Sp := fun vs H Q _ => ∃ (r : Rl) (u vq vc : V) (q : Qn) (cs : List Int) (h : Nat), vs = [u, vq, vc, .int 1000] ∧ Qs H r u vq vc q cs h ∧
  ∀ H' t g f1 f2 L M1 M2, Same H H' → H' t = some (.tup [.ref g, .ref f1, .ref f2]) → GrD H' g (succ r) L → RkAt H' f1 M1 → RkAt H' f2 M2 → Gone r (W3.of (holdsM cs q)) (begM r cs) L M1 M2 → Q (.ref t) H'
theorem ok_gone_through (T : Tx mg) (D : DefAt K mg "gone_through" s_gone_through []) (C1 : Cal P w K mg base 4 "graph_of" spGraph []) (C2 : Cal P w K mg base 1 "begun" spBegun []) (C3 : Cal P w K mg base 6 "truth_word" spTruth []) (C4 : Cal P w K mg base 1 "ranks_to" spRanks []) (C5 : Cal P w K mg base 1 "said" spSaid []) : Cal P w K mg base 7 "gone_through" spGone [] := by
  refine cal0 D sc_gone_through (fun _ _ _ _ _ _ us hl => match us, hl with | [_, _, _, _], _ => rfl) (fun vs H Q E ⟨_, _, _, _, _, _, _, e, _⟩ => by rw [e]; rfl) fun f cdv A outer s H0 vs Q E hr h => ?_
  obtain ⟨r, u, vq, vc, q, cs, h, rfl, z, k⟩ := h
  have hu := hu_of hr
  have hu64 := hu64_of hr
  refine ⟨_, (pss_cons (ps_set (i := 4) sc_gone_through.nd rfl (.inl rfl) (pe_c C1 hr (by omega) rfl (pa_cons (pv 0) (pa_cons (pe_c C2 hr (by omega) rfl (pa_cons (pv 0) (pa_cons (pv 2) pa_nil))) (pa_cons (pv 3) pa_nil)))))
    (pss_cons (ps_set (i := 5) sc_gone_through.nd rfl (.inr rfl) (pe_c C3 hr (by omega) rfl (pa_cons (pv 1) (pa_cons (pv 2) pa_nil))))
    (pss_cons (ps_set (i := 6) sc_gone_through.nd rfl (.inr rfl) (pe_c C4 hr (by omega) rfl (pa_cons (pv 4) (pa_cons (pe_lock (pe_lc (own := [("crowd", 8)]) (g := (gName 8)) (tt := (tTest (tOp rNe (tCall spSaid [] E0 (tCons (tVar 0) (tCons (tVar 8) tNil))) (tVar 5)))) (te := (tVar 8)) rfl sc_gone_through.nd (pi_keys (pv 4)) (blkOk_by (N := ["rule", "question", "counts", "limit", "graph", "word", "to_wrong", "to_settled", "crowd"]) (sc := defScope s_gone_through) (by decide +kernel)) (fun _ _ _ _ _ => (pg_name (i := 8) sc_gone_through.nd rfl (.inl rfl))) (fun _ _ _ _ _ => (pts_one (pt_cmpR op_ne (pe_c C5 hr (by omega) rfl (pa_cons (pv 0) (pa_cons (pv 8) pa_nil))) (pv 5) (nomark _)))) (fun _ _ _ _ _ => (pv 8)))) pa_nil))))
    (pss_cons (ps_set (i := 7) sc_gone_through.nd rfl (.inl rfl) (pe_c C4 hr (by omega) rfl (pa_cons (pv 4) (pa_cons (pe_lock (pe_lc (own := [("crowd", 8)]) (g := (gName 8)) (tt := (tB (tDNotIn (tVar 8) (tVar 6)))) (te := (tVar 8)) rfl sc_gone_through.nd (pi_keys (pv 4)) (blkOk_by (N := ["rule", "question", "counts", "limit", "graph", "word", "to_wrong", "to_settled", "crowd"]) (sc := defScope s_gone_through) (by decide +kernel)) (fun _ _ _ _ _ => (pg_name (i := 8) sc_gone_through.nd rfl (.inl rfl))) (fun _ _ _ _ _ => (pts_one (pt_cmp (pc_dnotin hu (pv 8) (pv 6))))) (fun _ _ _ _ _ => (pv 8)))) pa_nil))))
    (pss_one (ps_ret (pe_tup (pa_cons (pv 4) (pa_cons (pv 6) (pa_cons (pv 7) pa_nil)))))))))), ?_⟩
  refine ⟨_, rfl, _, rfl, _, rfl, r, u, vc, cs, rfl, z.rl, z.ok, z.cr, z.cl, fun H1 v1 s1 hv1 => ?_⟩
  refine ⟨_, rfl, r, u, v1, begM r cs, h, rfl, z.rl.tk (Tk.same s1), z.ok, hv1, z.co, z.h4, fun H2 g L s2 n2 hg gr => ?_⟩
  have hLl := gr.len z.ok z.h4 z.co
  refine ⟨_, rfl, _, rfl, vq, vc, q, cs, rfl, z.qn.tk (Tk.same (s1.trans s2)), z.qd, z.qo, z.ql, z.cr.tk (Tk.same (s1.trans s2)), fun H3 s3 => ?_⟩
  have s03 := (s1.trans s2).trans s3
  have hg3 := hg.tk s3
  obtain ⟨kvs, eg, pg⟩ := id hg3
  have hk := keys_ck (F := fun v c => LsAt H3 v (succ r c)) pg
  generalize hW : W3.of (holdsM cs q) = W at k
  refine ⟨_, rfl, ?_⟩
  refine lcT (fun c => if decide (saidM r c ≠ W) = true then some c else none) CrAt (i0 := 4) rfl eg hk (by omega) (fun H1 H2 y b k h => h.tk k) ?_ ?_
  · intro od c b H4 Kt Kf kt kf hc hb bu eg4 k34
    have hco := reach_ok z.ok z.co ((gr.mem c).mp hc)
    refine ⟨rfl, _, rfl, _, rfl, r, u, .ref b, c, rfl, z.rl.tk ((Tk.same s03).trans k34), z.ok, ⟨b, rfl, hb⟩, hco.len, fun H5 s5 => ?_⟩
    refine ⟨_, rfl, rfl, _, rfl, ?_⟩
    have e : (!decide (V.str (saidM r c).s = V.str W.s)) = decide (saidM r c ≠ W) := by rw [dec_w3]; simp
    rw [e]
    refine ite2 (fun z => ⟨_, rfl, ?_⟩) (fun z => ?_)
    · exact kt _ _ c s5 (by rw [if_pos z]) ⟨b, rfl, s5 _ _ hb⟩
    · exact kf _ s5 (by rw [if_neg z])
  intro H4 D1 acc1 s4 nD1 eD1 p1
  rw [fm_filter] at p1
  generalize hG1 : L.filter (fun c => decide (saidM r c ≠ W)) = G1 at p1
  have mG1 : ∀ c, c ∈ G1 ↔ c ∈ L ∧ saidM r c ≠ W := fun c => by rw [← hG1, List.mem_filter]; simp
  have nG1 : G1.Nodup := by rw [← hG1]; exact gr.nd.filter _
  refine ⟨succ r, g, D1, L, G1, acc1, rfl, hg3.tk s4, gr.nd, gr.cl, by omega, succ_len z.ok, eD1, p1, nG1, fun c hc => ((mG1 c).mp hc).1, fun H5 f1 kf1 M1 s5 nf1 ef1 pf1 nM1 mM1 => ?_⟩
  have hg5 := (hg3.tk s4).tk s5
  obtain ⟨kvs5, eg5, pg5⟩ := id hg5
  have hk5 := keys_ck (F := fun v c => LsAt H5 v (succ r c)) pg5
  have mM1' : ∀ c, c ∈ M1 ↔ c ∈ L ∧ wrong r W c := fun c => by
    rw [mM1 c]
    constructor
    · rintro ⟨h1, d, h2, h3⟩; exact ⟨h1, d, h3, ((mG1 d).mp h2).2⟩
    · rintro ⟨h1, d, h2, h3⟩; exact ⟨h1, d, (mG1 d).mpr ⟨(gr.mem d).mpr (((gr.mem c).mp h1).trans h2), h3⟩, h2⟩
  refine ⟨_, rfl, ?_⟩
  refine lcT (fun c => if decide (c ∉ M1) = true then some c else none) CrAt (i0 := 4) rfl eg5 hk5 (by omega) (fun H1 H2 y b k h => h.tk k) ?_ ?_
  · intro od c b H6 Kt Kf kt kf hc hb bu eg6 k56
    have f1g : f1 ≠ g := ne_of_none (s4 _ _ eg) nf1 |>.symm
    have hmem := dk_isSome (F := fun v _ => ∃ i : Int, v = .int i) pf1 c
    refine ⟨rfl, _, rfl, _, rfl, f1, _, rfl, dget_at (.inl (bu _ _ f1g ef1)) hb, _, rfl, ?_⟩
    rw [hmem]
    have e : (!decide (c ∈ M1)) = decide (c ∉ M1) := by simp
    rw [e]
    refine ite2 (fun z => ⟨_, rfl, ?_⟩) (fun z => ?_)
    · exact kt _ _ c (Same.refl _) (by rw [if_pos z]) ⟨b, rfl, hb⟩
    · exact kf _ (Same.refl _) (by rw [if_neg z])
  intro H6 D2 acc2 s6 nD2 eD2 p2
  rw [fm_filter] at p2
  generalize hG2 : L.filter (fun c => decide (c ∉ M1)) = G2 at p2
  have mG2 : ∀ c, c ∈ G2 ↔ c ∈ L ∧ ¬ wrong r W c := fun c => by
    rw [← hG2, List.mem_filter, decide_eq_true_iff, mM1' c]
    constructor
    · rintro ⟨h1, h2⟩; exact ⟨h1, fun z => h2 ⟨h1, z⟩⟩
    · rintro ⟨h1, h2⟩; exact ⟨h1, fun z => h2 z.2⟩
  have nG2 : G2.Nodup := by rw [← hG2]; exact gr.nd.filter _
  refine ⟨succ r, g, D2, L, G2, acc2, rfl, hg5.tk s6, gr.nd, gr.cl, by omega, succ_len z.ok, eD2, p2, nG2, fun c hc => ((mG2 c).mp hc).1, fun H7 f2 kf2 M2 s7 nf2 ef2 pf2 nM2 mM2 => ?_⟩
  refine ⟨_, rfl, _, rfl, _, rfl, by show 3 ≤ sizeLine; decide, fun t nt => ?_⟩
  have s8 := same_new (o := .tup [.ref g, .ref f1, .ref f2]) nt
  refine k _ t g f1 f2 L M1 M2 (((((s03.trans s4).trans s5).trans s6).trans s7).trans s8) upd_same (((hg5.tk s6).tk s7).tk s8) ⟨kf1, s8 _ _ (s7 _ _ (s6 _ _ ef1)), pf1⟩ ⟨kf2, s8 _ _ ef2, pf2⟩ ⟨gr, nM1, nM2, mM1', fun c => ?_⟩
  rw [mM2 c]
  constructor
  · rintro ⟨h1, d, h2, h3⟩; exact ⟨h1, d, h3, ((mG2 d).mp h2).2⟩
  · rintro ⟨h1, d, h2, h3⟩; exact ⟨h1, d, (mG2 d).mpr ⟨(gr.mem d).mpr (((gr.mem c).mp h1).trans h2), h3⟩, h2⟩
end
end Pb
set_option Elab.async false
set_option linter.all false
set_option maxRecDepth 100000
set_option maxHeartbeats 4000000
namespace Pb
open PySem PySem.Spec PyProof.Rows L2
open C8 (Cal pe_c)
section
variable {P : Program} {w : World} {K : PySem.W.Frag} {mg : Str → Option Value} {base : Heap}
def ansP (r : Rl) (z : W3) (c0 : Cr) : Prop := ∀ c, Reach (succ r) c0 c → ∃ d, Reach (succ r) c d ∧ ¬ wrong r z d
theorem Gone.len {r : Rl} {z : W3} {c0 : Cr} {L M1 M2 : List Cr} (g : Gone r z c0 L M1 M2) : M2.length = L.length ↔ ansP r z c0 := by
  constructor
  · intro e c hc
    have hcL := (g.gr.mem c).mpr hc
    refine Classical.byContradiction fun hn => ?_
    have hcM : c ∉ M2 := fun h => hn ((g.m2 c).mp h).2
    have := nodup_len (l := c :: M2) (m := L) (List.nodup_cons.mpr ⟨hcM, g.n2⟩) fun x hx => by
      rcases List.mem_cons.mp hx with rfl | hx
      · exact hcL
      · exact ((g.m2 x).mp hx).1
    have : M2.length + 1 ≤ L.length := this
    omega
  · intro h
    have h1 := nodup_len g.n2 fun x hx => ((g.m2 x).mp hx).1
    have h2 := nodup_len g.gr.nd fun x hx => (g.m2 x).mpr ⟨hx, h x ((g.gr.mem x).mp hx)⟩
    omega
/-! ### answers -/
theorem sc_answers : FnScope ["rule", "question", "counts", "limit", "graph", "to_wrong", "to_settled"] ["rule", "question", "counts", "limit"] (defScope s_answers) := ⟨rfl, rfl, rfl, by decide +kernel, rfl, by decide +kernel, by decide +kernel⟩
def spAns : Sp := fun vs H Q _ => ∃ (r : Rl) (u vq vc : V) (q : Qn) (cs : List Int) (h : Nat), vs = [u, vq, vc, .int 1000] ∧ Qs H r u vq vc q cs h ∧
  ∀ H' b, Same H H' → (b = true ↔ ansP r (W3.of (holdsM cs q)) (begM r cs)) → Q (.bl b) H'
theorem ok_answers (T : Tx mg) (D : DefAt K mg "answers" s_answers [.int 1000]) (C1 : Cal P w K mg base 7 "gone_through" spGone []) : Cal P w K mg base 8 "answers" spAns [.int 1000] := by
  refine cal1 (n := 3) D sc_answers rfl (fun T kV doc pm an cdv ct us its h1 h2 => match us, its, h1, h2 with | [_, _, _], [_], _, _ => ⟨_, rfl, rfl⟩) (fun vs H Q E ⟨_, _, _, _, _, _, _, e, _⟩ => by rw [e]; rfl) fun f cdv A outer s H0 vs Q E hr h => ?_
  obtain ⟨r, u, vq, vc, q, cs, h, rfl, z, k⟩ := h
  refine ⟨_, (pss_cons (ps_asg (pe_c C1 hr (by omega) rfl (pa_cons (pv 0) (pa_cons (pv 1) (pa_cons (pv 2) (pa_cons (pv 3) pa_nil))))) (pg_tup rfl (pgs_cons (pg_name (i := 4) sc_answers.nd rfl (.inl rfl)) (pgs_cons (pg_name (i := 5) sc_answers.nd rfl (.inl rfl)) (pgs_cons (pg_name (i := 6) sc_answers.nd rfl (.inl rfl)) pgs_nil)))))
    (pss_one (ps_ret (pe_cmpR op_eq (pe_callB call_len_dT (by rfl) T.len boot_len (pa_cons (pv 6) pa_nil)) (pe_callB call_len_dT (by rfl) T.len boot_len (pa_cons (pv 4) pa_nil)) (nomark _))))), ?_⟩
  refine ⟨_, rfl, _, rfl, _, rfl, _, rfl, r, u, vq, vc, q, cs, h, rfl, z, fun H1 t g f1 f2 L M1 M2 s1 et ⟨kvs, eg, pg⟩ ⟨k1, e1, p1⟩ ⟨k2, e2, p2⟩ gn => ?_⟩
  refine ⟨t, _, rfl, SqT.of et, rfl, _, _, rfl, _, _, rfl, _, _, rfl, rfl, ?_⟩
  refine ⟨_, rfl, f2, k2, rfl, e2, _, rfl, g, kvs, rfl, eg, rfl, ?_⟩
  refine k H1 _ s1 ?_
  rw [← gn.len, Paired.length p2, Paired.length pg, decide_eq_true_iff]
  constructor
  · intro e; have := V.int.inj e; omega
  · intro e; rw [e]
/-! ### err_at -/
theorem sc_err_at : FnScope ["rule", "question", "counts", "limit", "graph", "to_wrong", "to_settled", "lost", "begin", "numbers", "crowd", "ranks", "one"] ["rule", "question", "counts", "limit"] (defScope s_err_at) := ⟨rfl, rfl, rfl, by decide +kernel, rfl, by decide +kernel, by decide +kernel⟩
def spErr : Sp := fun vs H Q _ => ∃ (r : Rl) (u vq vc : V) (q : Qn) (cs : List Int) (h : Nat), vs = [u, vq, vc, .int 1000] ∧ Qs H r u vq vc q cs h ∧
  ∀ H' v, Same H H' → (v = .non ↔ ansP r (W3.of (holdsM cs q)) (begM r cs)) → Q v H'
theorem ok_err_at (T : Tx mg) (D : DefAt K mg "err_at" s_err_at [.int 1000]) (C1 : Cal P w K mg base 7 "gone_through" spGone []) (C2 : Cal P w K mg base 1 "row_to" spRow []) (C3 : Cal P w K mg base 4 "graph_of" spGraph []) : Cal P w K mg base 8 "err_at" spErr [.int 1000] := by
  refine cal1 (n := 3) D sc_err_at rfl (fun T kV doc pm an cdv ct us its h1 h2 => match us, its, h1, h2 with | [_, _, _], [_], _, _ => ⟨_, rfl, rfl⟩) (fun vs H Q E ⟨_, _, _, _, _, _, _, e, _⟩ => by rw [e]; rfl) fun f cdv A outer s H0 vs Q E hr h => ?_
  obtain ⟨r, u, vq, vc, q, cs, h, rfl, z, k⟩ := h
  have hu := hu_of hr
  have hu64 := hu64_of hr
  refine ⟨_, (pss_cons (ps_asg (pe_c C1 hr (by omega) rfl (pa_cons (pv 0) (pa_cons (pv 1) (pa_cons (pv 2) (pa_cons (pv 3) pa_nil))))) (pg_tup rfl (pgs_cons (pg_name (i := 4) sc_err_at.nd rfl (.inl rfl)) (pgs_cons (pg_name (i := 5) sc_err_at.nd rfl (.inr rfl)) (pgs_cons (pg_name (i := 6) sc_err_at.nd rfl (.inr rfl)) pgs_nil)))))
    (pss_cons (ps_if (pt_cmpR op_eq (pe_callB call_len_dT (by rfl) T.len boot_len (pa_cons (pv 6) pa_nil)) (pe_callB call_len_dT (by rfl) T.len boot_len (pa_cons (pv 4) pa_nil)) (nomark _))
      (pss_one (ps_ret pe_non)) pss_nil)
    (pss_cons (ps_set (i := 7) sc_err_at.nd rfl (.inl rfl) (pe_callTy (call_dictPTn rfl hu64) (by rfl) T.dict boot_dict (pa_cons (pe_lock (pe_lc (own := [("crowd", 10)]) (g := (gName 10)) (tt := (tB (tDNotIn (tVar 10) (tVar 6)))) (te := (tTup (tCons (tVar 10) (tCons (tC (.bl true)) tNil)))) rfl sc_err_at.nd (pi_keys (pv 4)) (blkOk_by (N := ["rule", "question", "counts", "limit", "graph", "to_wrong", "to_settled", "lost", "begin", "numbers", "crowd", "ranks", "one"]) (sc := defScope s_err_at) (by decide +kernel)) (fun _ _ _ _ _ => (pg_name (i := 10) sc_err_at.nd rfl (.inl rfl))) (fun _ _ _ _ _ => (pts_one (pt_cmp (pc_dnotin hu (pv 10) (pv 6))))) (fun _ _ _ _ _ => (pe_tup (pa_cons (pv 10) (pa_cons pe_bl pa_nil)))))) pa_nil)))
    (pss_cons (ps_set (i := 8) sc_err_at.nd rfl (.inl rfl) (pe_ix ix_list (pe_callTy (call_list_dT rfl) (by rfl) T.list boot_list (pa_cons (pv 4) pa_nil)) pe_int (fun _ _ => rfl)))
    (pss_cons (ps_asg (pe_c C2 hr (by omega) rfl (pa_cons (pv 4) (pa_cons (pv 8) (pa_cons (pv 7) pa_nil)))) (pg_tup rfl (pgs_cons (pg_name (i := 9) sc_err_at.nd rfl (.inl rfl)) (pgs_cons (pg_name (i := 10) sc_err_at.nd rfl (.inl rfl)) pgs_nil))))
    (pss_cons (ps_setLc (i := 11) (own := [("one", 12)]) (g := (gName 12)) (tt := tYes) (te := (tTup (tCons (tVar 12) (tCons (tDGet (tVar 5) (tVar 12)) tNil)))) rfl sc_err_at.nd rfl rfl (sw_true rfl rfl rfl (by decide +kernel)) (pi_list (pe_callB (cr_sortKT rfl hu64) (by rfl) T.sorted boot_sorted (pa_cons (pe_c C3 hr (by omega) rfl (pa_cons (pv 0) (pa_cons (pv 10) (pa_cons (pv 3) pa_nil)))) pa_nil))) (blkOk_by (N := ["rule", "question", "counts", "limit", "graph", "to_wrong", "to_settled", "lost", "begin", "numbers", "crowd", "ranks", "one"]) (sc := defScope s_err_at) (by decide +kernel)) (fun _ _ _ _ _ => (pg_name (i := 12) sc_err_at.nd rfl (.inl rfl))) (fun _ _ _ _ _ => pts_nil) (fun _ _ _ _ _ => (pe_tup (pa_cons (pv 12) (pa_cons (pe_dget hu (pv 5) (pv 12) (fun _ _ => rfl)) pa_nil)))))
    (pss_one (ps_ret (pe_tup (pa_cons (pv 2) (pa_cons (pe_callTy call_tuple_of (by rfl) T.tuple boot_tuple (pa_cons (pv 9) pa_nil)) (pa_cons (pe_callTy call_tuple_of (by rfl) T.tuple boot_tuple (pa_cons (pv 11) pa_nil)) pa_nil)))))))))))), ?_⟩
  refine ⟨_, rfl, _, rfl, _, rfl, _, rfl, r, u, vq, vc, q, cs, h, rfl, z, fun H1 t g f1 f2 L M1 M2 s1 et hg ⟨k1, e1, p1⟩ ⟨k2, e2, p2⟩ gn => ?_⟩
  obtain ⟨kvs, eg, pg⟩ := id hg
  have hLl := gn.gr.len z.ok z.h4 z.co
  refine ⟨t, _, rfl, SqT.of et, rfl, _, _, rfl, _, _, rfl, _, _, rfl, rfl, ?_⟩
  refine ⟨_, rfl, f2, k2, rfl, e2, _, rfl, g, kvs, rfl, eg, rfl, _, rfl, ?_⟩
  by_cases ha : M2.length = L.length
  · have hd : decide (V.int (k2.length : Nat) = V.int (kvs.length : Nat)) = true := by rw [Paired.length p2, Paired.length pg, ha]; simp
    refine ite2 (fun _ => k H1 _ s1 ⟨fun _ => gn.len.mp ha, fun _ => rfl⟩) (fun z => absurd hd z)
  have na : ¬ ansP r (W3.of (holdsM cs q)) (begM r cs) := fun z => ha (gn.len.mpr z)
  refine ite2 (fun z => absurd (by have := V.int.inj (of_decide_eq_true z); rw [Paired.length p2, Paired.length pg] at this; omega) ha) (fun _ => ?_)
  have hk := keys_ck (F := fun v c => LsAt H1 v (succ r c)) pg
  refine lcT (fun c => if decide (c ∉ M2) = true then some c else none) (PvAt (.bl true)) (i0 := 4) rfl eg hk (by omega) (fun H1 H2 y b k h => h.tk k) ?_ ?_
  · intro od c b H6 Kt Kf kt kf hc hb bu eg6 k56
    have hmem := dk_isSome (F := fun v _ => ∃ i : Int, v = .int i) p2 c
    have f2g : f2 ≠ g := fun z => by
      rw [z, eg] at e2
      cases e2
      obtain ⟨v, hv, l, vs, rfl, _⟩ := dk_some (F := fun v c => LsAt H1 v (succ r c)) pg hc
      have hcM := (dk_isSome (F := fun v _ => ∃ i : Int, v = .int i) p2 c)
      rw [hv] at hcM
      have hcM : c ∈ M2 := of_decide_eq_true hcM.symm
      obtain ⟨v2, hv2, i2, rfl⟩ := dk_some (F := fun v _ => ∃ i : Int, v = .int i) p2 hcM
      rw [hv] at hv2
      cases hv2
    refine ⟨rfl, _, rfl, _, rfl, f2, _, rfl, dget_at (.inl (bu _ _ f2g e2)) hb, _, rfl, ?_⟩
    rw [hmem]
    have e : (!decide (c ∈ M2)) = decide (c ∉ M2) := by simp
    rw [e]
    refine ite2 (fun z => ⟨_, rfl, by show 2 ≤ sizeLine; decide, fun p np => ?_⟩) (fun z => ?_)
    · exact kt _ _ c (same_new np) (by rw [if_pos z]) ⟨p, b, rfl, upd_same, at_ne hb (ne_of_none hb np)⟩
    · exact kf _ (Same.refl _) (by rw [if_neg z])
  intro H2 D1 acc1 s2 nD1 eD1 pp
  rw [fm_filter] at pp
  generalize hG : L.filter (fun c => decide (c ∉ M2)) = G at pp
  have mG : ∀ c, c ∈ G ↔ c ∈ L ∧ c ∉ M2 := fun c => by rw [← hG, List.mem_filter]; simp
  have nG : G.Nodup := by rw [← hG]; exact gn.gr.nd.filter _
  refine dict_const (K := K) eD1 pp fun fd nfd => ?_
  rw [merge_const nG]
  have s3 := same_new (o := .dT (G.map fun c => (ck c, V.bl true))) nfd
  generalize hH3 : upd H2 fd (.dT (G.map fun c => (ck c, V.bl true))) = H3 at s3
  have efd : H3 fd = some (.dT (G.map fun c => (ck c, V.bl true))) := by rw [← hH3]; exact upd_same
  clear hH3
  have s13 := s2.trans s3
  have hg3 := hg.tk s13
  -- begin = list(graph)[0]
  refine ⟨_, rfl, g, kvs, rfl, .inl (s13 _ _ eg), fun bl bs nbl hbs => ?_⟩
  obtain ⟨R0, hR0⟩ := gn.gr.hd
  generalize hc0 : begM r cs = c0 at *
  have hkc : kvs.map (·.1) = L.map ck := hk
  obtain ⟨kv0, kvr, hkv⟩ : ∃ kv0 kvr, kvs = kv0 :: kvr := by
    cases kvs with
    | nil => rw [hR0] at hkc; cases hkc
    | cons a b => exact ⟨a, b, rfl⟩
  obtain ⟨b0, hb0, hb1⟩ : ∃ b0, (bs.map V.ref)[0]? = some (.ref b0) ∧ H3 b0 = some (.tup (c0.map V.int)) := by
    unfold IsKeys at hbs
    rw [hkv] at hbs
    cases hbs with
    | cons hf ht =>
      refine ⟨_, rfl, ?_⟩
      rw [hf]
      rw [hkv, hR0, List.map_cons, List.map_cons] at hkc
      have : kv0.1 = ck c0 := (List.cons.inj hkc).1
      rw [this, ck_kV]
  have s4 := same_new (o := .lst (bs.map V.ref)) nbl
  refine ⟨bl, _, _, _, rfl, rfl, SqL.of upd_same, atI_nat (j := 0) hb0, ?_⟩
  obtain ⟨cw, hcw, hcw2⟩ : ∃ c ∈ L, c ∉ M2 := Classical.byContradiction fun hn => ha (Nat.le_antisymm (nodup_len gn.n2 fun x hx => ((gn.m2 x).mp hx).1) (nodup_len gn.gr.nd fun x hx => Classical.byContradiction fun h => hn ⟨x, hx, h⟩))
  refine ⟨_, rfl, _, rfl, _, rfl, succ r, g, fd, .ref b0, c0, L, G, rfl, (hg3.tk s4).at, gn.gr.cl, by omega, ⟨b0, rfl, s4 _ _ hb1⟩, by rw [hR0]; exact List.mem_cons_self .., ⟨_, .inl (s4 _ _ efd), (keys_const G).mono fun kv c h => ⟨h.1, trivial⟩⟩,
    ⟨cw, (mG cw).mpr ⟨hcw, hcw2⟩, (gn.gr.mem cw).mp hcw⟩, fun H5 t5 l5 z5 ns d s5 et5 nl5 el5 hz5 hd5 wk5 _ => ?_⟩
  refine ⟨t5, _, rfl, SqT.of et5, rfl, _, _, rfl, _, _, rfl, rfl, ?_⟩
  have s15 := (s13.trans s4).trans s5
  have hdL := ((mG d).mp hd5)
  have hdr := (gn.gr.mem d).mp hdL.1
  have hdo : CrOk r h d := reach_ok z.ok (by rw [← hc0]; exact z.co) hdr
  refine ⟨_, rfl, _, rfl, _, rfl, r, u, z5, d, h, rfl, (z.rl.tk (Tk.same (s1.trans s15))), z.ok, hz5, hdo, z.h4, fun H6 g6 L6 s6 n6 ⟨kv6, eg6, pg6⟩ gr6 => ?_⟩
  have hL6 := gr6.len z.ok z.h4 hdo
  refine ⟨g6, kv6, L6, rfl, .inl eg6, keys_ck (F := fun v c => LsAt H6 v (succ r c)) pg6, fun c hc e => ?_, fun p bs np hb1 hb2 => ?_⟩
  · have o := reach_ok z.ok hdo ((gr6.mem c).mp hc)
    rw [e] at o
    have o2 := o.len
    have o3 := z.ok.r1
    simp at o2
    omega
  have ps := srt_crs hb1 hb2
  generalize (srt bs).map (·.1) = ss at ps
  have s7 := same_new (o := .lst ss) np
  refine ⟨p, rfl, ⟨_, SqL.of upd_same⟩, fun D7 nD7 => ?_⟩
  have s16 := s15.trans s6
  refine lc_same (walk_list (K := K) (a := p) (xs := ss)) (srtC L6) some (fun _ _ _ => True) (Paired.length ps) (by rw [Paired.length ps, srtC_len]; exact small1000 (by omega)) nD7 (fun H1 s => SqL.of (s _ _ upd_same))
    (fun _ _ _ _ _ _ _ _ h => h) ?_ (fun H8 acc s8 e8 p8 => ?_)
  · intro i c x H8 H9 Kt Kf kt kf hp s8 _ hy
    obtain ⟨rfl, hx⟩ := hy
    obtain ⟨x', hx', b, rfl, hb⟩ := Paired.getR ps hp
    obtain rfl : x = .ref b := Option.some.inj (hx.symm.trans hx')
    have hc6 := (gr6.mem c).mp (mem_srtC.mp (List.mem_of_getElem? hp))
    have hcM : c ∈ M1 := (gn.m1 c).mpr ⟨(gn.gr.mem c).mpr (hdr.trans hc6), Classical.byContradiction fun hn => hdL.2 ((gn.m2 d).mpr ⟨hdL.1, c, hc6, hn⟩)⟩
    obtain ⟨v2, hv2, i2, rfl⟩ := dk_some (F := fun v _ => ∃ i : Int, v = .int i) p1 hcM
    refine ⟨rfl, iteT (B := Kf H9) ⟨_, rfl, _, rfl, _, rfl, f1, .int i2, rfl, by rw [← hv2]; exact dget_at (.inl (s8 _ _ (s7 _ _ (s16 _ _ e1)))) (s8 _ _ (s7 _ _ hb)), ?_⟩⟩
    exact ⟨by show 2 ≤ sizeLine; decide, fun q nq => kt _ _ c (same_new nq) rfl trivial⟩
  · refine ⟨_, rfl, _, rfl, l5, _, rfl, .inl ⟨SqL.of (s8 _ _ (s7 _ _ (s6 _ _ el5))), fun t8 nt8 => ?_⟩⟩
    have s9 := same_new (o := .tup (ns.map V.int)) nt8
    refine ⟨_, rfl, D7, _, rfl, .inl ⟨SqL.of (s9 _ _ e8), fun t9 nt9 => ?_⟩⟩
    refine ⟨by show 3 ≤ sizeLine; decide, fun t10 nt10 => ?_⟩
    refine k _ _ (s1.trans ((((s16.trans s7).trans s8).trans s9).trans ((same_new nt9).trans (same_new nt10)))) ⟨(fun h => by cases h), fun h => absurd h na⟩
end
end Pb
set_option Elab.async false
set_option linter.all false
set_option maxRecDepth 100000
set_option maxHeartbeats 4000000
namespace Pb
open PySem PySem.Spec PyProof.Rows L2
open C8 (Cal pe_c)
section
variable {P : Program} {w : World} {K : PySem.W.Frag} {mg : Str → Option Value} {base : Heap}
/-! ### == of crowds -/
theorem eqvAll_ints : ∀ a b : List Int, PyData.eqvAll (a.map PyData.int) (b.map PyData.int) = decide (a = b)
  | [], [] => by simp [PyData.eqvAll]
  | [], _ :: _ => by simp [PyData.eqvAll]
  | _ :: _, [] => by simp [PyData.eqvAll]
  | n :: r, k :: q => by
    simp only [List.map_cons, PyData.eqvAll, PyData.eqv, eqvAll_ints r q]
    by_cases h : n = k <;> simp [h]
theorem eqv_cd (a b : Cr) : PyData.eqv (cd a) (cd b) = decide (a = b) := by
  unfold cd
  rw [← eqvAll_ints a b]
  simp only [PyData.eqv]
theorem shaped_cd (c : Cr) : SeqAt.shaped (cd c) = true := by
  have h1 := PySem.W.depthAll_ints c
  have h2 : PyData.depth (.tuple (c.map PyData.int)) ≤ 64 := by simp only [PyData.depth]; omega
  show (PyData.canLay0 (.tuple (c.map PyData.int)) && decide (PyData.depth (.tuple (c.map PyData.int)) ≤ 64)) = true
  rw [Bool.and_eq_true]
  exact ⟨by simp only [PyData.canLay0]; exact PySem.W.canLayAll0_ints c, decide_eq_true h2⟩
theorem flat_ints (ws : List Int) : (ws.map V.int).all flatV = true := by
  induction ws with
  | nil => rfl
  | cons b ws ih => rw [List.map_cons, List.all_cons, ih]; rfl
theorem in_ints (i : Int) (ws : List Int) : inV (.int i) (ws.map V.int) = decide (i ∈ ws) := by
  unfold inV
  induction ws with
  | nil => rfl
  | cons a ws ih =>
    rw [List.map_cons, List.any_cons, ih]
    show ((a == i) || decide (i ∈ ws)) = decide (i ∈ a :: ws)
    by_cases e : a = i
    · subst e; simp
    · have e2 : ¬ i = a := fun z => e z.symm
      simp [e, e2]
/-! ### a walk and the crowds that it passes -/
def WalkP (S : Cr → List (Int × Cr)) : Cr → List Int → List Cr → Prop
  | _, [], [] => True
  | c, n :: ns, d :: ps => (n, d) ∈ S c ∧ WalkP S d ns ps
  | _, _, _ => False
theorem WalkS.passed {S : Cr → List (Int × Cr)} : ∀ {ns : List Int} {c d : Cr}, WalkS S c ns d → ∃ ps, WalkP S c ns ps ∧ (c :: ps).getLast? = some d
  | [], c, d, h => ⟨[], trivial, by rw [show c = d from h]; rfl⟩
  | n :: ns, c, d, ⟨x, h1, h2⟩ => by
    obtain ⟨ps, h3, h4⟩ := h2.passed
    exact ⟨x :: ps, ⟨h1, h3⟩, by rw [List.getLast?_cons_cons]; exact h4⟩
theorem WalkP.len {S : Cr → List (Int × Cr)} : ∀ {ns : List Int} {c : Cr} {ps : List Cr}, WalkP S c ns ps → ps.length = ns.length
  | [], _, [], _ => rfl
  | _ :: _, _, _ :: _, ⟨_, h⟩ => by rw [List.length_cons, List.length_cons, h.len]
theorem WalkP.at {S : Cr → List (Int × Cr)} : ∀ {ns : List Int} {c : Cr} {ps : List Cr} {i : Nat} {n : Int}, WalkP S c ns ps → ns[i]? = some n → ∃ x d, (c :: ps)[i]? = some x ∧ ps[i]? = some d ∧ (n, d) ∈ S x
  | _ :: _, _, _ :: _, 0, _, ⟨h, _⟩, e => by cases e; exact ⟨_, _, rfl, rfl, h⟩
  | _ :: _, _, _ :: _, i + 1, n, ⟨_, h⟩, e => by
    obtain ⟨x, d, h1, h2, h3⟩ := h.at (i := i) (n := n) (by simpa using e)
    exact ⟨x, d, by simpa using h1, by simpa using h2, h3⟩
theorem WalkP.app {S : Cr → List (Int × Cr)} : ∀ {ns ms : List Int} {c d : Cr} {ps qs : List Cr}, WalkP S c ns ps → (c :: ps).getLast? = some d → WalkP S d ms qs → WalkP S c (ns ++ ms) (ps ++ qs)
  | [], _, c, d, [], _, _, e, h => by cases e; exact h
  | n :: ns, _, _, _, x :: ps, _, ⟨h1, h2⟩, e, h => ⟨h1, h2.app (by rw [List.getLast?_cons_cons] at e; exact e) h⟩
theorem WalkP.reach {S : Cr → List (Int × Cr)} : ∀ {ns : List Int} {c : Cr} {ps : List Cr}, WalkP S c ns ps → ∀ x ∈ c :: ps, Reach S c x
  | [], c, [], _, x, hx => by rw [List.mem_singleton.mp hx]; exact .refl _
  | n :: ns, c, d :: ps, ⟨h1, h2⟩, x, hx => by
    rcases List.mem_cons.mp hx with rfl | hx
    · exact .refl _
    · exact Reach.head ⟨n, h1⟩ (h2.reach x hx)
theorem last_snoc {α : Type} {l : List α} {d : α} (h : l.getLast? = some d) : ∃ i, l = i ++ [d] := by
  refine ⟨l.dropLast, ?_⟩
  have hne : l ≠ [] := fun z => by rw [z] at h; cases h
  rw [List.getLast?_eq_some_getLast hne] at h
  rw [← Option.some.inj h, List.dropLast_concat_getLast hne]
/-! ### is_number -/
theorem sc_is_number : FnScope ["thing"] ["thing"] (defScope s_is_number) := ⟨rfl, rfl, rfl, by decide +kernel, rfl, by decide +kernel, by decide +kernel⟩
def spNum : Sp := fun vs H Q _ => ∃ i : Int, vs = [.int i] ∧ 0 ≤ i ∧ Q (.bl true) H
theorem ok_is_number (T : Tx mg) (D : DefAt K mg "is_number" s_is_number []) : Cal P w K mg base 1 "is_number" spNum [] := by
  refine cal0 D sc_is_number (fun _ _ _ _ _ _ us hl => match us, hl with | [_], _ => rfl) (fun vs H Q E ⟨i, e, _⟩ => by rw [e]; rfl) fun f cdv A outer s H vs Q E hr h => ?_
  obtain ⟨i, rfl, h0, q⟩ := h
  refine ⟨_, (pss_one (ps_ret (pe_and (pe_callB call_isi (by rfl) T.isinstance boot_isinstance (pa_cons (pv 0) (pa_cons (pe_bltn (v := .ty "int") (by rfl) T.int (by decide +kernel) rfl) pa_nil))) (pe_and (pe_not (pe_callB call_isi (by rfl) T.isinstance boot_isinstance (pa_cons (pv 0) (pa_cons (pe_bltn (v := .ty "bool") (by rfl) T.bool (by decide +kernel) rfl) pa_nil)))) (pe_one (pe_cmpR op_ge (pv 0) pe_int (nomark _))))))), ?_⟩
  refine ⟨_, rfl, _, _, _, _, _, rfl, .ty _, .base (.int i), kit_ty (by decide +kernel), _, rfl, ite2 (fun _ => ?_) (fun z => absurd rfl z)⟩
  refine ⟨_, rfl, _, _, _, _, false, rfl, .ty _, .base (.int i), kit_ty (by decide +kernel), _, rfl, _, rfl, ite2 (fun _ => ?_) (fun z => absurd rfl z)⟩
  refine ⟨_, rfl, _, _, rfl, rfl, ?_⟩
  show Q (.bl (decide (0 ≤ i))) H
  rw [decide_eq_true h0]
  exact q
/-! ### passed_along -/
theorem sc_passed_along : FnScope ["rule", "crowd", "numbers", "word", "found", "place", "number"] ["rule", "crowd", "numbers", "word"] (defScope s_passed_along) := ⟨rfl, rfl, rfl, by decide +kernel, rfl, by decide +kernel, by decide +kernel⟩
def spPassed : Sp := fun vs H Q _ => ∃ (r : Rl) (u v : V) (nt : Addr) (z : V) (c : Cr) (h : Nat) (ns : List Int) (ps : List Cr), vs = [u, v, .ref nt, z] ∧ RlAt H u r ∧ RlOk r ∧ CrAt H v c ∧ CrOk r h c ∧ H nt = some (.tup (ns.map V.int)) ∧ WalkP (succ r) c ns ps ∧ ns.length ≤ 100000 ∧
  ∀ H' l vs, Same H H' → H l = none → H' l = some (.lst vs) → Paired (CrAt H') vs (c :: ps) → Q (.ref l) H'
theorem ok_passed_along (T : Tx mg) (D : DefAt K mg "passed_along" s_passed_along []) (C1 : Cal P w K mg base 1 "is_number" spNum []) (C2 : Cal P w K mg base 2 "can" spCan []) (C3 : Cal P w K mg base 3 "met" spMet []) : Cal P w K mg base 4 "passed_along" spPassed [] := by
  refine cal0 D sc_passed_along (fun _ _ _ _ _ _ us hl => match us, hl with | [_, _, _, _], _ => rfl) (fun vs H Q E ⟨_, _, _, _, _, _, _, _, _, e, _⟩ => by rw [e]; rfl) fun f cdv A outer s H0 vs Q E hr h => ?_
  obtain ⟨r, u, v, nt, z, c, h, ns, ps, rfl, hR, ho, hv, hc, hn, wk, hlen, q⟩ := h
  refine ⟨_, (pss_cons (ps_set (i := 4) sc_passed_along.nd rfl (.inl rfl) (pe_lst (pa_cons (pv 1) pa_nil)))
    (pss_cons (ps_for PassesOwn.never rfl (pi_enumT (by rfl) T.enumerate (pa_cons (pv 2) pa_nil)) (pg_tup rfl (pgs_cons (pg_name (i := 5) sc_passed_along.nd rfl (.inl rfl)) (pgs_cons (pg_name (i := 6) sc_passed_along.nd rfl (.inl rfl)) pgs_nil)))
      (pss_cons (ps_if (PW.pt (pw_or (pt_not (pt_val (pe_c C1 hr (by omega) rfl (pa_cons (pv 6) pa_nil)))) (pw_or1 (pt_cmpR op_notIn_seq (pv 6) (pe_c C2 hr (by omega) rfl (pa_cons (pv 0) (pa_cons (pe_ix ix_list (pv 4) (pe_un un_neg pe_int) (fun _ _ => rfl)) pa_nil))) (by rfl)))))
        (pss_one ps_never) pss_nil)
      (pss_one (ps_expr (pe_bm PySem.F.plainAttrs_list PySem.F.slot_list_append PySem.F.type_list_append mt_append (pv 4) (pa_cons (pe_c C3 hr (by omega) rfl (pa_cons (pv 0) (pa_cons (pe_ix ix_list (pv 4) (pe_un un_neg pe_int) (fun _ _ => rfl)) (pa_cons (pv 6) pa_nil)))) pa_nil))))))
    (pss_one (ps_ret (pv 4))))), ?_⟩
  refine ⟨_, rfl, by show 1 ≤ sizeLine; decide, fun l nl => ?_⟩
  have s0 := same_new (o := .lst [v]) nl
  refine ⟨_, rfl, nt, _, rfl, SqT.of (s0 _ _ hn), ?_⟩
  have hok : ∀ x ∈ c :: ps, CrOk r h x := fun x hx => reach_ok ho hc (wk.reach x hx)
  refine for_it (walk_enumT (xs := ns.map V.int)) (fun i σ H' => ∃ y5 y6 vs, σ = [some u, some v, some (.ref nt), some z, some (.ref l), y5, y6] ∧ Same H0 H' ∧ H' l = some (.lst vs) ∧ Paired (CrAt H') vs ((c :: ps).take (i + 1)))
    ⟨none, none, [v], rfl, s0, upd_same, .cons (hv.tk (Tk.same s0)) .nil⟩ (fun i σ H' _ ⟨_, _, _, _, h, _⟩ => SqT.of (h _ _ hn)) ?_ ?_
  · rintro i x σ H1 H2 hi ⟨y5, y6, vs, rfl, s1, el, pl⟩ ⟨t, x1, x2, rfl, nT, rfl, e1, e2⟩
    cases e1
    have e2 : (_ : List V)[i]? = some x2 := e2
    rw [List.getElem?_map] at e2
    obtain ⟨n, hn, rfl⟩ := Option.map_eq_some_iff.mp e2
    obtain ⟨x, d, hx, hd, hm⟩ := wk.at hn
    obtain ⟨j, mt, q1, q2, q3, q4⟩ := succ_num hm
    have hil := (List.getElem?_eq_some_iff.mp hn).1
    have sT : Same H1 (upd H1 t (.tup [.int (i : Nat), .int n])) := same_new nT
    generalize hH2 : upd H1 t (.tup [.int (i : Nat), .int n]) = H2 at sT
    have s2 := s1.trans sT
    have et : H2 t = some (.tup [.int (i : Nat), .int n]) := by rw [← hH2]; exact upd_same
    have etk : (c :: ps).take (i + 1) = (c :: ps).take i ++ [x] := by rw [List.take_add_one, hx]; rfl
    rw [etk] at pl
    obtain ⟨vs0, v0, rfl, pl0, hv0⟩ : ∃ vs0 v0, vs = vs0 ++ [v0] ∧ Paired (CrAt H1) vs0 ((c :: ps).take i) ∧ CrAt H1 v0 x := by
      have hl := Paired.length pl
      rw [List.length_append] at hl
      have hne : vs ≠ [] := fun z => by rw [z] at hl; simp at hl
      refine ⟨vs.dropLast, vs.getLast hne, (List.dropLast_concat_getLast hne).symm, ?_, ?_⟩
      · have h2 := pl
        rw [← List.dropLast_concat_getLast hne] at h2
        refine paired_of_get (by rw [List.length_dropLast, hl]; show _ + 1 - 1 = _; omega) fun k a b h3 h4 => ?_
        have h3' : vs[k]? = some a := by
          have hk := (List.getElem?_eq_some_iff.mp h3).1
          rw [← List.dropLast_concat_getLast hne, List.getElem?_append_left hk]; exact h3
        obtain ⟨b', hb', hf⟩ := paired_get pl h3'
        rw [List.getElem?_append_left (List.getElem?_eq_some_iff.mp h4).1, h4] at hb'
        cases hb'
        exact hf
      · have hg : vs[vs.length - 1]? = some (vs.getLast hne) := by rw [List.getLast_eq_getElem]; exact List.getElem?_eq_getElem _
        obtain ⟨b', hb', hf⟩ := paired_get pl hg
        rw [List.getElem?_append_right (by rw [hl]; show _ ≤ _ + 1 - 1; omega), hl] at hb'
        have : ((c :: ps).take i).length + [x].length - 1 - ((c :: ps).take i).length = 0 := by show _ + 1 - 1 - _ = 0; omega
        rw [this] at hb'
        cases hb'
        exact hf
    refine ⟨t, _, rfl, SqT.of et, rfl, _, _, rfl, _, _, rfl, rfl, ?_⟩
    have hxo := hok x (List.mem_of_getElem? hx)
    have hR2 := hR.tk (Tk.same s2)
    have elv := sT _ _ el
    have hn0 : 0 ≤ n := by have e : n = (j : Int) := q1; omega
    have elen := Paired.length pl0
    -- not is_number(number) or number not in can(rule, found[-1])
    refine ⟨_, rfl, n, rfl, hn0, _, rfl, ite2 (fun z => by cases z) (fun _ => ?_)⟩
    refine ⟨_, rfl, _, rfl, _, rfl, _, rfl, l, _, _, v0, rfl, rfl, SqL.of elv, atI_last _ _, r, u, v0, x, rfl, hR2, ho, hv0.tk (Tk.same sT), hxo.len, fun H3 l3 s3 n3 e3 => ?_⟩
    refine ⟨l3, _, rfl, .inl (SqL.of e3), rfl, flat_ints _, _, rfl, ?_⟩
    rw [in_ints, decide_eq_true (show n ∈ (succ r x).map (·.1) from List.mem_map.mpr ⟨_, hm, rfl⟩)]
    refine ite2 (fun z => by cases z) (fun _ => ?_)
    -- found.append(met(rule, found[-1], number))
    have el3 := s3 _ _ elv
    refine ⟨_, rfl, .inl ⟨rfl, _, SqL.of el3⟩, _, rfl, _, rfl, _, rfl, l, _, _, v0, rfl, rfl, SqL.of el3, atI_last _ _, _, rfl, r, u, v0, x, j, mt, by have e : n = (j : Int) := q1; rw [e]; rfl, hR2.tk (Tk.same s3), ho, (hv0.tk (Tk.same sT)).tk (Tk.same s3), hxo.len, q2, q3, fun H4 z4 s4 hz4 => ?_⟩
    have el4 := s4 _ _ el3
    have hil2 : vs0.length ≤ i := by rw [elen, List.length_take]; omega
    refine ⟨l, _, _, rfl, rfl, el4, ?_, ?_⟩
    · rw [List.length_append]
      have : vs0.length + [v0].length ≤ 100200 := by show _ + 1 ≤ _; omega
      exact Nat.lt_of_le_of_lt this (by decide)
    · have k4 : Tk H1 H4 := Tk.same ((sT.trans s3).trans s4)
      have k5 := k4.trans (Tk.mutL (o := .lst (vs0 ++ [v0] ++ [z4])) el4)
      refine ⟨_, _, vs0 ++ [v0] ++ [z4], rfl, same_put ((s2.trans s3).trans s4) nl, upd_same, ?_⟩
      have etk2 : (c :: ps).take (i + 1 + 1) = (c :: ps).take i ++ [x] ++ [d] := by
        rw [← etk, List.take_add_one (i := i + 1)]
        rw [show (c :: ps)[i + 1]? = some d by simpa using hd]
        rfl
      rw [etk2]
      refine (crs_tk k5 pl).snoc ?_
      have hz5 : CrAt H4 z4 d := by rw [show d = behind x mt from q4]; exact hz4
      exact hz5.tk (Tk.mutL (o := .lst (vs0 ++ [v0] ++ [z4])) el4)
  · rintro σ H1 ⟨y5, y6, vs, rfl, s1, el, pl⟩
    refine ⟨_, rfl, q H1 l vs s1 nl el ?_⟩
    rw [List.length_map, List.take_of_length_le (by rw [List.length_cons, wk.len]; omega)] at pl
    exact pl
end
end Pb
set_option Elab.async false
set_option linter.all false
set_option maxRecDepth 100000
set_option maxHeartbeats 4000000
namespace Pb
open PySem PySem.Spec PyProof.Rows L2
open C8 (Cal pe_c)
section
variable {P : Program} {w : World} {K : PySem.W.Frag} {mg : Str → Option Value} {base : Heap}
theorem merge_isSome {v0 : V} : ∀ (cs : List Cr) (kvs : List (List Key × V)) (d : Cr), (valV (mergeT kvs (cs.map fun c => (ck c, v0))) (ck d)).isSome = (decide (d ∈ cs) || (valV kvs (ck d)).isSome)
  | [], kvs, d => by rw [List.map_nil]; show (valV kvs (ck d)).isSome = _; simp
  | c :: cs, kvs, d => by
    rw [List.map_cons, mergeT_cons, merge_isSome cs, valV_put]
    by_cases e : d = c
    · subst e; simp
    · have : ¬ ck d = ck c := fun z => e (ck_inj z)
      rw [if_neg this]
      simp [e]
/-! ### ask_fair -/
theorem sc_ask_fair : FnScope ["rule", "passed", "inside", "place", "one", "number"] ["rule", "passed"] (defScope s_ask_fair) := ⟨rfl, rfl, rfl, by decide +kernel, rfl, by decide +kernel, by decide +kernel⟩
def spFair : Sp := fun vs H Q _ => ∃ (r : Rl) (u : V) (pl : Addr) (ws : List V) (ps : List Cr) (h : Nat), vs = [u, .ref pl] ∧ RlAt H u r ∧ RlOk r ∧ H pl = some (.lst ws) ∧ Paired (CrAt H) ws ps ∧ (∀ x ∈ ps, CrOk r h x) ∧ (∀ x ∈ ps, ∀ p ∈ succ r x, p.2 ∈ ps) ∧ ps.length ≤ 100001 ∧
  ∀ H', Same H H' → Q .non H'
theorem big (n : Nat) (h : n ≤ 100001) : n < sizeLine := Nat.lt_of_le_of_lt (show n ≤ 100200 by omega) (by decide)
theorem ok_ask_fair (T : Tx mg) (D : DefAt K mg "ask_fair" s_ask_fair []) (C2 : Cal P w K mg base 2 "can" spCan []) (C3 : Cal P w K mg base 3 "met" spMet []) : Cal P w K mg base 4 "ask_fair" spFair [] := by
  refine cal0 D sc_ask_fair (fun _ _ _ _ _ _ us hl => match us, hl with | [_, _], _ => rfl) (fun vs H Q E ⟨_, _, _, _, _, _, e, _⟩ => by rw [e]; rfl) fun f cdv A outer s H0 vs Q E hr h => ?_
  obtain ⟨r, u, pl, ws, ps, h, rfl, hR, ho, hpl, hws, hok, hcl, hlen, q⟩ := h
  have hu := hu_of hr
  have hu64 := hu64_of hr
  refine ⟨_, (pss_cons (ps_set (i := 2) sc_ask_fair.nd rfl (.inr rfl) (pe_callTy (call_dictPTn rfl hu64) (by rfl) T.dict boot_dict (pa_cons (pe_lc (own := [("one", 4)]) (g := (gName 4)) (tt := tYes) (te := (tTup (tCons (tVar 4) (tCons (tC (.bl true)) tNil)))) rfl sc_ask_fair.nd (pi_list (pv 1)) (blkOk_by (N := ["rule", "passed", "inside", "place", "one", "number"]) (sc := defScope s_ask_fair) (by decide +kernel)) (fun _ _ _ _ _ => (pg_name (i := 4) sc_ask_fair.nd rfl (.inl rfl))) (fun _ _ _ _ _ => pts_nil) (fun _ _ _ _ _ => (pe_tup (pa_cons (pv 4) (pa_cons pe_bl pa_nil))))) pa_nil)))
    (pss_one (ps_for PassesOwn.never rfl (pi_enum (by rfl) T.enumerate (pa_cons (pv 1) pa_nil)) (pg_tup rfl (pgs_cons (pg_name (i := 3) sc_ask_fair.nd rfl (.inl rfl)) (pgs_cons (pg_name (i := 4) sc_ask_fair.nd rfl (.inr rfl)) pgs_nil)))
      (pss_one (ps_if (pt_not (pt_val (pe_callB (cr_all rfl) (by rfl) T.all boot_all (pa_cons (pe_lc (own := [("number", 5)]) (g := (gName 5)) (tt := tYes) (te := (tDIn (tCall spMet [] E0 (tCons (tVar 0) (tCons (tVar 4) (tCons (tVar 5) tNil)))) (tVar 2))) rfl sc_ask_fair.nd (pi_list (pe_c C2 hr (by omega) rfl (pa_cons (pv 0) (pa_cons (pv 4) pa_nil)))) (blkOk_by (N := ["rule", "passed", "inside", "place", "one", "number"]) (sc := defScope s_ask_fair) (by decide +kernel)) (fun _ _ _ _ _ => (pg_name (i := 5) sc_ask_fair.nd rfl (.inl rfl))) (fun _ _ _ _ _ => pts_nil) (fun _ _ _ _ _ => (pe_cmp (pc_din hu (pe_c C3 hr (by omega) rfl (pa_cons (pv 0) (pa_cons (pv 4) (pa_cons (pv 5) pa_nil)))) (pv 2)) rfl))) pa_nil))))
        (pss_one ps_never) pss_nil))))), ?_⟩
  refine ⟨_, rfl, pl, rfl, ⟨_, SqL.of hpl⟩, fun D nD => ?_⟩
  refine lc_same (walk_list (K := K) (a := pl) (xs := ws)) ps some (PvAt (.bl true)) (Paired.length hws) (by rw [Paired.length hws]; exact big _ hlen) nD (fun H1 s => SqL.of (s _ _ hpl))
    (fun H1 H2 y b acc _ e k h => h.tk (Tk.butL e k)) ?_ (fun H3 acc s3 e3 p3 => ?_)
  · intro i c x H3 H4 Kt Kf kt kf hp s3 _ hy
    obtain ⟨rfl, hx⟩ := hy
    obtain ⟨x', hx', b, rfl, hb⟩ := Paired.getR hws hp
    obtain rfl : x = .ref b := Option.some.inj (hx.symm.trans hx')
    refine ⟨rfl, iteT (B := Kf H4) ⟨_, rfl, by show 2 ≤ sizeLine; decide, fun t nt => kt _ _ c (same_new nt) rfl ⟨t, b, rfl, upd_same, ?_⟩⟩⟩
    exact at_ne (s3 _ _ hb) (ne_of_none (s3 _ _ hb) nt)
  · rw [List.filterMap_some] at p3
    refine nilI (dict_const (K := K) e3 p3 fun fd nfd => ?_)
    generalize hkv : mergeT [] (ps.map fun c => (ck c, V.bl true)) = kv
    have hsome : ∀ d, (valV kv (ck d)).isSome = decide (d ∈ ps) := fun d => by rw [← hkv, merge_isSome]; show (decide (d ∈ ps) || false) = _; simp
    have s4 := same_new (o := .dT kv) nfd
    generalize hH4 : upd H3 fd (.dT kv) = H4 at s4
    have efd : H4 fd = some (.dT kv) := by rw [← hH4]; exact upd_same
    have s04 := s3.trans s4
    clear hH4
    refine ⟨_, rfl, pl, _, rfl, SqL.of (s04 _ _ hpl), ?_⟩
    refine for_it (walk_enum (K := K) (a := pl) (xs := ws)) (fun i σ H' => ∃ y3 y4 y5, σ = [some u, some (.ref pl), some (.ref fd), y3, y4, y5] ∧ Same H4 H')
      ⟨none, none, none, rfl, Same.refl _⟩ (fun i σ H' _ ⟨_, _, _, _, h⟩ => SqL.of (h _ _ (s04 _ _ hpl))) ?_ ?_
    · rintro i x σ H5 H6 hi ⟨y3, y4, y5, rfl, s5⟩ ⟨t, x1, x2, rfl, nT, rfl, e1, e2⟩
      cases e1
      have e2 : (_ : List V)[i]? = some x2 := e2
      obtain ⟨c, hc, b, rfl, hb⟩ := paired_get hws e2
      have hcm := List.mem_of_getElem? hc
      have hco := hok c hcm
      have sT : Same H5 (upd H5 t (.tup [.int (i : Nat), .ref b])) := same_new nT
      generalize hH6 : upd H5 t (.tup [.int (i : Nat), .ref b]) = H6 at sT
      have et : H6 t = some (.tup [.int (i : Nat), .ref b]) := by rw [← hH6]; exact upd_same
      have s6 := s5.trans sT
      have s06 := s04.trans s6
      refine ⟨t, _, rfl, SqT.of et, rfl, _, _, rfl, _, _, rfl, rfl, ?_⟩
      refine ⟨_, rfl, _, rfl, r, u, .ref b, c, rfl, hR.tk (Tk.same s06), ho, ⟨b, rfl, s06 _ _ hb⟩, hco.len, fun H7 l7 s7 n7 e7 => ?_⟩
      refine ⟨l7, rfl, ⟨_, SqL.of e7⟩, fun D8 nD8 => ?_⟩
      refine lc_same (walk_list (K := K) (a := l7) (xs := ((succ r c).map (·.1)).map V.int)) (succ r c) (fun _ => some true) BlIs (by simp) (by rw [List.length_map, List.length_map]; exact small1000 (by have := succ_len ho c; omega)) nD8 (fun H1 s => SqL.of (s _ _ e7))
        (fun _ _ _ _ _ _ _ _ h => h) ?_ (fun H9 acc2 s9 e9 p9 => ?_)
      · intro k p x H8 H9 Kt Kf kt kf hp s8 _ hy
        obtain ⟨rfl, hx⟩ := hy
        rw [List.getElem?_map, List.getElem?_map, hp] at hx
        obtain rfl : V.int p.1 = x := Option.some.inj hx
        have hpm := List.mem_of_getElem? hp
        obtain ⟨j, mt, q1, q2, q3, q4⟩ := succ_num hpm
        have s09 := (s06.trans s7).trans s8
        refine ⟨rfl, iteT (B := Kf H9) ⟨_, rfl, _, rfl, _, rfl, r, u, .ref b, c, j, mt, by rw [q1]; rfl, hR.tk (Tk.same s09), ho, ⟨b, rfl, s09 _ _ hb⟩, hco.len, q2, q3, fun H10 z s10 ⟨bz, hz, hbz⟩ => ?_⟩⟩
        subst hz
        refine ⟨_, rfl, fd, _, rfl, dget_at (c := p.2) (.inl (s10 _ _ (s8 _ _ (s7 _ _ (s6 _ _ efd))))) (by rw [q4]; exact hbz), ?_⟩
        refine kt _ _ true s10 rfl ?_
        show V.bl _ = V.bl true
        rw [hsome, decide_eq_true (hcl c hcm p hpm)]
      · rw [List.filterMap_eq_map'] at p9
        refine ⟨D8, (succ r c).map (fun _ => true), rfl, by rw [← bls_of p9]; exact SqL.of e9, _, rfl, ?_⟩
        have : ((succ r c).map (fun _ => true)).all id = true := by rw [List.all_eq_true]; intro x hx; obtain ⟨_, _, rfl⟩ := List.mem_map.mp hx; rfl
        rw [this]
        refine iteF ⟨_, _, _, rfl, (s6.trans s7).trans s9⟩
    · rintro σ H5 ⟨y3, y4, y5, rfl, s5⟩
      exact q H5 (s04.trans s5)
end
end Pb
set_option Elab.async false
set_option linter.all false
set_option maxRecDepth 100000
set_option maxHeartbeats 4000000
namespace Pb
open PySem PySem.Spec PyProof.Rows L2
open C8 (Cal pe_c)
section
variable {P : Program} {w : World} {K : PySem.W.Frag} {mg : Str → Option Value} {base : Heap}
def endW (r : Rl) (e : List Cr) : W3 := if ∀ c ∈ e, saidM r c = .yes then .yes else if ∀ c ∈ e, saidM r c = .no then .no else .both
theorem endW_all {r : Rl} {e : List Cr} {c0 : Cr} (h0 : c0 ∈ e) (h : ∀ c ∈ e, saidM r c = saidM r c0) : endW r e = saidM r c0 := by
  unfold endW
  cases hz : saidM r c0 with
  | yes => rw [if_pos (fun c hc => (h c hc).trans hz)]
  | no => rw [if_neg (fun z => by have := z c0 h0; rw [hz] at this; cases this), if_pos (fun c hc => (h c hc).trans hz)]
  | both => rw [if_neg (fun z => by have := z c0 h0; rw [hz] at this; cases this), if_neg (fun z => by have := z c0 h0; rw [hz] at this; cases this)]
theorem endW_mix {r : Rl} {e : List Cr} {c0 : Cr} (h0 : c0 ∈ e) (h : ¬ ∀ c ∈ e, saidM r c = saidM r c0) : endW r e = .both := by
  unfold endW
  rw [if_neg (fun z => h fun c hc => (z c hc).trans (z c0 h0).symm), if_neg (fun z => h fun c hc => (z c hc).trans (z c0 h0).symm)]
theorem cut_last (xs : List V) (v : V) : cutV (xs ++ [v]) none (some (-1)) = xs := by
  unfold cutV
  have h1 : HT.sIx (xs ++ [v]).length 0 none = 0 := rfl
  have h2 : HT.sIx (xs ++ [v]).length (xs ++ [v]).length (some (-1)) = xs.length := by
    unfold HT.sIx
    rw [List.length_append]
    show _ = _
    simp
    try omega
  rw [h1, h2, List.drop_zero, Nat.sub_zero, List.take_left']
  rfl
theorem paired_last {α β : Type} {F : α → β → Prop} : ∀ {ys0 : List β} {xs : List α} {y : β}, Paired F xs (ys0 ++ [y]) → ∃ xs0 x, xs = xs0 ++ [x] ∧ Paired F xs0 ys0 ∧ F x y
  | [], _, y, .cons f .nil => ⟨[], _, rfl, .nil, f⟩
  | _ :: _, _, y, .cons f t => by
    obtain ⟨xs0, x, e, p, g⟩ := paired_last t
    exact ⟨_ :: xs0, x, by rw [e]; rfl, .cons f p, g⟩
/-! ### ring_says -/
theorem sc_ring_says : FnScope ["rule", "crowd", "thing", "first", "passed", "words", "one", "word", "part"] ["rule", "crowd", "thing"] (defScope s_ring_says) := ⟨rfl, rfl, rfl, by decide +kernel, rfl, by decide +kernel, by decide +kernel⟩
structure Ring (r : Rl) (c : Cr) (ns1 ns2 : List Int) (d : Cr) (ps1 ps2 e : List Cr) : Prop where
  w1 : WalkP (succ r) c ns1 ps1
  l1 : (c :: ps1).getLast? = some d
  w2 : WalkP (succ r) d ns2 ps2
  l2 : (d :: ps2).getLast? = some d
  n1 : ns1.length ≤ 100000
  n2 : ns2.length ≤ 100000
  me : ∀ x, x ∈ d :: ps2 ↔ x ∈ e
def RgAt (H : Hp) (t : Addr) (ns1 ns2 : List Int) : Prop := ∃ t1 t2, H t = some (.tup [.ref t1, .ref t2]) ∧ H t1 = some (.tup (ns1.map V.int)) ∧ H t2 = some (.tup (ns2.map V.int))
def spSays : Sp := fun vs H Q _ => ∃ (r : Rl) (u v : V) (t : Addr) (c : Cr) (h : Nat) (ns1 ns2 : List Int) (d : Cr) (ps1 ps2 e : List Cr), vs = [u, v, .ref t] ∧ RlAt H u r ∧ RlOk r ∧ CrAt H v c ∧ CrOk r h c ∧ RgAt H t ns1 ns2 ∧ Ring r c ns1 ns2 d ps1 ps2 e ∧ (∀ x ∈ e, ∀ p ∈ succ r x, p.2 ∈ e) ∧
  ∀ H', Same H H' → Q (.str (endW r e).s) H'
theorem ok_ring_says (T : Tx mg) (D : DefAt K mg "ring_says" s_ring_says []) (C1 : Cal P w K mg base 4 "passed_along" spPassed []) (C2 : Cal P w K mg base 4 "ask_fair" spFair []) (C3 : Cal P w K mg base 1 "said" spSaid []) : Cal P w K mg base 5 "ring_says" spSays [] := by
  refine cal0 D sc_ring_says (fun _ _ _ _ _ _ us hl => match us, hl with | [_, _, _], _ => rfl) (fun vs H Q E ⟨_, _, _, _, _, _, _, _, _, _, _, _, e, _⟩ => by rw [e]; rfl) fun f cdv A outer s H0 vs Q E hr hsp => ?_
  obtain ⟨r, u, v, t, c, h, ns1, ns2, d, ps1, ps2, e, rfl, hR, ho, hv, hc, ⟨t1, t2, et, et1, et2⟩, rg, hcl, q⟩ := hsp
  have hu := hu_of hr
  have hu64 := hu64_of hr
  refine ⟨_, (pss_cons (ps_if (PW.pt (pw_or (pt_not (pt_val (pe_callB call_isi (by rfl) T.isinstance boot_isinstance (pa_cons (pv 2) (pa_cons (pe_bltn (v := .ty "tuple") (by rfl) T.tuple (by decide +kernel) rfl) pa_nil))))) (pw_or (pt_cmpR op_ne (pe_callB call_len_seq (by rfl) T.len boot_len (pa_cons (pv 2) pa_nil)) pe_int (nomark _)) (pw_or1 (pt_not (pt_val (pe_callB (cr_all rfl) (by rfl) T.all boot_all (pa_cons (pe_lc (own := [("part", 8)]) (g := (gName 8)) (tt := tYes) (te := (tCB (rIsi K) (tCons (tVar 8) (tCons (tC (.ty "tuple")) tNil)))) rfl sc_ring_says.nd (pi_tup (pv 2)) (blkOk_by (N := ["rule", "crowd", "thing", "first", "passed", "words", "one", "word", "part"]) (sc := defScope s_ring_says) (by decide +kernel)) (fun _ _ _ _ _ => (pg_name (i := 8) sc_ring_says.nd rfl (.inl rfl))) (fun _ _ _ _ _ => pts_nil) (fun _ _ _ _ _ => (pe_callB call_isi (by rfl) T.isinstance boot_isinstance (pa_cons (pv 8) (pa_cons (pe_bltn (v := .ty "tuple") (by rfl) T.tuple (by decide +kernel) rfl) pa_nil))))) pa_nil))))))))
      (pss_one ps_never) pss_nil)
    (pss_cons (ps_set (i := 3) sc_ring_says.nd rfl (.inl rfl) (pe_ix ix_list (pe_c C1 hr (by omega) rfl (pa_cons (pv 0) (pa_cons (pv 1) (pa_cons (pe_ix ix_tup (pv 2) pe_int (fun _ _ => rfl)) (pa_cons pe_str pa_nil))))) (pe_un un_neg pe_int) (fun _ _ => rfl)))
    (pss_cons (ps_set (i := 4) sc_ring_says.nd rfl (.inl rfl) (pe_c C1 hr (by omega) rfl (pa_cons (pv 0) (pa_cons (pv 3) (pa_cons (pe_ix ix_tup (pv 2) pe_int (fun _ _ => rfl)) (pa_cons pe_str pa_nil))))))
    (pss_cons (ps_if (pt_cmpR (op_neD hu64) (pe_ix ix_list (pv 4) (pe_un un_neg pe_int) (fun _ _ => rfl)) (pv 3) (nomark _))
      (pss_one ps_never) pss_nil)
    (pss_cons (ps_if (pt_cmpR op_gt (pe_callB call_len_seq (by rfl) T.len boot_len (pa_cons (pv 4) pa_nil)) pe_int (nomark _))
      (pss_one (ps_set (i := 4) sc_ring_says.nd rfl (.inl rfl) (pe_slice sl_list (pv 4) po_none (po_some (pe_un un_neg pe_int))))) pss_nil)
    (pss_cons (ps_expr (pe_c C2 hr (by omega) rfl (pa_cons (pv 0) (pa_cons (pv 4) pa_nil))))
    (pss_cons (ps_set (i := 5) sc_ring_says.nd rfl (.inr rfl) (pe_lc (own := [("one", 6)]) (g := (gName 6)) (tt := tYes) (te := (tCall spSaid [] E0 (tCons (tVar 0) (tCons (tVar 6) tNil)))) rfl sc_ring_says.nd (pi_list (pv 4)) (blkOk_by (N := ["rule", "crowd", "thing", "first", "passed", "words", "one", "word", "part"]) (sc := defScope s_ring_says) (by decide +kernel)) (fun _ _ _ _ _ => (pg_name (i := 6) sc_ring_says.nd rfl (.inl rfl))) (fun _ _ _ _ _ => pts_nil) (fun _ _ _ _ _ => (pe_c C3 hr (by omega) rfl (pa_cons (pv 0) (pa_cons (pv 6) pa_nil))))))
    (pss_one (ps_ret (pe_ifExp (pt_val (pe_callB (cr_all rfl) (by rfl) T.all boot_all (pa_cons (pe_lc (own := [("word", 7)]) (g := (gName 7)) (tt := tYes) (te := (tOp rEq (tVar 7) (tOp (rIxL K) (tVar 5) (tC (.int 0))))) rfl sc_ring_says.nd (pi_list (pv 5)) (blkOk_by (N := ["rule", "crowd", "thing", "first", "passed", "words", "one", "word", "part"]) (sc := defScope s_ring_says) (by decide +kernel)) (fun _ _ _ _ _ => (pg_name (i := 7) sc_ring_says.nd rfl (.inl rfl))) (fun _ _ _ _ _ => pts_nil) (fun _ _ _ _ _ => (pe_cmpR op_eq (pv 7) (pe_ix ix_list (pv 5) pe_int (fun _ _ => rfl)) (nomark _)))) pa_nil))) (pe_ix ix_list (pv 5) pe_int (fun _ _ => rfl)) pe_str)))))))))), ?_⟩
  refine ⟨_, rfl, _, _, _, _, true, rfl, .ty _, .base (.tup et), kit_ty (by decide +kernel), _, rfl, ite2 (fun z => by cases z) (fun _ => ?_)⟩
  refine ⟨_, rfl, t, _, rfl, .inr (SqT.of et), rfl, _, rfl, ite2 (fun z => by cases z) (fun _ => ?_)⟩
  refine ⟨_, rfl, t, rfl, ⟨_, SqT.of et⟩, fun D1 nD1 => ?_⟩
  refine lc_same (walk_tup (K := K) (a := t) (xs := [.ref t1, .ref t2])) [ns1, ns2] (fun _ => some true) BlIs rfl (show 2 < sizeLine from big 2 (by decide)) nD1 (fun H1 s => SqT.of (s _ _ et)) (fun _ _ _ _ _ _ _ _ h => h) ?_ (fun H1 acc1 s1 e1 p1 => ?_)
  · intro k p x H8 H9 Kt Kf kt kf hp s8 _ hy
    obtain ⟨rfl, hx⟩ := hy
    have hxt : ∃ a ns, x = .ref a ∧ H9 a = some (.tup ns) := by
      match k, hx with
      | 0, hx => cases hx; exact ⟨t1, _, rfl, s8 _ _ et1⟩
      | 1, hx => cases hx; exact ⟨t2, _, rfl, s8 _ _ et2⟩
    obtain ⟨a, ns, rfl, ha⟩ := hxt
    refine ⟨rfl, iteT (B := Kf H9) ⟨_, rfl, _, _, _, _, _, rfl, .ty _, .base (.tup ha), kit_ty (by decide +kernel), kt _ _ true (Same.refl _) rfl rfl⟩⟩
  rw [List.filterMap_eq_map'] at p1
  refine ⟨D1, [true, true], rfl, by have := bls_of p1; rw [this] at e1; exact SqL.of e1, _, rfl, ite2 (fun z => by cases z) (fun _ => ?_)⟩
  -- first
  refine ⟨_, rfl, _, rfl, _, rfl, t, _, _, _, rfl, rfl, SqT.of (s1 _ _ et), atI_nat (j := 0) rfl, r, u, v, t1, _, c, h, ns1, ps1, rfl, hR.tk (Tk.same s1), ho, hv.tk (Tk.same s1), hc, s1 _ _ et1, rg.w1, rg.n1, fun H2 l2 vs2 s2 n2 e2 p2 => ?_⟩
  obtain ⟨i1, hi1⟩ := last_snoc rg.l1
  have p2' := p2
  rw [hi1] at p2'
  obtain ⟨vs20, v20, rfl, _, hv20⟩ := paired_last p2'
  refine ⟨_, rfl, l2, _, _, v20, rfl, rfl, SqL.of e2, atI_last _ _, ?_⟩
  have s02 := s1.trans s2
  have hdo : CrOk r h d := reach_ok ho hc (rg.w1.reach d (by rw [hi1]; exact List.mem_append_right _ (List.mem_singleton.mpr rfl)))
  refine ⟨_, rfl, _, rfl, _, rfl, t, _, _, _, rfl, rfl, SqT.of (s02 _ _ et), atI_nat (j := 1) rfl, r, u, v20, t2, _, d, h, ns2, ps2, rfl, hR.tk (Tk.same s02), ho, hv20, hdo, s02 _ _ et2, rg.w2, rg.n2, fun H3 l3 vs3 s3 n3 e3 p3 => ?_⟩
  have s03 := s02.trans s3
  obtain ⟨i2, hi2⟩ := last_snoc rg.l2
  have p3' := p3
  rw [hi2] at p3'
  obtain ⟨vs30, v30, rfl, p30, hv30⟩ := paired_last p3'
  -- passed[-1] != first
  obtain ⟨a20, rfl, ha20⟩ := hv20.tk (Tk.same s3)
  obtain ⟨a30, rfl, ha30⟩ := id hv30
  refine ⟨_, rfl, _, rfl, l3, _, _, _, rfl, rfl, SqL.of e3, atI_last _ _, _, rfl, cd d, cd d, dp_tupI ha30, dp_tupI ha20, shaped_cd d, shaped_cd d, _, rfl, ?_⟩
  rw [eqv_cd, decide_eq_true rfl]
  refine ite2 (fun z => by cases z) (fun _ => ?_)
  refine ⟨_, rfl, l3, _, rfl, .inl (SqL.of e3), _, _, rfl, rfl, _, rfl, ?_⟩
  have hlen3 : (vs30 ++ [V.ref a30]).length = (d :: ps2).length := Paired.length p3
  have hlen2 := rg.w2.len
  have hn2 := rg.n2
  rw [List.length_cons] at hlen3
  have hdm : d ∈ d :: ps2 := List.mem_cons_self ..
  refine ite2 (fun z => ?gA) (fun z => ?gB)
  case' gA =>
    have z := of_decide_eq_true z
    have hl1 : 1 ≤ ps2.length := by omega
    refine ⟨_, rfl, _, rfl, -1, rfl, l3, _, rfl, SqL.of e3, fun l4 np => ?_⟩
    rw [cut_last]
    have good : ∃ (vs4 : List V) (p0 : Cr) (pr : List Cr), Same H0 (upd H3 l4 (.lst vs30)) ∧ upd H3 l4 (.lst vs30) l4 = some (.lst vs4) ∧ Paired (CrAt (upd H3 l4 (.lst vs30))) vs4 (p0 :: pr) ∧ (∀ x, x ∈ p0 :: pr ↔ x ∈ e) ∧ (p0 :: pr).length ≤ 100001 := by
      have hi2' := hi2
      cases i2 with
      | nil => rw [List.nil_append] at hi2'; have := (List.cons.inj hi2').2; rw [this] at hl1; simp at hl1
      | cons p0 pr =>
        have hp0 : p0 = d := ((List.cons.inj hi2').1).symm
        refine ⟨vs30, p0, pr, s03.trans (same_new np), upd_same, crs_tk (Tk.new np) p30, fun x => ?_, ?_⟩
        · rw [← rg.me x, hi2]
          constructor
          · intro hx; exact List.mem_append_left _ hx
          · intro hx
            rcases List.mem_append.mp hx with hx | hx
            · exact hx
            · rw [List.mem_singleton.mp hx, ← hp0]; exact List.mem_cons_self ..
        · have := congrArg List.length hi2
          rw [List.length_append, List.length_cons] at this
          have h1 : ([d] : List Cr).length = 1 := rfl
          omega
    obtain ⟨H4, hH4⟩ : ∃ x, x = upd H3 l4 (.lst vs30) := ⟨_, rfl⟩
    rw [← hH4] at good ⊢
    clear hH4
  case' gB =>
    have good : ∃ (vs4 : List V) (p0 : Cr) (pr : List Cr), Same H0 H3 ∧ H3 l3 = some (.lst vs4) ∧ Paired (CrAt H3) vs4 (p0 :: pr) ∧ (∀ x, x ∈ p0 :: pr ↔ x ∈ e) ∧ (p0 :: pr).length ≤ 100001 := ⟨_, d, ps2, s03, e3, p3, rg.me, by rw [List.length_cons]; omega⟩
    obtain ⟨l4, rfl⟩ : ∃ x, x = l3 := ⟨_, rfl⟩
    obtain ⟨H4, rfl⟩ : ∃ x, x = H3 := ⟨_, rfl⟩
  all_goals (
    obtain ⟨vs4, p0, pr, s04, e4, p4, m4, n4⟩ := good
    have heo : ∀ x ∈ p0 :: pr, CrOk r h x := fun x hx => reach_ok ho hdo (rg.w2.reach x ((rg.me x).mpr ((m4 x).mp hx)))
    refine ⟨_, rfl, _, rfl, r, u, l4, vs4, p0 :: pr, h, rfl, hR.tk (Tk.same s04), ho, e4, p4, heo, fun x hx p hp => (m4 p.2).mpr (hcl x ((m4 x).mp hx) p hp), n4, fun H5 s5 => ?_⟩
    have s05 := s04.trans s5
    refine ⟨_, rfl, l4, rfl, ⟨_, SqL.of (s5 _ _ e4)⟩, fun D6 nD6 => ?_⟩
    refine lc_same (walk_list (K := K) (a := l4) (xs := vs4)) (p0 :: pr) (fun x => some (saidM r x)) StrIs (Paired.length p4) (by rw [Paired.length p4]; exact big _ n4) nD6 (fun H1 s => SqL.of (s _ _ (s5 _ _ e4))) (fun _ _ _ _ _ _ _ _ h => h) ?_ (fun H6 acc6 s6 e6 p6 => ?_)
    · intro k x y H8 H9 Kt Kf kt kf hp s8 _ hy
      obtain ⟨rfl, hx⟩ := hy
      obtain ⟨x', hx', hxc⟩ := Paired.getR p4 hp
      obtain rfl : x' = y := Option.some.inj (hx'.symm.trans hx)
      refine ⟨rfl, iteT (B := Kf H9) ⟨_, rfl, _, rfl, r, u, x', x, rfl, hR.tk (Tk.same (s05.trans s8)), ho, hxc.tk (Tk.same (s5.trans s8)), (heo x (List.mem_of_getElem? hp)).len, fun H10 s10 => kt _ _ _ s10 rfl rfl⟩⟩
    rw [List.filterMap_eq_map'] at p6
    have ew := strs_of p6
    rw [List.map_map] at ew
    subst ew
    have s06 := s05.trans s6
    have he6 : H6 D6 = some (.lst (((p0 :: pr).map (fun x => saidM r x)).map fun z => V.str z.s)) := by rw [List.map_map]; exact e6
    generalize hws : (p0 :: pr).map (fun x => saidM r x) = ws at he6
    have hw0 : ws[0]? = some (saidM r p0) := by rw [← hws]; rfl
    have hp0 : p0 ∈ e := (m4 p0).mp (List.mem_cons_self ..)
    have hlw : ws.length ≤ 100001 := by rw [← hws, List.length_map]; exact n4
    refine ⟨_, rfl, D6, rfl, ⟨_, SqL.of he6⟩, fun D7 nD7 => ?_⟩
    refine lc_same (walk_list (K := K) (a := D6) (xs := ws.map fun z => V.str z.s)) ws (fun w => some (decide (w = saidM r p0))) BlIs (by rw [List.length_map]) (by rw [List.length_map]; exact big _ hlw) nD7 (fun H1 s => SqL.of (s _ _ he6)) (fun _ _ _ _ _ _ _ _ h => h) ?_ (fun H7 acc7 s7 e7 p7 => ?_)
    · intro k w y H8 H9 Kt Kf kt kf hp s8 _ hy
      obtain ⟨rfl, hx⟩ := hy
      rw [List.getElem?_map, hp] at hx
      obtain rfl : V.str w.s = y := Option.some.inj hx
      refine ⟨rfl, iteT (B := Kf H9) ⟨_, rfl, _, rfl, D6, _, _, V.str (saidM r p0).s, rfl, rfl, SqL.of (s8 _ _ he6), atI_nat (j := 0) (by rw [List.getElem?_map, hw0]; rfl), rfl, ?_⟩⟩
      exact kt _ _ _ (Same.refl _) rfl (congrArg V.bl (dec_w3 w (saidM r p0)))
    rw [List.filterMap_eq_map'] at p7
    refine ⟨D7, ws.map (fun w => decide (w = saidM r p0)), rfl, by rw [← bls_of p7]; exact SqL.of e7, _, rfl, ?_⟩
    rw [all_dec]
    have hall : (∀ w ∈ ws, w = saidM r p0) ↔ ∀ c ∈ e, saidM r c = saidM r p0 := by
      rw [← hws]
      constructor
      · intro hz x hx
        exact hz _ (List.mem_map.mpr ⟨x, (m4 x).mpr hx, rfl⟩)
      · intro hz w hw
        obtain ⟨x, hx, rfl⟩ := List.mem_map.mp hw
        exact hz x ((m4 x).mp hx)
    have hq := q H7 (s06.trans s7)
    refine ite2 (fun z => ?_) (fun z => ?_)
    · rw [endW_all hp0 (hall.mp (of_decide_eq_true z))] at hq
      exact ⟨_, rfl, D6, _, _, _, rfl, rfl, SqL.of (s7 _ _ he6), atI_nat (j := 0) (by rw [List.getElem?_map, hw0]; rfl), hq⟩
    · rw [endW_mix hp0 (fun y => z (decide_eq_true (hall.mpr y)))] at hq
      exact hq)
end
end Pb
set_option Elab.async false
set_option linter.all false
set_option maxRecDepth 100000
set_option maxHeartbeats 4000000
namespace Pb
open PySem PySem.Spec PyProof.Rows L2
open C8 (Cal pe_c)
section
variable {P : Program} {w : World} {K : PySem.W.Frag} {mg : Str → Option Value} {base : Heap}
theorem drop_const {v0 : V} (cs : List Cr) (d : Cr) : dropK (cs.map fun c => (ck c, v0)) (ck d) = (cs.filter fun c => decide (c ≠ d)).map fun c => (ck c, v0) := by
  unfold dropK
  rw [List.filter_map]
  congr 1
  congr 1
  funext c
  show decide (ck c ≠ ck d) = decide (c ≠ d)
  by_cases e : c = d
  · subst e; simp
  · have : ck c ≠ ck d := fun z => e (ck_inj z)
    simp [e, this]
theorem val_const {v0 : V} {cs : List Cr} {d : Cr} (h : d ∈ cs) : valV (cs.map fun c => (ck c, v0)) (ck d) = some v0 := by
  obtain ⟨v, h1, h2⟩ := dk_some (F := fun v _ => v = v0) ((keys_const (v0 := v0) cs).mono fun kv c z => ⟨z.1, z.2⟩) h
  rw [h1, h2]
theorem filt_ne_len {cs : List Cr} {d : Cr} (h : d ∈ cs) : (cs.filter fun c => decide (c ≠ d)).length < cs.length := by
  induction cs with
  | nil => cases h
  | cons x cs ih =>
    by_cases e : x = d
    · subst e
      rw [List.filter_cons, if_neg (by simp)]
      exact Nat.lt_succ_of_le (List.length_filter_le ..)
    · rw [List.filter_cons, if_pos (by simpa using e)]
      have : d ∈ cs := by
        rcases List.mem_cons.mp h with h | h
        · exact absurd h.symm e
        · exact h
      exact Nat.succ_lt_succ (ih this)
theorem last_app {c here x : Cr} {ps qs : List Cr} (h1 : (c :: ps).getLast? = some here) (h2 : (here :: qs).getLast? = some x) : (c :: (ps ++ qs)).getLast? = some x := by
  obtain ⟨i, hi⟩ := last_snoc h1
  have : c :: (ps ++ qs) = i ++ (here :: qs) := by
    rw [← List.cons_append, hi, List.append_assoc]
    rfl
  rw [this, List.getLast?_append, h2]
  rfl
theorem GrD.but {H H' : Hp} {g fd : Addr} {kv : List (List Key × V)} {S : Cr → List (Int × Cr)} {L : List Cr} (hf : H fd = some (.dT kv)) (n : g ≠ fd) (b : But fd H H') (h : GrD H g S L) : GrD H' g S L := by
  obtain ⟨kvs, e, p⟩ := h
  refine ⟨kvs, b _ _ n e, p.mono fun x c ⟨h1, l, vs, h2, h3, h4⟩ => ⟨h1, l, vs, h2, b _ _ (ne_of h3 hf (by intro z; cases z)) h3, prs_tk (Tk.butD hf b) h4⟩⟩
theorem But.toSame' {a : Addr} {H0 H H1 : Hp} (b : But a H H1) (n : H0 a = none) (s : Same H0 H) : Same H0 H1 := fun x u e => b x u (ne_of_none e n) (s x u e)
/-! ### ring_to -/
/-- an end: a closed set of crowds that reach one another -/
structure IsE (S : Cr → List (Int × Cr)) (c : Cr) (e : List Cr) : Prop where
  nd : e.Nodup
  re : ∃ x ∈ e, Reach S c x
  cl : ∀ x ∈ e, ∀ y, y ∈ e ↔ Reach S x y
theorem sc_ring_to : FnScope ["rule", "crowd", "end", "limit", "graph", "left", "way", "first", "ring", "here", "numbers", "one"] ["rule", "crowd", "end", "limit"] (defScope s_ring_to) := ⟨rfl, rfl, rfl, by decide +kernel, rfl, by decide +kernel, by decide +kernel⟩
def spRingTo : Sp := fun vs H Q _ => ∃ (r : Rl) (u v : V) (el : Addr) (c : Cr) (h : Nat) (e : List Cr) (ws : List V), vs = [u, v, .ref el, .int 1000] ∧ RlAt H u r ∧ RlOk r ∧ CrAt H v c ∧ CrOk r h c ∧ h ≤ 4 ∧ H el = some (.lst ws) ∧ Paired (CrAt H) ws e ∧ IsE (succ r) c e ∧
  ∀ H' t ns1 ns2 d ps1 ps2, Same H H' → RgAt H' t ns1 ns2 → Ring r c ns1 ns2 d ps1 ps2 e → Q (.ref t) H'
theorem ok_ring_to (T : Tx mg) (D : DefAt K mg "ring_to" s_ring_to [.int 1000]) (C1 : Cal P w K mg base 4 "graph_of" spGraph []) (C2 : Cal P w K mg base 1 "row_to" spRow []) : Cal P w K mg base 5 "ring_to" spRingTo [.int 1000] := by
  refine cal1 (n := 3) D sc_ring_to rfl (fun T kV doc pm an cdv ct us its h1 h2 => match us, its, h1, h2 with | [_, _, _], [_], _, _ => ⟨_, rfl, rfl⟩) (fun vs H Q E ⟨_, _, _, _, _, _, _, _, e, _⟩ => by rw [e]; rfl) fun f cdv A outer s H0 vs Q E hr hsp => ?_
  obtain ⟨r, u, v, el, c, h, e, ws, rfl, hR, ho, hv, hc, h4, hel, hws, he, q⟩ := hsp
  have hu := hu_of hr
  have hu64 := hu64_of hr
  refine ⟨_, (pss_cons (ps_set (i := 4) sc_ring_to.nd rfl (.inl rfl) (pe_c C1 hr (by omega) rfl (pa_cons (pv 0) (pa_cons (pv 1) (pa_cons (pv 3) pa_nil)))))
    (pss_cons (ps_set (i := 5) sc_ring_to.nd rfl (.inl rfl) (pe_callTy (call_dictPTn rfl hu64) (by rfl) T.dict boot_dict (pa_cons (pe_lc (own := [("one", 11)]) (g := (gName 11)) (tt := tYes) (te := (tTup (tCons (tVar 11) (tCons (tC (.bl true)) tNil)))) rfl sc_ring_to.nd (pi_list (pv 2)) (blkOk_by (N := ["rule", "crowd", "end", "limit", "graph", "left", "way", "first", "ring", "here", "numbers", "one"]) (sc := defScope s_ring_to) (by decide +kernel)) (fun _ _ _ _ _ => (pg_name (i := 11) sc_ring_to.nd rfl (.inl rfl))) (fun _ _ _ _ _ => pts_nil) (fun _ _ _ _ _ => (pe_tup (pa_cons (pv 11) (pa_cons pe_bl pa_nil))))) pa_nil)))
    (pss_cons (ps_asg (pe_c C2 hr (by omega) rfl (pa_cons (pv 4) (pa_cons (pv 1) (pa_cons (pv 5) pa_nil)))) (pg_tup rfl (pgs_cons (pg_name (i := 6) sc_ring_to.nd rfl (.inl rfl)) (pgs_cons (pg_name (i := 7) sc_ring_to.nd rfl (.inl rfl)) pgs_nil))))
    (pss_cons (ps_expr (pe_bm PySem.F.plainAttrs_dict PySem.F.slot_dict_pop PySem.F.type_dict_pop (mt_popT1 hu) (pv 5) (pa_cons (pv 7) pa_nil)))
    (pss_cons (ps_set (i := 8) sc_ring_to.nd rfl (.inl rfl) (pe_lst pa_nil))
    (pss_cons (ps_set (i := 9) sc_ring_to.nd rfl (.inl rfl) (pv 7))
    (pss_cons (ps_while PassesOwn.never (pt_cmpR op_gt (pe_callB call_len_dT (by rfl) T.len boot_len (pa_cons (pv 5) pa_nil)) pe_int (nomark _))
      (pss_cons (ps_asg (pe_c C2 hr (by omega) rfl (pa_cons (pv 4) (pa_cons (pv 9) (pa_cons (pv 5) pa_nil)))) (pg_tup rfl (pgs_cons (pg_name (i := 10) sc_ring_to.nd rfl (.inl rfl)) (pgs_cons (pg_name (i := 9) sc_ring_to.nd rfl (.inl rfl)) pgs_nil))))
      (pss_cons (ps_expr (pe_bm PySem.F.plainAttrs_list PySem.F.slot_list_extend PySem.F.type_list_extend mt_extend (pv 8) (pa_cons (pv 10) pa_nil)))
      (pss_one (ps_expr (pe_bm PySem.F.plainAttrs_dict PySem.F.slot_dict_pop PySem.F.type_dict_pop (mt_popT1 hu) (pv 5) (pa_cons (pv 9) pa_nil)))))))
    (pss_cons (ps_expr (pe_bm PySem.F.plainAttrs_list PySem.F.slot_list_extend PySem.F.type_list_extend mt_extend (pv 8) (pa_cons (pe_ix ix_tup (pe_c C2 hr (by omega) rfl (pa_cons (pv 4) (pa_cons (pv 9) (pa_cons (pe_disp1T hu (pv 7) pe_bl) pa_nil)))) pe_int (fun _ _ => rfl)) pa_nil)))
    (pss_one (ps_ret (pe_tup (pa_cons (pe_callTy call_tuple_of (by rfl) T.tuple boot_tuple (pa_cons (pv 6) pa_nil)) (pa_cons (pe_callTy call_tuple_of (by rfl) T.tuple boot_tuple (pa_cons (pv 8) pa_nil)) pa_nil))))))))))))), ?_⟩
  refine ⟨_, rfl, _, rfl, _, rfl, r, u, v, c, h, rfl, hR, ho, hv, hc, h4, fun H1 g L s1 n1 hg gr => ?_⟩
  have hLl := gr.len ho h4 hc
  have heL : ∀ x ∈ e, x ∈ L := fun x hx => by
    obtain ⟨y, hy, hry⟩ := he.re
    exact (gr.mem x).mpr (hry.trans ((he.cl y hy x).mp hx))
  have hel1 := Nat.le_trans (nodup_len he.nd heL) hLl
  refine ⟨_, rfl, el, rfl, ⟨_, SqL.of (s1 _ _ hel)⟩, fun D nD => ?_⟩
  refine lc_same (walk_list (K := K) (a := el) (xs := ws)) e some (PvAt (.bl true)) (Paired.length hws) (by rw [Paired.length hws]; exact big _ (by omega)) nD (fun H1 s => SqL.of (s _ _ (s1 _ _ hel)))
    (fun H1 H2 y b acc _ e k h => h.tk (Tk.butL e k)) ?_ (fun H3 acc s3 e3 p3 => ?_)
  · intro i c x H3 H4 Kt Kf kt kf hp s3 _ hy
    obtain ⟨rfl, hx⟩ := hy
    obtain ⟨x', hx', b, rfl, hb⟩ := Paired.getR hws hp
    obtain rfl : x = .ref b := Option.some.inj (hx.symm.trans hx')
    have hb := s3 _ _ (s1 _ _ hb)
    refine ⟨rfl, iteT (B := Kf H4) ⟨_, rfl, by show 2 ≤ sizeLine; decide, fun t nt => kt _ _ c (same_new nt) rfl ⟨t, b, rfl, upd_same, ?_⟩⟩⟩
    exact at_ne hb (ne_of_none hb nt)
  rw [List.filterMap_some] at p3
  refine nilI (dict_const (K := K) e3 p3 fun fd nfd => ?_)
  rw [merge_const he.nd]
  have s4 := same_new (o := .dT (e.map fun c => (ck c, V.bl true))) nfd
  obtain ⟨H4, hH4⟩ : ∃ x, x = upd H3 fd (.dT (e.map fun c => (ck c, V.bl true))) := ⟨_, rfl⟩
  rw [← hH4] at s4 ⊢
  have efd : H4 fd = some (.dT (e.map fun c => (ck c, V.bl true))) := by rw [hH4]; exact upd_same
  clear hH4
  have s14 := s3.trans s4
  have s04 := s1.trans s14
  have nfd0 : H0 fd = none := (s1.trans s3).free nfd
  have hg4 := hg.tk s14
  -- way, first = row_to(graph, crowd, left)
  refine ⟨_, rfl, _, rfl, _, rfl, succ r, g, fd, v, c, L, e, rfl, hg4.at, gr.cl, by omega, hv.tk (Tk.same s04), (gr.mem c).mpr (.refl _), ⟨_, .inl efd, (keys_const e).mono fun kv c h => ⟨h.1, trivial⟩⟩, he.re, fun H5 t5 l5 z5 ns1 d s5 et5 nl5 el5 hz5 hd5 wk5 hn5 => ?_⟩
  refine ⟨t5, _, rfl, SqT.of et5, rfl, _, _, rfl, _, _, rfl, rfl, ?_⟩
  obtain ⟨b5, rfl, hb5⟩ := hz5
  -- left.pop(first)
  refine ⟨_, rfl, ?_, _, rfl, fd, _, ck d, b5, .bl true, rfl, rfl, s5 _ _ efd, by rw [ck_kV]; exact hb5, val_const hd5, ?_⟩
  · exact .inr (.inr (.inl ⟨rfl, .inr ⟨_, s5 _ _ efd⟩⟩))
  rw [drop_const]
  generalize hrem : e.filter (fun c => decide (c ≠ d)) = rem
  have efd5 := s5 _ _ efd
  have gfd : g ≠ fd := by
    obtain ⟨kvs, eg, _⟩ := id hg
    exact ne_of_none (s3 _ _ eg) nfd
  have hg5 := hg4.tk s5
  obtain ⟨H6, hH6⟩ : ∃ x, x = upd H5 fd (.dT (rem.map fun c => (ck c, V.bl true))) := ⟨_, rfl⟩
  rw [← hH6]
  have b6 : But fd H5 H6 := by rw [hH6]; exact but_upd
  have efd6 : H6 fd = some (.dT (rem.map fun c => (ck c, .bl true))) := by rw [hH6]; exact upd_same
  clear hH6
  -- ring = []
  refine ⟨by show 0 ≤ sizeLine; decide, fun rg nrg => ?_⟩
  have nrg5 : H5 rg = none := by
    cases ez : H5 rg with
    | none => rfl
    | some o =>
      by_cases hz : rg = fd
      · rw [hz, efd6] at nrg; cases nrg
      · rw [b6 _ _ hz ez] at nrg; cases nrg
  have rgfd : rg ≠ fd := fun z => by rw [z, efd5] at nrg5; cases nrg5
  have hdL := heL d hd5
  have hdr : Reach (succ r) c d := wk5.reach
  have hnil : ([] : List Int).map V.int = [] := rfl
  refine ⟨_, rfl, ?_⟩
  refine ⟨fun m σ H => ∃ (rem : List Cr) (ns2 : List Int) (ps : List Cr) (here : Cr) (b9 : Addr) (y10 : Option V), m = rem.length ∧ σ = [some u, some v, some (.ref el), some (.int 1000), some (.ref g), some (.ref fd), some (.ref l5), some (.ref b5), some (.ref rg), some (.ref b9), y10, none] ∧
      But fd H5 H ∧ H fd = some (.dT (rem.map fun c => (ck c, V.bl true))) ∧ H rg = some (.lst (ns2.map V.int)) ∧ H b9 = some (.tup (here.map V.int)) ∧ WalkP (succ r) d ns2 ps ∧ (d :: ps).getLast? = some here ∧ here ∈ e ∧ (∀ x ∈ e, x ∈ rem ∨ x ∈ d :: ps) ∧ (∀ x ∈ rem, x ∈ e) ∧ ns2.length + 100 * rem.length ≤ 10000,
    ⟨rem.length, rem, [], [], d, b5, none, rfl, rfl, b6.put nrg5, at_ne efd6 (Ne.symm rgfd), upd_same, ?_, trivial, rfl, hd5, fun x hx => ?_, fun x hx => ?_, ?_⟩, ?_⟩
  · have := b6 _ _ (ne_of hb5 efd5 (by intro z; cases z)) hb5
    exact at_ne this (ne_of_none this nrg)
  · by_cases hxd : x = d
    · exact .inr (by rw [hxd]; exact List.mem_cons_self ..)
    · exact .inl (by rw [← hrem, List.mem_filter]; exact ⟨hx, by simpa using hxd⟩)
  · rw [← hrem] at hx; exact (List.mem_filter.mp hx).1
  · have : rem.length ≤ e.length := by rw [← hrem]; exact List.length_filter_le ..
    show 0 + _ ≤ _
    omega
  rintro m σ H ⟨rem, ns2, ps, here, b9, y10, rfl, rfl, bu, ef, er, eb, wk, hl, hhe, hcov, hsub, hlen⟩
  have hgH := hg5.but efd5 gfd bu
  have hhL := heL here hhe
  refine ⟨_, rfl, fd, _, rfl, ef, _, _, rfl, rfl, _, rfl, ?_⟩
  rw [List.length_map]
  refine ite2 (fun z => ?_) (fun z => ?_)
  · have z : 0 < rem.length := by have := of_decide_eq_true z; omega
    have hne : ∃ x, x ∈ rem := ⟨rem[0], List.getElem_mem _⟩
    obtain ⟨x0, hx0⟩ := hne
    refine ⟨fun σ' H' => ∃ m', m' < rem.length ∧ ∃ (rem : List Cr) (ns2 : List Int) (ps : List Cr) (here : Cr) (b9 : Addr) (y10 : Option V), m' = rem.length ∧ σ' = [some u, some v, some (.ref el), some (.int 1000), some (.ref g), some (.ref fd), some (.ref l5), some (.ref b5), some (.ref rg), some (.ref b9), y10, none] ∧
      But fd H5 H' ∧ H' fd = some (.dT (rem.map fun c => (ck c, V.bl true))) ∧ H' rg = some (.lst (ns2.map V.int)) ∧ H' b9 = some (.tup (here.map V.int)) ∧ WalkP (succ r) d ns2 ps ∧ (d :: ps).getLast? = some here ∧ here ∈ e ∧ (∀ x ∈ e, x ∈ rem ∨ x ∈ d :: ps) ∧ (∀ x ∈ rem, x ∈ e) ∧ ns2.length + 100 * rem.length ≤ 10000, fun σ' H' ⟨m', h1, h2⟩ => ⟨m', h1, h2⟩, ?_⟩
    refine ⟨_, rfl, _, rfl, _, rfl, succ r, g, fd, .ref b9, here, L, rem, rfl, hgH.at, gr.cl, by omega, ⟨b9, rfl, eb⟩, hhL, ⟨_, .inl ef, (keys_const rem).mono fun kv c h => ⟨h.1, trivial⟩⟩, ⟨x0, hx0, (he.cl here hhe x0).mp (hsub x0 hx0)⟩, fun H7 t7 l7 z7 ns7 d7 s7 et7 nl7 el7 hz7 hd7 wk7 hn7 => ?_⟩
    obtain ⟨b7, rfl, hb7⟩ := hz7
    refine ⟨t7, _, rfl, SqT.of et7, rfl, _, _, rfl, _, _, rfl, rfl, ?_⟩
    have er7 := s7 _ _ er
    have ef7 := s7 _ _ ef
    -- ring.extend(numbers)
    refine ⟨_, rfl, .inl ⟨rfl, _, SqL.of er7⟩, _, rfl, rg, l7, _, _, rfl, rfl, er7, el7, ?_, ?_⟩
    · rw [List.length_map, List.length_map]
      have : ns2.length + ns7.length ≤ 100001 := by omega
      exact Nat.le_of_lt (big _ this)
    have er8 : upd H7 rg (.lst (ns2.map V.int ++ ns7.map V.int)) rg = some (.lst ((ns2 ++ ns7).map V.int)) := by rw [upd_same, List.map_append]
    have b8 : But rg H7 (upd H7 rg (.lst (ns2.map V.int ++ ns7.map V.int))) := but_upd
    obtain ⟨H8, hH8⟩ : ∃ x, x = upd H7 rg (.lst (ns2.map V.int ++ ns7.map V.int)) := ⟨_, rfl⟩
    rw [← hH8] at er8 b8 ⊢
    have bu8 : But fd H5 H8 := by rw [hH8]; exact (bu.trans (But.same s7)).put nrg5
    clear hH8
    have ef8 := b8 _ _ (Ne.symm rgfd) ef7
    have hb8 := b8 _ _ (ne_tl hb7 er7) hb7
    -- left.pop(here)
    refine ⟨_, rfl, .inr (.inr (.inl ⟨rfl, .inr ⟨_, ef8⟩⟩)), _, rfl, fd, _, ck d7, b7, .bl true, rfl, rfl, ef8, by rw [ck_kV]; exact hb8, val_const hd7, ?_⟩
    rw [drop_const]
    have hlt := filt_ne_len hd7
    obtain ⟨ps7, wp7, lp7⟩ := wk7.passed
    have hx9 := heL d7 (hsub d7 hd7)
    refine ⟨(rem.filter fun c => decide (c ≠ d7)).length, hlt, rem.filter fun c => decide (c ≠ d7), ns2 ++ ns7, ps ++ ps7, d7, b7, _, rfl, rfl, bu8.self, upd_same, at_ne er8 rgfd, at_ne hb8 (ne_of hb8 ef8 (by intro z; cases z)), wk.app hl wp7, last_app hl lp7, hsub d7 hd7, fun x hx => ?_, fun x hx => hsub x (List.mem_filter.mp hx).1, ?_⟩
    · rcases hcov x hx with h | h
      · by_cases hxd : x = d7
        · right
          have := last_app hl lp7
          obtain ⟨i, hi⟩ := last_snoc this
          rw [hi, hxd]
          exact List.mem_append_right _ (List.mem_singleton.mpr rfl)
        · exact .inl (List.mem_filter.mpr ⟨h, by simpa using hxd⟩)
      · right
        rcases List.mem_cons.mp h with h | h
        · rw [h]; exact List.mem_cons_self ..
        · exact List.mem_cons_of_mem _ (List.mem_append_left _ h)
    · rw [List.length_append]; omega
  · have z : rem = [] := by
      have : ¬ 0 < rem.length := fun h => z (decide_eq_true (by omega))
      cases rem with
      | nil => rfl
      | cons a b => exact absurd (Nat.succ_pos _) this
    subst z
    -- the way back
    refine ⟨_, rfl, .inl ⟨rfl, _, SqL.of er⟩, ?_⟩
    refine ⟨_, rfl, _, rfl, fun sn nsn => ⟨_, rfl, upd_same, b5, ck d, rfl, ?_, ?_⟩⟩
    · rw [ck_kV]
      have := bu _ _ (ne_of hb5 efd5 (by intro z; cases z)) hb5
      exact at_ne this (ne_of_none this nsn)
    rw [upd_upd]
    obtain ⟨H7, hH7⟩ : ∃ x, x = upd H sn (.dT [(ck d, .bl true)]) := ⟨_, rfl⟩
    rw [← hH7]
    have s7 : Same H H7 := by rw [hH7]; exact same_new nsn
    have esn : H7 sn = some (.dT [(ck d, .bl true)]) := by rw [hH7]; exact upd_same
    clear hH7
    have hgH7 := hgH.tk s7
    refine ⟨succ r, g, sn, .ref b9, here, L, [d], rfl, hgH7.at, gr.cl, by omega, ⟨b9, rfl, s7 _ _ eb⟩, hhL, ⟨_, .inl esn, .cons ⟨rfl, trivial⟩ .nil⟩, ⟨d, List.mem_singleton.mpr rfl, (he.cl here hhe d).mp hd5⟩, fun H8 t8 l8 z8 ns8 d8 s8 et8 nl8 el8 hz8 hd8 wk8 hn8 => ?_⟩
    obtain rfl := List.mem_singleton.mp hd8
    have s78 := s7.trans s8
    have er8 := s78 _ _ er
    refine ⟨t8, _, _, _, rfl, rfl, SqT.of et8, atI_nat (j := 0) rfl, rg, l8, _, _, rfl, rfl, er8, el8, ?_, ?_⟩
    · rw [List.length_map, List.length_map]
      have : ns2.length + ns8.length ≤ 100001 := by have : ([] : List Cr).length = 0 := rfl; omega
      exact Nat.le_of_lt (big _ this)
    obtain ⟨ps8, wp8, lp8⟩ := wk8.passed
    have er9 : upd H8 rg (.lst (ns2.map V.int ++ ns8.map V.int)) rg = some (.lst ((ns2 ++ ns8).map V.int)) := by rw [upd_same, List.map_append]
    have bu9 : But fd H5 (upd H8 rg (.lst (ns2.map V.int ++ ns8.map V.int))) := (bu.trans (But.same s78)).put nrg5
    obtain ⟨H9, hH9⟩ : ∃ x, x = upd H8 rg (.lst (ns2.map V.int ++ ns8.map V.int)) := ⟨_, rfl⟩
    rw [← hH9] at er9 bu9 ⊢
    clear hH9
    have el9 := bu9 _ _ (ne_of el5 efd5 (by intro z; cases z)) el5
    refine ⟨_, rfl, l5, _, rfl, .inl ⟨SqL.of el9, fun ta nta => ?_⟩⟩
    refine ⟨_, rfl, rg, _, rfl, .inl ⟨SqL.of (at_ne er9 (ne_of_none er9 nta)), fun tb ntb => ?_⟩⟩
    obtain ⟨nba, ntb0⟩ := upd_none ntb
    refine ⟨by show 2 ≤ sizeLine; decide, fun tc ntc => ?_⟩
    obtain ⟨ncb, ntc0⟩ := upd_none ntc
    obtain ⟨nca, ntc1⟩ := upd_none ntc0
    obtain ⟨ps1, wp1, lp1⟩ := wk5.passed
    have hs : Same H0 H9 := (bu9.toSame' nfd0 (s04.trans s5))
    have hnl : ([] : List Cr).length = 0 := rfl
    refine q _ tc ns1 (ns2 ++ ns8) d8 ps1 (ps ++ ps8) (((hs.trans (same_new nta)).trans (same_new ntb)).trans (same_new ntc)) ⟨ta, tb, upd_same, at_ne (at_ne upd_same (Ne.symm nba)) (Ne.symm nca), at_ne upd_same (Ne.symm ncb)⟩
      ⟨wp1, lp1, wk.app hl wp8, last_app hl lp8, by omega, by rw [List.length_append]; omega, fun x => ⟨fun hx => (he.cl d8 hd5 x).mpr ((wk.app hl wp8).reach x hx), fun hx => ?_⟩⟩
    rcases hcov x hx with h | h
    · cases h
    · rcases List.mem_cons.mp h with h | h
      · rw [h]; exact List.mem_cons_self ..
      · exact List.mem_cons_of_mem _ (List.mem_append_left _ h)
end
end Pb
set_option Elab.async false
set_option linter.all false
/-! depth first, and the order in which crowds are left -/
namespace Pb
abbrev Sk := List (Cr × Nat)
structure Dfs (S : Cr → List (Int × Cr)) (c0 : Cr) (F : List Cr) (K : Sk) (L : List Cr) : Prop where
  ln : L.Nodup
  lm : ∀ c, c ∈ L ↔ c ∈ F ∨ ∃ n, (c, n) ∈ K
  fd : F.Nodup
  dj : ∀ c n, (c, n) ∈ K → c ∉ F
  kn : K.Pairwise fun a b => a.1 ≠ b.1
  re : ∀ c ∈ L, Reach S c0 c
  c0 : c0 ∈ L
  fi : ∀ c ∈ F, ∀ p ∈ S c, p.2 ∈ L
  st : ∀ c n, (c, n) ∈ K → n ≤ (S c).length ∧ ∀ j, j < n → ∀ p, (S c)[j]? = some p → p.2 ∈ L
  pw : K.Pairwise fun a b => Reach S a.1 b.1
  po : ∀ A x B, F = A ++ x :: B → ∀ c ∈ A ++ [x], ∀ p ∈ S c, p.2 ∈ A ++ [x] ∨ Reach S p.2 x
structure Post (S : Cr → List (Int × Cr)) (c0 : Cr) (F : List Cr) : Prop where
  nd : F.Nodup
  mem : ∀ c, c ∈ F ↔ Reach S c0 c
  po : ∀ A x B, F = A ++ x :: B → ∀ c ∈ A ++ [x], ∀ p ∈ S c, p.2 ∈ A ++ [x] ∨ Reach S p.2 x
section
variable {S : Cr → List (Int × Cr)} {c0 : Cr} {F L : List Cr} {K : Sk}
theorem Dfs.start (S : Cr → List (Int × Cr)) (c0 : Cr) : Dfs S c0 [] [(c0, 0)] [c0] := by
  refine ⟨nd1 _, fun c => ?_, List.nodup_nil, (fun c n _ h => nomatch h), List.pairwise_singleton .., (fun c hc => by rw [List.mem_singleton.mp hc]; exact .refl _), List.mem_singleton.mpr rfl, (fun c hc => nomatch hc), fun c n h => ?_, List.pairwise_singleton .., fun A x B h => ?_⟩
  · rw [List.mem_singleton]
    constructor
    · rintro rfl; exact .inr ⟨0, List.mem_singleton.mpr rfl⟩
    · rintro (h | ⟨n, h⟩)
      · cases h
      · exact congrArg Prod.fst (List.mem_singleton.mp h)
  · have := congrArg Prod.snd (List.mem_singleton.mp h)
    have hn : n = 0 := this
    subst hn
    exact ⟨Nat.zero_le _, fun j hj => absurd hj (Nat.not_lt_zero _)⟩
  · have := congrArg List.length h
    simp at this
theorem Dfs.old {c b : Cr} {n : Nat} {p : Int × Cr} (d : Dfs S c0 F (K ++ [(c, n)]) L) (hp : (S c)[n]? = some p) (hb : p.2 ∈ L) : Dfs S c0 F (K ++ [(c, n + 1)]) L := by
  have hm : ∀ x m, (x, m) ∈ K ++ [(c, n + 1)] → (x, m) ∈ K ∨ x = c ∧ m = n + 1 := fun x m h => by
    rcases List.mem_append.mp h with h | h
    · exact .inl h
    · have := List.mem_singleton.mp h; exact .inr ⟨congrArg Prod.fst this, congrArg Prod.snd this⟩
  have hc : (c, n) ∈ K ++ [(c, n)] := List.mem_append_right _ (List.mem_singleton.mpr rfl)
  refine ⟨d.ln, fun x => ?_, d.fd, fun x m h => ?_, ?_, d.re, d.c0, d.fi, fun x m h => ?_, ?_, d.po⟩
  · rw [d.lm x]
    constructor
    · rintro (h | ⟨m, h⟩)
      · exact .inl h
      · rcases List.mem_append.mp h with h | h
        · exact .inr ⟨m, List.mem_append_left _ h⟩
        · have : x = c := congrArg Prod.fst (List.mem_singleton.mp h)
          exact .inr ⟨n + 1, by rw [this]; exact List.mem_append_right _ (List.mem_singleton.mpr rfl)⟩
    · rintro (h | ⟨m, h⟩)
      · exact .inl h
      · rcases hm x m h with h | ⟨rfl, _⟩
        · exact .inr ⟨m, List.mem_append_left _ h⟩
        · exact .inr ⟨n, hc⟩
  · rcases hm x m h with h | ⟨rfl, _⟩
    · exact d.dj x m (List.mem_append_left _ h)
    · exact d.dj _ _ hc
  · have := d.kn
    rw [List.pairwise_append] at this ⊢
    refine ⟨this.1, List.pairwise_singleton .., fun a ha b hb => ?_⟩
    rw [List.mem_singleton.mp hb]
    exact this.2.2 a ha (c, n) (List.mem_singleton.mpr rfl)
  · rcases hm x m h with h | ⟨rfl, rfl⟩
    · exact d.st x m (List.mem_append_left _ h)
    · obtain ⟨h1, h2⟩ := d.st _ _ hc
      refine ⟨(List.getElem?_eq_some_iff.mp hp).1, fun j hj q hq => ?_⟩
      by_cases e : j = n
      · subst e; rw [hp] at hq; cases hq; exact hb
      · exact h2 j (by omega) q hq
  · have := d.pw
    rw [List.pairwise_append] at this ⊢
    refine ⟨this.1, List.pairwise_singleton .., fun a ha b hb => ?_⟩
    rw [List.mem_singleton.mp hb]
    exact this.2.2 a ha (c, n) (List.mem_singleton.mpr rfl)
theorem Dfs.push {c : Cr} {n : Nat} {p : Int × Cr} (d : Dfs S c0 F (K ++ [(c, n)]) L) (hp : (S c)[n]? = some p) (hb : p.2 ∉ L) : Dfs S c0 F (K ++ [(c, n + 1)] ++ [(p.2, 0)]) (L ++ [p.2]) := by
  have hc : (c, n) ∈ K ++ [(c, n)] := List.mem_append_right _ (List.mem_singleton.mpr rfl)
  have hcL : c ∈ L := (d.lm c).mpr (.inr ⟨n, hc⟩)
  have hbK : ∀ x m, (x, m) ∈ K ++ [(c, n)] → x ∈ L := fun x m h => (d.lm x).mpr (.inr ⟨m, h⟩)
  have he : Edge S c p.2 := ⟨p.1, List.mem_of_getElem? hp⟩
  have hm : ∀ x m, (x, m) ∈ K ++ [(c, n + 1)] ++ [(p.2, 0)] → (x, m) ∈ K ∨ (x = c ∧ m = n + 1) ∨ x = p.2 ∧ m = 0 := fun x m h => by
    rcases List.mem_append.mp h with h | h
    · rcases List.mem_append.mp h with h | h
      · exact .inl h
      · have := List.mem_singleton.mp h; exact .inr (.inl ⟨congrArg Prod.fst this, congrArg Prod.snd this⟩)
    · have := List.mem_singleton.mp h; exact .inr (.inr ⟨congrArg Prod.fst this, congrArg Prod.snd this⟩)
  refine ⟨List.nodup_append.mpr ⟨d.ln, nd1 _, fun x hx y hy => ?_⟩, fun x => ?_, d.fd, fun x m h => ?_, ?_, fun x hx => ?_, List.mem_append_left _ d.c0, fun x hx q hq => List.mem_append_left _ (d.fi x hx q hq), fun x m h => ?_, ?_, d.po⟩
  · rw [List.mem_singleton.mp hy]; intro e; rw [e] at hx; exact hb hx
  · rw [List.mem_append, d.lm x, List.mem_singleton]
    constructor
    · rintro ((h | ⟨m, h⟩) | h)
      · exact .inl h
      · rcases List.mem_append.mp h with h | h
        · exact .inr ⟨m, List.mem_append_left _ (List.mem_append_left _ h)⟩
        · have : x = c := congrArg Prod.fst (List.mem_singleton.mp h)
          exact .inr ⟨n + 1, by rw [this]; exact List.mem_append_left _ (List.mem_append_right _ (List.mem_singleton.mpr rfl))⟩
      · exact .inr ⟨0, by rw [h]; exact List.mem_append_right _ (List.mem_singleton.mpr rfl)⟩
    · rintro (h | ⟨m, h⟩)
      · exact .inl (.inl h)
      · rcases hm x m h with h | ⟨h, _⟩ | ⟨h, _⟩
        · exact .inl (.inr ⟨m, List.mem_append_left _ h⟩)
        · exact .inl (.inr ⟨n, by rw [h]; exact hc⟩)
        · exact .inr h
  · rcases hm x m h with h | ⟨h, _⟩ | ⟨h, _⟩
    · exact d.dj x m (List.mem_append_left _ h)
    · rw [h]; exact d.dj _ _ hc
    · rw [h]; exact fun z => hb ((d.lm _).mpr (.inl z))
  · have := d.kn
    rw [List.pairwise_append] at this
    rw [List.pairwise_append, List.pairwise_append]
    refine ⟨⟨this.1, List.pairwise_singleton .., fun a ha b hb => ?_⟩, List.pairwise_singleton .., fun a ha b hb2 => ?_⟩
    · rw [List.mem_singleton.mp hb]
      exact this.2.2 a ha (c, n) (List.mem_singleton.mpr rfl)
    · rw [List.mem_singleton.mp hb2]
      intro e
      have e : a.1 = p.2 := e
      rw [← e] at hb
      rcases List.mem_append.mp ha with ha | ha
      · exact hb (hbK a.1 a.2 (List.mem_append_left _ ha))
      · rw [List.mem_singleton.mp ha] at hb; exact hb hcL
  · rcases List.mem_append.mp hx with hx | hx
    · exact d.re x hx
    · rw [List.mem_singleton.mp hx]; exact (d.re c hcL).tail he
  · rcases hm x m h with h | ⟨h1, h2⟩ | ⟨h1, h2⟩
    · obtain ⟨g1, g2⟩ := d.st x m (List.mem_append_left _ h)
      exact ⟨g1, fun j hj q hq => List.mem_append_left _ (g2 j hj q hq)⟩
    · subst h1 h2
      obtain ⟨g1, g2⟩ := d.st _ _ hc
      refine ⟨(List.getElem?_eq_some_iff.mp hp).1, fun j hj q hq => ?_⟩
      by_cases e : j = n
      · subst e; rw [hp] at hq; cases hq; exact List.mem_append_right _ (List.mem_singleton.mpr rfl)
      · exact List.mem_append_left _ (g2 j (by omega) q hq)
    · rw [h2]; exact ⟨Nat.zero_le _, fun j hj => absurd hj (Nat.not_lt_zero _)⟩
  · have := d.pw
    rw [List.pairwise_append] at this
    rw [List.pairwise_append, List.pairwise_append]
    refine ⟨⟨this.1, List.pairwise_singleton .., fun a ha b hb => ?_⟩, List.pairwise_singleton .., fun a ha b hb2 => ?_⟩
    · rw [List.mem_singleton.mp hb]
      exact this.2.2 a ha (c, n) (List.mem_singleton.mpr rfl)
    · rw [List.mem_singleton.mp hb2]
      rcases List.mem_append.mp ha with ha | ha
      · exact (this.2.2 a ha (c, n) (List.mem_singleton.mpr rfl)).tail he
      · rw [List.mem_singleton.mp ha]; exact .one he
theorem Dfs.fin {c : Cr} {n : Nat} (d : Dfs S c0 F (K ++ [(c, n)]) L) (hn : (S c).length ≤ n) : Dfs S c0 (F ++ [c]) K L := by
  have hc : (c, n) ∈ K ++ [(c, n)] := List.mem_append_right _ (List.mem_singleton.mpr rfl)
  have hcF := d.dj _ _ hc
  have kn := d.kn
  have pw := d.pw
  rw [List.pairwise_append] at kn pw
  have hsc : ∀ p ∈ S c, p.2 ∈ L := fun p hp => by
    obtain ⟨j, hj⟩ := List.mem_iff_getElem?.mp hp
    have := (List.getElem?_eq_some_iff.mp hj).1
    exact (d.st _ _ hc).2 j (by omega) p hj
  refine ⟨d.ln, fun x => ?_, List.nodup_append.mpr ⟨d.fd, nd1 _, fun x hx y hy => ?_⟩, fun x m h => ?_, kn.1, d.re, d.c0, fun x hx p hp => ?_, fun x m h => d.st x m (List.mem_append_left _ h), pw.1, fun A x B h y hy p hp => ?_⟩
  · rw [d.lm x]
    constructor
    · rintro (h | ⟨m, h⟩)
      · exact .inl (List.mem_append_left _ h)
      · rcases List.mem_append.mp h with h | h
        · exact .inr ⟨m, h⟩
        · exact .inl (List.mem_append_right _ (List.mem_singleton.mpr (congrArg Prod.fst (List.mem_singleton.mp h))))
    · rintro (h | ⟨m, h⟩)
      · rcases List.mem_append.mp h with h | h
        · exact .inl h
        · rw [List.mem_singleton.mp h]; exact .inr ⟨n, hc⟩
      · exact .inr ⟨m, List.mem_append_left _ h⟩
  · rw [List.mem_singleton.mp hy]; intro e; rw [e] at hx; exact hcF hx
  · intro z
    rcases List.mem_append.mp z with z | z
    · exact d.dj x m (List.mem_append_left _ h) z
    · exact kn.2.2 (x, m) h (c, n) (List.mem_singleton.mpr rfl) (List.mem_singleton.mp z)
  · rcases List.mem_append.mp hx with hx | hx
    · exact d.fi x hx p hp
    · rw [List.mem_singleton.mp hx] at hp; exact hsc p hp
  · rcases List.eq_nil_or_concat B with rfl | ⟨B', b, rfl⟩
    · have h' : F ++ [c] = A ++ [x] := h
      obtain ⟨rfl, e⟩ := List.append_inj' h' rfl
      obtain rfl : c = x := by simpa using e
      have hpL : p.2 ∈ L := by
        rcases List.mem_append.mp hy with hy | hy
        · exact d.fi y hy p hp
        · rw [List.mem_singleton.mp hy] at hp; exact hsc p hp
      rcases (d.lm p.2).mp hpL with h | ⟨m, h⟩
      · exact .inl (List.mem_append_left _ h)
      · rcases List.mem_append.mp h with h | h
        · exact .inr (pw.2.2 (p.2, m) h (c, n) (List.mem_singleton.mpr rfl))
        · exact .inl (List.mem_append_right _ (List.mem_singleton.mpr (congrArg Prod.fst (List.mem_singleton.mp h))))
    · rw [List.concat_eq_append, ← List.cons_append, ← List.append_assoc] at h
      have := (List.append_inj' h rfl).1
      exact d.po A x B' this y hy p hp
theorem Dfs.done (d : Dfs S c0 F [] L) : Post S c0 F := by
  have hm : ∀ c, c ∈ L ↔ c ∈ F := fun c => by
    rw [d.lm c]
    exact ⟨fun h => h.elim id (fun ⟨_, h⟩ => nomatch h), Or.inl⟩
  refine ⟨d.fd, fun c => ⟨fun h => d.re c ((hm c).mpr h), fun h => ?_⟩, d.po⟩
  refine h.closed (P := fun c => c ∈ F) (fun x y hx ⟨n, hy⟩ => (hm y).mp (d.fi x hx (n, y) hy)) ((hm _).mp d.c0)
/-- who reaches r and is not reached by it reaches one that is left after r -/
theorem Post.later {r : Cr} (P : Post S c0 F) : ∀ (k : Nat) {v : Cr} {A B : List Cr}, F = A ++ v :: B → B.length ≤ k → Reach S v r → ¬ Reach S r v → ∃ w A B, Reach S v w ∧ F = A ++ r :: B ∧ w ∈ B
  | k, v, A, B, hF, hk, hvr, hrv => by
    have hvF : v ∈ F := by rw [hF]; simp
    have hrF : r ∈ F := (P.mem r).mpr (((P.mem v).mp hvF).trans hvr)
    by_cases hrA : r ∈ A ++ [v]
    · have hrA' : r ∈ A := by
        rcases List.mem_append.mp hrA with h | h
        · exact h
        · rw [List.mem_singleton.mp h] at hrv; exact absurd (.refl _) hrv
      obtain ⟨A1, A2, rfl⟩ := List.append_of_mem hrA'
      exact ⟨v, A1, A2 ++ v :: B, .refl _, by rw [hF]; simp, by simp⟩
    · -- the walk from v to r leaves A ++ [v]
      have : ∃ d, Reach S v d ∧ Reach S d r ∧ d ∉ A ++ [v] ∧ Reach S d v := by
        have aux : ∀ {a : Cr}, Reach S a r → a ∈ A ++ [v] → Reach S v a → ∃ d, Reach S v d ∧ Reach S d r ∧ d ∉ A ++ [v] ∧ Reach S d v := by
          intro a har
          have gen : ∀ {b : Cr}, Reach S a b → Reach S b r → a ∈ A ++ [v] → Reach S v a → b ∈ A ++ [v] ∨ ∃ d, Reach S v d ∧ Reach S d r ∧ d ∉ A ++ [v] ∧ Reach S d v := by
            intro b hab
            induction hab with
            | refl => intro _ h _; exact .inl h
            | @tail b d hab hbd ih =>
              intro hbr ha hva
              rcases ih (Reach.head hbd hbr) ha hva with h | h
              · by_cases hd : d ∈ A ++ [v]
                · exact .inl hd
                · obtain ⟨n, hn⟩ := hbd
                  rcases P.po A v B hF b h (n, d) hn with h1 | h1
                  · exact absurd h1 hd
                  · exact .inr ⟨d, (hva.trans hab).tail ⟨n, hn⟩, hbr, hd, h1⟩
              · exact .inr h
          intro ha hva
          rcases gen har (.refl _) ha hva with h | h
          · exact absurd h hrA
          · exact h
        exact aux hvr (by simp) (.refl _)
      obtain ⟨d, hvd, hdr, hdA, hdv⟩ := this
      have hdF : d ∈ F := (P.mem d).mpr (((P.mem v).mp hvF).trans hvd)
      have hdB : d ∈ B := by
        rw [hF] at hdF
        rcases List.mem_append.mp hdF with h | h
        · exact absurd (List.mem_append_left _ h) hdA
        · rcases List.mem_cons.mp h with h | h
          · exact absurd (by rw [h]; simp) hdA
          · exact h
      obtain ⟨B1, B2, rfl⟩ := List.append_of_mem hdB
      match k, hk with
      | 0, hk => simp at hk
      | k + 1, hk =>
        obtain ⟨w, A', B', h1, h2, h3⟩ := P.later k (v := d) (A := A ++ v :: B1) (B := B2) (by rw [hF]; simp) (by simp at hk; omega) hdr fun z => hrv (z.trans hdv)
        exact ⟨w, A', B', hvd.trans h1, h2, h3⟩
end
end Pb
set_option Elab.async false
set_option linter.all false
set_option maxRecDepth 100000
set_option maxHeartbeats 4000000
namespace Pb
open PySem PySem.Spec PyProof.Rows L2
open C8 (Cal pe_c)
section
variable {P : Program} {w : World} {K : PySem.W.Frag} {mg : Str → Option Value} {base : Heap}
/-! ### last_left -/
theorem sc_last_left : FnScope ["graph", "crowd", "found", "seen", "line", "here", "at", "behind"] ["graph", "crowd"] (defScope s_last_left) := ⟨rfl, rfl, rfl, by decide +kernel, rfl, by decide +kernel, by decide +kernel⟩
def mu (L : List Cr) (Kk : Sk) : Nat := 102 * (101 - L.length) + (Kk.map fun e => 101 - e.2).sum
theorem mu_snoc (L : List Cr) (Kk : Sk) (e : Cr × Nat) : mu L (Kk ++ [e]) = 102 * (101 - L.length) + (Kk.map fun e => 101 - e.2).sum + (101 - e.2) := by
  unfold mu
  rw [List.map_append, List.sum_append]
  show _ + (_ + ((101 - e.2) + 0)) = _
  omega
def SkAt (H : Hp) (a : Addr) (e : Cr × Nat) : Prop := ∃ b, H a = some (.lst [.ref b, .int (e.2 : Nat)]) ∧ H b = some (.tup (e.1.map V.int))
/-- the heap of the walk -/
structure LfAt (H0 H : Hp) (fn sn ln : Addr) (F : List Cr) (Kk : Sk) (L : List Cr) : Prop where
  s : Same H0 H
  f : ∃ vs, H fn = some (.lst vs) ∧ Paired (CrAt H) vs F
  d : ∃ ks : List (List Key × V), H sn = some (.dT ks) ∧ Paired (fun (kv : List Key × V) c => kv.1 = ck c ∧ True) ks L
  l : ∃ as : List Addr, H ln = some (.lst (as.map V.ref)) ∧ Paired (SkAt H) as Kk ∧ as.Nodup ∧ ∀ a ∈ as, a ≠ fn ∧ a ≠ ln ∧ H0 a = none
def spLeft : Sp := fun vs H Q _ => ∃ (S : Cr → List (Int × Cr)) (g : Addr) (v : V) (c0 : Cr) (ks : List Cr), vs = [.ref g, v] ∧ GrAt H g S ks ∧ (∀ c ∈ ks, ∀ p ∈ S c, p.2 ∈ ks) ∧ ks.length ≤ 100 ∧ (∀ c, (S c).length ≤ 100) ∧ CrAt H v c0 ∧ c0 ∈ ks ∧
  ∀ H' l vs F, Same H H' → H l = none → H' l = some (.lst vs) → Paired (CrAt H') vs F.reverse → Post S c0 F → Q (.ref l) H'
theorem paired_rev {α β : Type} {F : α → β → Prop} {xs : List α} {ys : List β} (h : Paired F xs ys) : Paired F xs.reverse ys.reverse := by
  induction h with
  | nil => exact .nil
  | cons f _ ih => rw [List.reverse_cons, List.reverse_cons]; exact ih.snoc f
theorem sum_snoc (Kk : Sk) (e : Cr × Nat) : ((Kk ++ [e]).map fun e => 101 - e.2).sum = (Kk.map fun e => 101 - e.2).sum + (101 - e.2) := by
  rw [List.map_append, List.sum_append]
  show _ + ((101 - e.2) + 0) = _
  omega
theorem sk_mono {H H' : Hp} (k : Tk H H') : ∀ {as : List Addr} {Kk : Sk}, Paired (SkAt H) as Kk → (∀ a ∈ as, ∀ o, H a = some o → H' a = some o) → Paired (SkAt H') as Kk
  | _, _, .nil, _ => .nil
  | _, _, .cons ⟨b, h1, h2⟩ t, h => .cons ⟨b, h _ (List.mem_cons_self ..) _ h1, k _ _ h2⟩ (sk_mono k t fun a ha => h a (List.mem_cons_of_mem _ ha))
theorem ok_last_left (T : Tx mg) (D : DefAt K mg "last_left" s_last_left []) : Cal P w K mg base 1 "last_left" spLeft [] := by
  refine cal0 D sc_last_left (fun _ _ _ _ _ _ us hl => match us, hl with | [_, _], _ => rfl) (fun vs H Q E ⟨_, _, _, _, _, e, _⟩ => by rw [e]; rfl) fun f cdv A outer s H0 vs Q E hr hsp => ?_
  obtain ⟨S, g, _, c0, ks, rfl, hG, hcl, hkl, hS, ⟨a0, rfl, ha0⟩, hc0, q⟩ := hsp
  have hu := hu_of hr
  refine ⟨_, (pss_cons (ps_set (i := 2) sc_last_left.nd rfl (.inl rfl) (pe_lst pa_nil))
    (pss_cons (ps_set (i := 3) sc_last_left.nd rfl (.inl rfl) (pe_disp1T hu (pv 1) pe_bl))
    (pss_cons (ps_set (i := 4) sc_last_left.nd rfl (.inl rfl) (pe_lst (pa_cons (pe_lst (pa_cons (pv 1) (pa_cons pe_int pa_nil))) pa_nil)))
    (pss_cons (ps_while PassesOwn.never (pt_cmpR op_gt (pe_callB call_len_seq (by rfl) T.len boot_len (pa_cons (pv 4) pa_nil)) pe_int (nomark _))
      (pss_cons (ps_asg (pe_ix ix_list (pv 4) (pe_un un_neg pe_int) (fun _ _ => rfl)) (pg_unl rfl (pgs_cons (pg_name (i := 5) sc_last_left.nd rfl (.inl rfl)) (pgs_cons (pg_name (i := 6) sc_last_left.nd rfl (.inl rfl)) pgs_nil))))
      (pss_one (ps_if (pt_cmpR op_lt (pv 6) (pe_callB call_len_seq (by rfl) T.len boot_len (pa_cons (pe_dget hu (pv 0) (pv 5) (fun _ _ => rfl)) pa_nil)) (nomark _))
        (pss_cons (ps_asg (pe_op op_add (pv 6) pe_int) (pg_sub (pe_ix ix_list (pv 4) (pe_un un_neg pe_int) (fun _ _ => rfl)) pe_int set_list))
        (pss_cons (ps_set (i := 7) sc_last_left.nd rfl (.inl rfl) (pe_ix ix_tup (pe_ix ix_list (pe_dget hu (pv 0) (pv 5) (fun _ _ => rfl)) (pv 6) (fun _ _ => rfl)) pe_int (fun _ _ => rfl)))
        (pss_one (ps_if (pt_cmp (pc_dnotin hu (pv 7) (pv 3)))
          (pss_cons (ps_dput hu (pv 3) (pv 7) pe_bl rfl)
          (pss_one (ps_expr (pe_bm PySem.F.plainAttrs_list PySem.F.slot_list_append PySem.F.type_list_append mt_append (pv 4) (pa_cons (pe_lst (pa_cons (pv 7) (pa_cons pe_int pa_nil))) pa_nil))))) pss_nil)))) (pss_cons (ps_expr (pe_bm PySem.F.plainAttrs_list PySem.F.slot_list_append PySem.F.type_list_append mt_append (pv 2) (pa_cons (pv 5) pa_nil)))
        (pss_one (ps_expr (pe_bm0 PySem.F.plainAttrs_list PySem.F.slot_list_pop PySem.F.type_list_pop mt_pop (pv 4)))))))))
    (pss_one (ps_ret (pe_revL (pv 2)))))))), ?_⟩
  -- found = []; seen = {crowd: True}; line = [[crowd, 0]]
  refine ⟨by show 0 ≤ sizeLine; decide, fun fn nfn => ?_⟩
  have s1 : Same H0 (upd H0 fn (.lst [])) := same_new nfn
  refine fun sn nsn => ⟨_, rfl, upd_same, a0, ck c0, rfl, by rw [ck_kV]; exact at_ne (s1 _ _ ha0) (ne_of_none (s1 _ _ ha0) nsn), ?_⟩
  rw [upd_upd]
  obtain ⟨nsf, nsn0⟩ := upd_none nsn
  refine ⟨_, rfl, by show 2 ≤ sizeLine; decide, fun t nt => ⟨by show 1 ≤ sizeLine; decide, fun ln nln => ?_⟩⟩
  obtain ⟨nts, nt1⟩ := upd_none nt
  obtain ⟨ntf, nt0⟩ := upd_none nt1
  obtain ⟨nlt, nln1⟩ := upd_none nln
  obtain ⟨nls, nln2⟩ := upd_none nln1
  obtain ⟨nlf, nln0⟩ := upd_none nln2
  generalize hH : upd (upd (upd (upd H0 fn (.lst [])) sn (.dT [(ck c0, .bl true)])) t (.lst [.ref a0, .int 0])) ln (.lst [.ref t]) = H
  have hL0 : LfAt H0 H fn sn ln [] [(c0, 0)] [c0] := by
    refine ⟨by rw [← hH]; exact same_put (same_put (same_put s1 nsn0) nt0) nln0, ⟨[], by rw [← hH]; exact at_ne (at_ne (at_ne upd_same (Ne.symm nsf)) (Ne.symm ntf)) (Ne.symm nlf), .nil⟩, ⟨_, by rw [← hH]; exact at_ne (at_ne upd_same (Ne.symm nts)) (Ne.symm nls), .cons ⟨rfl, trivial⟩ .nil⟩,
      ⟨[t], by rw [← hH]; exact upd_same, .cons ⟨a0, by rw [← hH]; exact at_ne upd_same (Ne.symm nlt), ?_⟩ .nil, nd1 _, fun a ha => ?_⟩⟩
    · rw [← hH]; exact (same_put (same_put (same_put s1 nsn0) nt0) nln0) _ _ ha0
    · rw [List.mem_singleton.mp ha]; exact ⟨ntf, Ne.symm nlt, nt0⟩
  clear hH nt nt1 nln nln1 nln2 nsn
  have hLk : ∀ {F : List Cr} {Kk : Sk} {L : List Cr}, Dfs S c0 F Kk L → L.length ≤ 100 := fun d => by
    refine Nat.le_trans (nodup_len d.ln fun c hc => ?_) hkl
    exact (d.re c hc).closed (P := fun c => c ∈ ks) (fun x y hx ⟨n, hy⟩ => hcl x hx (n, y) hy) hc0
  have hin : ∀ {c : Cr}, Reach S c0 c → c ∈ ks := fun h => h.closed (P := fun c => c ∈ ks) (fun x y hx ⟨n, hy⟩ => hcl x hx (n, y) hy) hc0
  refine ⟨fun m σ H => ∃ (F : List Cr) (Kk : Sk) (L : List Cr) (y5 y6 y7 : Option V), m = mu L Kk ∧ σ = [some (.ref g), some (.ref a0), some (.ref fn), some (.ref sn), some (.ref ln), y5, y6, y7] ∧ LfAt H0 H fn sn ln F Kk L ∧ Dfs S c0 F Kk L,
    ⟨_, [], [(c0, 0)], [c0], none, none, none, rfl, rfl, hL0, Dfs.start _ _⟩, ?_⟩
  rintro m σ H ⟨F, Kk, L, y5, y6, y7, rfl, rfl, hL, df⟩
  obtain ⟨s1, ⟨vsF, ef, pF⟩, ⟨kd, ed, pd⟩, ⟨as, el, pl, and_, hna⟩⟩ := id hL
  have hLl := hLk df
  refine ⟨_, rfl, ln, _, rfl, .inl (SqL.of el), _, _, rfl, rfl, _, rfl, ?_⟩
  rw [List.length_map]
  refine ite2 (fun z => ?_) (fun z => ?_)
  · have z : 0 < as.length := by have := of_decide_eq_true z; omega
    refine ⟨fun σ' H' => ∃ m', m' < mu L Kk ∧ ∃ (F : List Cr) (Kk : Sk) (L : List Cr) (y5 y6 y7 : Option V), m' = mu L Kk ∧ σ' = [some (.ref g), some (.ref a0), some (.ref fn), some (.ref sn), some (.ref ln), y5, y6, y7] ∧ LfAt H0 H' fn sn ln F Kk L ∧ Dfs S c0 F Kk L, fun σ' H' ⟨m', h1, h2⟩ => ⟨m', h1, h2⟩, ?_⟩
    rcases List.eq_nil_or_concat Kk with rfl | ⟨K0, ⟨c, n⟩, rfl⟩
    · have := Paired.length pl; rw [this] at z; simp at z
    rw [List.concat_eq_append] at *
    obtain ⟨as0, a, rfl, pl0, b, ea, eb⟩ := paired_last pl
    rw [List.map_append] at el
    have el' : H ln = some (.lst (as0.map V.ref ++ [V.ref a])) := el
    obtain ⟨haf, hal, han⟩ := hna a (List.mem_append_right _ (List.mem_singleton.mpr rfl))
    have haln : a ≠ ln := hal
    -- here, at = line[-1]
    refine ⟨_, rfl, _, rfl, ln, _, _, .ref a, rfl, rfl, SqL.of el', atI_last _ _, a, _, rfl, SqL.of ea, rfl, _, _, rfl, _, _, rfl, rfl, ?_⟩
    have hcm : (c, n) ∈ K0 ++ [(c, n)] := List.mem_append_right _ (List.mem_singleton.mpr rfl)
    have hcL : c ∈ L := (df.lm c).mpr (.inr ⟨n, hcm⟩)
    obtain ⟨kvs, rG, pG⟩ := id hG
    obtain ⟨vg, hvg, lg, ws, rfl, elg, pw⟩ := dk_some (F := fun v c => LsAt H0 v (S c)) pG (hin (df.re c hcL))
    have pw1 : Paired (PrAt H) ws (S c) := prs_tk (Tk.same s1) pw
    have elg1 := s1 _ _ elg
    -- if at < len(graph[here])
    refine ⟨_, rfl, _, rfl, _, rfl, g, .ref lg, rfl, by rw [← hvg]; exact dget_at (rd_same s1 rG) eb, lg, ws, rfl, .inl (SqL.of elg1), _, _, rfl, rfl, _, rfl, ?_⟩
    have hwl := Paired.length pw1
    have hSc := hS c
    have hlK : ∀ e ∈ K0, True := fun _ _ => trivial
    refine ite2 (fun z => ?_) (fun z => ?_)
    · have hn : n < (S c).length := by have := of_decide_eq_true z; omega
      have hp : (S c)[n]? = some (S c)[n] := List.getElem?_eq_getElem hn
      generalize (S c)[n] = p at hp
      obtain ⟨xw, hxw, ta, tu, rfl, hta, tb, rfl, htb⟩ := Paired.getR pw1 hp
      -- line[-1][1] = at + 1
      refine ⟨_, rfl, _, _, rfl, rfl, _, rfl, _, rfl, ln, _, _, .ref a, rfl, rfl, SqL.of el', atI_last _ _, a, _, 1, 1, rfl, rfl, ea, rfl, ?_⟩
      obtain ⟨H1, hH1⟩ : ∃ x, x = upd H a (.lst [.ref b, .int ((n + 1 : Nat) : Int)]) := ⟨_, rfl⟩
      have hH1' : upd H a (.lst ([V.ref b, .int (n : Nat)].set 1 (.int ((n : Nat) + 1)))) = H1 := by rw [hH1]; rfl
      have b1 : But a H H1 := by rw [hH1]; exact but_upd
      have ea1 : H1 a = some (.lst [.ref b, .int ((n + 1 : Nat) : Int)]) := by rw [hH1]; exact upd_same
      have s2 : Same H0 H1 := by rw [hH1]; exact same_put s1 han
      have k1 : Tk H H1 := by rw [hH1]; exact Tk.mutL ea
      have as0a : ∀ x ∈ as0, x ≠ a := fun x hx e => (List.nodup_append.mp and_).2.2 x hx a (List.mem_singleton.mpr rfl) e
      have hL1 : LfAt H0 H1 fn sn ln F (K0 ++ [(c, n + 1)]) L :=
        ⟨s2, ⟨vsF, b1 _ _ (Ne.symm haf) ef, crs_tk k1 pF⟩, ⟨kd, b1 _ _ (ne_of ed ea (by intro z; cases z)) ed, pd⟩, ⟨as0 ++ [a], by rw [List.map_append]; exact b1 _ _ (Ne.symm haln) el', (sk_mono k1 pl0 fun x hx o e => b1 _ _ (as0a x hx) e).snoc ⟨b, ea1, k1 _ _ eb⟩, and_, hna⟩⟩
      have goal : ∀ (X : Hp → Prop), X H1 → X (upd H a (.lst ([V.ref b, .int (n : Nat)].set 1 (.int ((n : Nat) + 1))))) := fun X h => by rw [hH1']; exact h
      refine goal (fun x => tSeq _ _ _ _ x) ?_
      clear goal hH1' hH1
      obtain ⟨_, ⟨vsF1, ef1, pF1⟩, ⟨kd1, ed1, pd1⟩, ⟨as1, el1, pl1, and1, hna1⟩⟩ := id hL1
      have htb1 := k1 _ _ htb
      -- behind = graph[here][at][1]
      refine ⟨_, rfl, _, rfl, g, .ref lg, rfl, by rw [← hvg]; exact dget_at (rd_same s2 rG) (k1 _ _ eb), _, rfl, lg, ws, _, .ref ta, rfl, rfl, SqL.of (s2 _ _ elg), atI_nat hxw, ta, _, _, _, rfl, rfl, SqT.of (k1 _ _ hta), atI_nat (j := 1) rfl, ?_⟩
      have hmem := dk_isSome (F := fun _ _ => True) pd1 p.2
      refine ⟨_, rfl, _, rfl, sn, _, rfl, dget_at (.inl ed1) htb1, _, rfl, ?_⟩
      rw [hmem]
      by_cases hinL : p.2 ∈ L
      · rw [decide_eq_true hinL]
        refine iteF ⟨mu L (K0 ++ [(c, n + 1)]), ?_, F, K0 ++ [(c, n + 1)], L, _, _, _, rfl, rfl, hL1, df.old (b := c) hp hinL⟩
        rw [mu_snoc, mu_snoc]
        show _ + (101 - (n + 1)) < _ + (101 - n)
        omega
      · rw [decide_eq_false hinL]
        have snln : sn ≠ ln := ne_of ed1 el1 (by intro z; cases z)
        have snfn : sn ≠ fn := ne_of ed1 ef1 (by intro z; cases z)
        refine iteT ⟨_, rfl, _, rfl, sn, _, rfl, DPut.t (k := ck p.2) ed1 (by rw [ck_kV]; exact htb1) (small1000 (by rw [Paired.length pd1]; omega)), ?_⟩
        have el2 := at_ne (o := .dT (putK kd1 (ck p.2) (.bl true))) el1 (Ne.symm snln)
        have k2 : Tk H1 (upd H1 sn (.dT (putK kd1 (ck p.2) (.bl true)))) := Tk.mutD ed1
        have b2 : But sn H1 (upd H1 sn (.dT (putK kd1 (ck p.2) (.bl true)))) := but_upd
        refine ⟨_, rfl, .inl ⟨rfl, _, SqL.of el2⟩, _, rfl, by show 2 ≤ sizeLine; decide, fun t2 nt2 => ?_⟩
        obtain ⟨n2s, nt21⟩ := upd_none nt2
        have nt20 : H0 t2 = none := s2.free nt21
        have lnt2 : ln ≠ t2 := ne_of_none el2 nt2
        have k3 : Tk (upd H1 sn (.dT (putK kd1 (ck p.2) (.bl true)))) (upd (upd H1 sn (.dT (putK kd1 (ck p.2) (.bl true)))) t2 (.lst [.ref tb, .int 0])) := Tk.new nt2
        have el3 := at_ne (o := .lst [.ref tb, .int 0]) el2 lnt2
        have hl1 := Paired.length pl1
        have hKL : as1.length ≤ 200 := by
          have h1 : ((K0 ++ [(c, n + 1)]).map (·.1)).Nodup := by
            have kn := df.kn
            unfold List.Nodup
            rw [List.pairwise_map]
            rw [List.pairwise_append] at kn ⊢
            refine ⟨kn.1, List.pairwise_singleton .., fun x hx y hy => ?_⟩
            rw [List.mem_singleton.mp hy]
            exact kn.2.2 x hx (c, n) (List.mem_singleton.mpr rfl)
          have h2 := nodup_len (m := L) h1 fun x hx => by
            obtain ⟨⟨y, m⟩, hy, rfl⟩ := List.mem_map.mp hx
            rcases List.mem_append.mp hy with hy | hy
            · exact (df.lm y).mpr (.inr ⟨m, List.mem_append_left _ hy⟩)
            · have : y = c := congrArg Prod.fst (List.mem_singleton.mp hy)
              show y ∈ L
              rw [this]; exact hcL
          rw [List.length_map] at h2
          omega
        refine ⟨ln, _, _, rfl, rfl, el3, small1000 (by rw [List.length_map]; omega), ?_⟩
        have k4 := Tk.mutL (o := .lst (as1.map V.ref ++ [.ref t2])) el3
        have k14 := (k2.trans k3).trans k4
        have c14 : ∀ x o, H1 x = some o → x ≠ sn → x ≠ ln → upd (upd (upd H1 sn (.dT (putK kd1 (ck p.2) (.bl true)))) t2 (.lst [.ref tb, .int 0])) ln (.lst (as1.map V.ref ++ [.ref t2])) x = some o := fun x o e h1 h2 => at_ne (at_ne (at_ne e h1) (ne_of_none e nt21)) h2
        have hna1' : ∀ x ∈ as1, x ≠ sn := fun x hx e => by
          have := (hna1 x hx).2.2
          obtain ⟨i, hi⟩ := List.mem_iff_getElem?.mp hx
          obtain ⟨e2, _, b2, hb2, _⟩ := paired_get pl1 hi
          rw [e, ed1] at hb2; cases hb2
        refine ⟨mu (L ++ [p.2]) (K0 ++ [(c, n + 1)] ++ [(p.2, 0)]), ?_, F, K0 ++ [(c, n + 1)] ++ [(p.2, 0)], L ++ [p.2], _, _, _, rfl, rfl, ⟨same_put (same_put (same_put s2 nsn0) nt20) nln0, ⟨vsF1, c14 _ _ ef1 (Ne.symm snfn) (Ne.symm nlf), crs_tk k14 pF1⟩, ⟨putK kd1 (ck p.2) (.bl true), at_ne (at_ne upd_same (Ne.symm n2s)) snln, dk_put (F := fun _ _ => True) pd1 hinL trivial⟩, ⟨as1 ++ [t2], by rw [upd_same, List.map_append]; rfl, ?_, ?_, fun x hx => ?_⟩⟩, df.push hp hinL⟩
        · have hl2 : L.length + 1 ≤ 100 := by
            have := hLk (df.push hp hinL)
            rw [List.length_append] at this
            exact this
          rw [mu_snoc, mu_snoc, sum_snoc, List.length_append]
          have h1 : ([p.2] : List Cr).length = 1 := rfl
          show 102 * (101 - (L.length + [p.2].length)) + (_ + (101 - (n + 1))) + (101 - 0) < 102 * (101 - L.length) + _ + (101 - n)
          omega
        · refine (sk_mono k14 pl1 fun x hx o e => c14 _ _ e (hna1' x hx) (hna1 x hx).2.1).snoc ⟨tb, at_ne upd_same (Ne.symm lnt2), k14 _ _ htb1⟩
        · refine List.nodup_append.mpr ⟨and1, nd1 _, fun x hx y hy e => ?_⟩
          rw [List.mem_singleton.mp hy] at e
          obtain ⟨i, hi⟩ := List.mem_iff_getElem?.mp hx
          obtain ⟨e2, _, b2, hb2, _⟩ := paired_get pl1 hi
          rw [e, nt21] at hb2
          cases hb2
        · rcases List.mem_append.mp hx with hx | hx
          · exact hna1 x hx
          · rw [List.mem_singleton.mp hx]
            exact ⟨(ne_of_none ef1 nt21).symm, Ne.symm lnt2, nt20⟩
    · have hn : (S c).length ≤ n := by
        have : ¬ n < (S c).length := fun h => z (decide_eq_true (by omega))
        omega
      have hFl : vsF.length ≤ 1000 := by
        rw [Paired.length pF]
        have := nodup_len (m := L) df.fd fun x hx => (df.lm x).mpr (.inl hx)
        omega
      refine ⟨_, rfl, .inl ⟨rfl, _, SqL.of ef⟩, _, rfl, fn, _, _, rfl, rfl, ef, small1000 hFl, ?_⟩
      have k1 := Tk.mutL (o := .lst (vsF ++ [.ref b])) ef
      have lnfn : ln ≠ fn := nlf
      have el1 := at_ne (o := .lst (vsF ++ [.ref b])) el' lnfn
      refine ⟨_, rfl, .inl ⟨rfl, _, SqL.of el1⟩, ln, _, .ref a, rfl, rfl, el1, by rw [List.length_append]; show (_ ++ [V.ref a])[_ + 1 - 1]? = _; rw [Nat.add_sub_cancel, List.getElem?_append_right (Nat.le_refl _), Nat.sub_self]; rfl, ?_⟩
      rw [List.dropLast_concat]
      have k2 := Tk.mutL (o := .lst (as0.map V.ref)) el1
      have k12 := k1.trans k2
      refine ⟨mu L K0, ?_, F ++ [c], K0, L, _, _, _, rfl, rfl, ⟨same_put (same_put s1 nfn) nln0, ⟨vsF ++ [.ref b], at_ne upd_same (Ne.symm lnfn), (crs_tk k12 pF).snoc ⟨b, rfl, k12 _ _ eb⟩⟩, ⟨kd, at_ne (at_ne ed (ne_of ed ef (by intro z; cases z))) (ne_of ed el (by intro z; cases z)), pd⟩, ⟨as0, upd_same, sk_mono k12 pl0 fun x hx o e => ?_, (List.nodup_append.mp and_).1, fun x hx => hna x (List.mem_append_left _ hx)⟩⟩, df.fin hn⟩
      · rw [mu_snoc]
        have := (df.st _ _ hcm).1
        show mu L K0 < _ + (101 - n)
        unfold mu
        omega
      · obtain ⟨h1, h2, _⟩ := hna x (List.mem_append_left _ hx)
        exact at_ne (at_ne e h1) h2
  · have z : ¬ 0 < as.length := fun h => z (decide_eq_true (by omega))
    have hK : Kk = [] := by
      have := Paired.length pl
      cases Kk with
      | nil => rfl
      | cons a b => rw [this] at z; exact absurd (Nat.succ_pos _) z
    subst hK
    refine ⟨_, rfl, fn, _, rfl, SqL.of ef, fun rv nrv => ?_⟩
    exact q _ rv vsF.reverse F (s1.trans (same_new nrv)) (s1.free nrv) upd_same (crs_tk (Tk.new nrv) (paired_rev pF)) df.done
end
end Pb
set_option Elab.async false
set_option linter.all false
/-! one round: who reaches x and is not seen yet -/
namespace Pb
def addR (M R : List Cr) (ds : List Cr) : List Cr := ds.foldl (fun R d => if d ∈ M ++ R then R else R ++ [d]) R
theorem addR_snoc (M R ds : List Cr) (d : Cr) : addR M R (ds ++ [d]) = if d ∈ M ++ addR M R ds then addR M R ds else addR M R ds ++ [d] := by
  unfold addR
  rw [List.foldl_append]
  rfl
theorem addR_ext (M : List Cr) : ∀ (ds R : List Cr), ∃ E, addR M R ds = R ++ E
  | [], R => ⟨[], by rw [List.append_nil]; rfl⟩
  | d :: ds, R => by
    show ∃ E, addR M (if d ∈ M ++ R then R else R ++ [d]) ds = R ++ E
    by_cases h : d ∈ M ++ R
    · rw [if_pos h]; exact addR_ext M ds R
    · rw [if_neg h]
      obtain ⟨E, e⟩ := addR_ext M ds (R ++ [d])
      exact ⟨d :: E, by rw [e, List.append_assoc]; rfl⟩
theorem addR_nodup (M : List Cr) : ∀ (ds : List Cr) {R : List Cr}, (M ++ R).Nodup → (M ++ addR M R ds).Nodup
  | [], _, h => h
  | d :: ds, R, h => by
    show (M ++ addR M (if d ∈ M ++ R then R else R ++ [d]) ds).Nodup
    by_cases hd : d ∈ M ++ R
    · rw [if_pos hd]; exact addR_nodup M ds h
    · rw [if_neg hd]
      refine addR_nodup M ds ?_
      rw [← List.append_assoc]
      refine List.nodup_append.mpr ⟨h, nd1 _, fun x hx y hy e => ?_⟩
      rw [List.mem_singleton.mp hy] at e
      exact hd (e ▸ hx)
theorem addR_mem (M : List Cr) : ∀ (ds : List Cr) {R : List Cr} {x : Cr}, x ∈ addR M R ds → x ∈ R ∨ x ∈ ds
  | [], _, _, h => .inl h
  | d :: ds, R, x, h => by
    have h : x ∈ addR M (if d ∈ M ++ R then R else R ++ [d]) ds := h
    rcases addR_mem M ds h with h | h
    · by_cases hd : d ∈ M ++ R
      · rw [if_pos hd] at h; exact .inl h
      · rw [if_neg hd] at h
        rcases List.mem_append.mp h with h | h
        · exact .inl h
        · exact .inr (by rw [List.mem_singleton.mp h]; exact List.mem_cons_self ..)
    · exact .inr (List.mem_cons_of_mem _ h)
theorem addR_has (M : List Cr) : ∀ (ds : List Cr) {R : List Cr} {x : Cr}, x ∈ ds → x ∈ M ++ addR M R ds
  | d :: ds, R, x, h => by
    show x ∈ M ++ addR M (if d ∈ M ++ R then R else R ++ [d]) ds
    rcases List.mem_cons.mp h with rfl | h
    · by_cases hd : x ∈ M ++ R
      · rw [if_pos hd]
        obtain ⟨E, e⟩ := addR_ext M ds R
        rw [e, ← List.append_assoc]
        exact List.mem_append_left _ hd
      · rw [if_neg hd]
        obtain ⟨E, e⟩ := addR_ext M ds (R ++ [x])
        rw [e]
        simp
    · exact addR_has M ds h
/-- a round from x, over what is seen (M), up to k -/
structure RB (S : Cr → List (Int × Cr)) (A : Cr → List Cr) (M : List Cr) (x : Cr) (R : List Cr) (k : Nat) : Prop where
  nd : (M ++ R).Nodup
  re : ∀ c ∈ R, RelR A x c
  cl : ∀ c ∈ R.take k, ∀ d ∈ A c, d ∈ M ++ R
  x0 : x ∈ R
  kl : k ≤ R.length
section
variable {S : Cr → List (Int × Cr)} {A : Cr → List Cr} {M R : List Cr} {x : Cr} {k : Nat}
theorem RB.start (hx : x ∉ M) (hM : M.Nodup) : RB S A M x [x] 0 :=
  ⟨List.nodup_append.mpr ⟨hM, nd1 _, fun a ha b hb e => hx (by rw [List.mem_singleton.mp hb] at e; exact e ▸ ha)⟩, fun c hc => by rw [List.mem_singleton.mp hc]; exact .refl _, fun c hc => (by simp at hc), List.mem_singleton.mpr rfl, Nat.zero_le _⟩
theorem RB.step {c : Cr} (h : RB S A M x R k) (hc : R[k]? = some c) : RB S A M x (addR M R (A c)) (k + 1) := by
  obtain ⟨E, e⟩ := addR_ext M (A c) R
  have hk : k < R.length := (List.getElem?_eq_some_iff.mp hc).1
  have ht : (addR M R (A c)).take (k + 1) = R.take k ++ [c] := by
    rw [e, List.take_append_of_le_length (by omega), List.take_add_one, hc]
    rfl
  have hcm : c ∈ R := List.mem_of_getElem? hc
  refine ⟨addR_nodup M _ h.nd, fun d hd => ?_, fun d hd p hp => ?_, ?_, ?_⟩
  · rcases addR_mem M _ hd with hd | hd
    · exact h.re d hd
    · exact (h.re c hcm).tail hd
  · rw [ht] at hd
    rcases List.mem_append.mp hd with hd | hd
    · have := h.cl d hd p hp
      rw [e, ← List.append_assoc]
      exact List.mem_append_left _ this
    · rw [List.mem_singleton.mp hd] at hp
      exact addR_has M _ hp
  · rw [e]; exact List.mem_append_left _ h.x0
  · rw [e, List.length_append]; omega
theorem RB.done (h : RB S A M x R k) (hk : R.length ≤ k) (hM : ∀ c ∈ M, ∀ d ∈ A c, d ∈ M) {v : Cr} : v ∈ M ++ R ↔ v ∈ M ∨ RelR A x v := by
  constructor
  · intro hv
    rcases List.mem_append.mp hv with hv | hv
    · exact .inl hv
    · exact .inr (h.re v hv)
  · rintro (hv | hv)
    · exact List.mem_append_left _ hv
    · induction hv with
      | refl => exact List.mem_append_right _ h.x0
      | @tail b c hab hc ih =>
        rcases List.mem_append.mp ih with ih | ih
        · exact List.mem_append_left _ (hM _ ih _ hc)
        · exact h.cl _ (by rw [List.take_of_length_le hk]; exact ih) _ hc
end
/-- what one round holds -/
structure RoundIs (S : Cr → List (Int × Cr)) (ks O : List Cr) (j : Nat) (e : List Cr) : Prop where
  so : e = srtC e
  nd : e.Nodup
  x : ∃ x, O[j]? = some x ∧ x ∈ e ∧ ∀ v, v ∈ e ↔ v ∈ ks ∧ Reach S v x ∧ ∀ w ∈ O.take j, ¬ Reach S v w
/-- the rounds up to i -/
structure Rnds (S : Cr → List (Int × Cr)) (ks O : List Cr) (i : Nat) (M : List Cr) (rs : List (List Cr)) : Prop where
  nd : M.Nodup
  mm : ∀ v, v ∈ M ↔ v ∈ ks ∧ ∃ w ∈ O.take i, Reach S v w
  rn : rs.Nodup
  rj : ∀ e ∈ rs, ∃ j, j < i ∧ RoundIs S ks O j e
  rc : ∀ j x, j < i → O[j]? = some x → (∀ w ∈ O.take j, ¬ Reach S x w) → ∃ e ∈ rs, RoundIs S ks O j e
  rl : rs.length ≤ i
section
variable {S : Cr → List (Int × Cr)} {A : Cr → List Cr} {ks O M R : List Cr} {rs : List (List Cr)} {i k : Nat} {x : Cr}
theorem Rnds.start (S : Cr → List (Int × Cr)) (ks O : List Cr) : Rnds S ks O 0 [] [] :=
  ⟨List.nodup_nil, fun v => ⟨(fun h => nomatch h), fun ⟨_, w, h, _⟩ => (by simp at h)⟩, List.nodup_nil, fun e h => (nomatch h), fun j x h => absurd h (Nat.not_lt_zero _), Nat.le_refl _⟩
theorem Rnds.closed (h : Rnds S ks O i M rs) (hA : PredOf S ks A) : ∀ c ∈ M, ∀ d ∈ A c, d ∈ M := fun c hc d hd => by
  obtain ⟨h1, w, h2, h3⟩ := (h.mm c).mp hc
  obtain ⟨g1, g2⟩ := (hA c h1 d).mp hd
  exact (h.mm d).mpr ⟨g1, w, h2, Reach.head g2 h3⟩
theorem Rnds.skip (h : Rnds S ks O i M rs) (hx : O[i]? = some x) (hxM : x ∈ M) : Rnds S ks O (i + 1) M rs := by
  have ht : O.take (i + 1) = O.take i ++ [x] := by rw [List.take_add_one, hx]; rfl
  refine ⟨h.nd, fun v => ?_, h.rn, fun e he => ?_, fun j y hj hy hn => ?_, by have := h.rl; omega⟩
  · rw [h.mm v, ht]
    constructor
    · rintro ⟨h1, w, h2, h3⟩; exact ⟨h1, w, List.mem_append_left _ h2, h3⟩
    · rintro ⟨h1, w, h2, h3⟩
      rcases List.mem_append.mp h2 with h2 | h2
      · exact ⟨h1, w, h2, h3⟩
      · rw [List.mem_singleton.mp h2] at h3
        obtain ⟨_, w', g2, g3⟩ := (h.mm x).mp hxM
        exact ⟨h1, w', g2, h3.trans g3⟩
  · obtain ⟨j, h1, h2⟩ := h.rj e he
    exact ⟨j, by omega, h2⟩
  · by_cases e : j = i
    · subst e
      rw [hx] at hy
      cases hy
      obtain ⟨_, w, g2, g3⟩ := (h.mm x).mp hxM
      exact absurd g3 (hn w g2)
    · exact h.rc j y (by omega) hy hn
theorem Rnds.add (h : Rnds S ks O i M rs) (hx : O[i]? = some x) (hxM : x ∉ M) (hxk : x ∈ ks) (hA : PredOf S ks A) (hcl : ∀ c ∈ ks, ∀ p ∈ S c, p.2 ∈ ks) (b : RB S A M x R k) (hk : R.length ≤ k) : Rnds S ks O (i + 1) (M ++ R) (rs ++ [srtC R]) := by
  have ht : O.take (i + 1) = O.take i ++ [x] := by rw [List.take_add_one, hx]; rfl
  have hM := h.closed hA
  have hrel : ∀ v, RelR A x v ↔ v ∈ ks ∧ Reach S v x := fun v => by
    constructor
    · intro hv; exact rel_reach hA hv hxk
    · rintro ⟨h1, h2⟩; exact reach_rel hA hcl h2 h1
  have hmm : ∀ v, v ∈ M ++ R ↔ v ∈ M ∨ v ∈ ks ∧ Reach S v x := fun v => by rw [b.done hk hM, hrel v]
  have hR : ∀ v, v ∈ R ↔ v ∈ ks ∧ Reach S v x ∧ ∀ w ∈ O.take i, ¬ Reach S v w := fun v => by
    constructor
    · intro hv
      obtain ⟨h1, h2⟩ := (hrel v).mp (b.re v hv)
      refine ⟨h1, h2, fun w hw hr => ?_⟩
      have : v ∈ M := (h.mm v).mpr ⟨h1, w, hw, hr⟩
      exact (List.nodup_append.mp b.nd).2.2 v this v hv rfl
    · rintro ⟨h1, h2, h3⟩
      have := (hmm v).mpr (.inr ⟨h1, h2⟩)
      rcases List.mem_append.mp this with hv | hv
      · obtain ⟨_, w, g2, g3⟩ := (h.mm v).mp hv
        exact absurd g3 (h3 w g2)
      · exact hv
  have hRi : RoundIs S ks O i (srtC R) := ⟨(srtC_eq (srtC_perm R)).symm, srtC_nd (List.nodup_append.mp b.nd).2.1, x, hx, mem_srtC.mpr b.x0, fun v => by rw [mem_srtC]; exact hR v⟩
  refine ⟨b.nd, fun v => ?_, List.nodup_append.mpr ⟨h.rn, List.nodup_cons.mpr ⟨by simp, List.nodup_nil⟩, fun e he e' he' hee => ?_⟩, fun e he => ?_, fun j y hj hy hn => ?_, ?_⟩
  · rw [hmm v, h.mm v, ht]
    constructor
    · rintro (⟨h1, w, h2, h3⟩ | ⟨h1, h2⟩)
      · exact ⟨h1, w, List.mem_append_left _ h2, h3⟩
      · exact ⟨h1, x, List.mem_append_right _ (List.mem_singleton.mpr rfl), h2⟩
    · rintro ⟨h1, w, h2, h3⟩
      rcases List.mem_append.mp h2 with h2 | h2
      · exact .inl ⟨h1, w, h2, h3⟩
      · rw [List.mem_singleton.mp h2] at h3; exact .inr ⟨h1, h3⟩
  · rw [List.mem_singleton.mp he'] at hee
    obtain ⟨j, hj, r⟩ := h.rj e he
    obtain ⟨y, hy, hye, hv⟩ := r.x
    have hxe : x ∈ e := by rw [hee]; exact mem_srtC.mpr b.x0
    obtain ⟨g1, g2, _⟩ := (hv x).mp hxe
    refine hxM ((h.mm x).mpr ⟨g1, y, ?_, g2⟩)
    exact List.mem_of_getElem? (by rw [List.getElem?_take_of_lt hj]; exact hy)
  · rcases List.mem_append.mp he with he | he
    · obtain ⟨j, h1, h2⟩ := h.rj e he
      exact ⟨j, by omega, h2⟩
    · rw [List.mem_singleton.mp he]; exact ⟨i, by omega, hRi⟩
  · by_cases e : j = i
    · subst e
      exact ⟨srtC R, List.mem_append_right _ (List.mem_singleton.mpr rfl), hRi⟩
    · obtain ⟨e', h1, h2⟩ := h.rc j y (by omega) hy hn
      exact ⟨e', List.mem_append_left _ h1, h2⟩
  · rw [List.length_append]; show _ + 1 ≤ _; have := h.rl; omega
end
/-- an end, by its sorted list -/
structure IsEnd (S : Cr → List (Int × Cr)) (c0 : Cr) (e : List Cr) : Prop where
  nd : e.Nodup
  so : e = srtC e
  x : ∃ x, Reach S c0 x ∧ (∀ y, Reach S x y → Reach S y x) ∧ ∀ y, y ∈ e ↔ Reach S x y
theorem IsEnd.mem {S : Cr → List (Int × Cr)} {c0 : Cr} {e : List Cr} (h : IsEnd S c0 e) : ∀ x ∈ e, ∀ y, y ∈ e ↔ Reach S x y := by
  obtain ⟨x0, h1, h2, h3⟩ := h.x
  intro x hx y
  have hx := (h3 x).mp hx
  rw [h3 y]
  exact ⟨fun h => (h2 x hx).trans h, fun h => hx.trans h⟩
theorem before {F A B : List Cr} {x w : Cr} {j : Nat} (hn : F.Nodup) (hF : F = A ++ x :: B) (hw : w ∈ B) (hj : F.reverse[j]? = some x) : w ∈ F.reverse.take j := by
  have hr : F.reverse = B.reverse ++ x :: A.reverse := by rw [hF]; simp
  have hnr : F.reverse.Nodup := (List.reverse_perm F).symm.nodup hn
  have hjj : j = B.reverse.length := by
    have h2 : F.reverse[B.reverse.length]? = some x := by rw [hr, List.getElem?_append_right (Nat.le_refl _), Nat.sub_self]; rfl
    have l1 := (List.getElem?_eq_some_iff.mp hj)
    have l2 := (List.getElem?_eq_some_iff.mp h2)
    obtain ⟨l1, e1⟩ := l1
    obtain ⟨l2, e2⟩ := l2
    exact (List.getElem_inj hnr).mp (e1.trans e2.symm)
  rw [hjj, hr, List.take_left']
  · exact List.mem_reverse.mpr hw
  · rfl
theorem first_in {e : List Cr} : ∀ {O : List Cr} {x : Cr}, x ∈ O → x ∈ e → ∃ P y Q, O = P ++ y :: Q ∧ y ∈ e ∧ ∀ w ∈ P, w ∉ e
  | a :: O, x, hx, he => by
    by_cases ha : a ∈ e
    · exact ⟨[], a, O, rfl, ha, fun w hw => nomatch hw⟩
    · rcases List.mem_cons.mp hx with rfl | hx
      · exact absurd he ha
      · obtain ⟨P, y, Q, h1, h2, h3⟩ := first_in hx he
        refine ⟨a :: P, y, Q, by rw [h1]; rfl, h2, fun w hw => ?_⟩
        rcases List.mem_cons.mp hw with rfl | hw
        · exact ha
        · exact h3 w hw
/-- the shut rounds are the ends -/
theorem ends_rounds {S : Cr → List (Int × Cr)} {c0 : Cr} {ks F M : List Cr} {rs : List (List Cr)} (hk : ∀ c, c ∈ ks ↔ Reach S c0 c) (P : Post S c0 F) (h : Rnds S ks F.reverse F.length M rs) (e : List Cr) : (e ∈ rs ∧ ∀ c ∈ e, ∀ p ∈ S c, p.2 ∈ e) ↔ IsEnd S c0 e := by
  have hlen : F.reverse.length = F.length := List.length_reverse
  have key : ∀ {v x : Cr} {j : Nat}, v ∈ ks → F.reverse[j]? = some x → Reach S v x → (∀ w ∈ F.reverse.take j, ¬ Reach S v w) → Reach S x v := by
    intro v x j hv hj hr hn
    refine Classical.byContradiction fun hxv => ?_
    obtain ⟨A, B, hF⟩ := List.append_of_mem ((P.mem v).mpr ((hk v).mp hv))
    obtain ⟨w, A', B', h1, h2, h3⟩ := P.later B.length hF (Nat.le_refl _) hr hxv
    exact hn w (before P.nd h2 h3 hj) h1
  constructor
  · rintro ⟨he, hcl⟩
    obtain ⟨j, hj, r⟩ := h.rj e he
    obtain ⟨x, hx, hxe, hv⟩ := r.x
    have hre : ∀ y, Reach S x y → y ∈ e := fun y hy => hy.closed (P := fun c => c ∈ e) (fun a b ha ⟨n, hb⟩ => hcl a ha (n, b) hb) hxe
    refine ⟨r.nd, r.so, x, (hk x).mp ((hv x).mp hxe).1, fun y hy => ((hv y).mp (hre y hy)).2.1, fun y => ⟨fun hy => ?_, hre y⟩⟩
    obtain ⟨g1, g2, g3⟩ := (hv y).mp hy
    exact key g1 hx g2 g3
  · intro he
    obtain ⟨x0, h1, h2, h3⟩ := he.x
    have hm := he.mem
    have hx0 : x0 ∈ F.reverse := List.mem_reverse.mpr ((P.mem x0).mpr h1)
    obtain ⟨Pp, y, Q, hO, hye, hP⟩ := first_in hx0 ((h3 x0).mpr (.refl _))
    have hj : F.reverse[Pp.length]? = some y := by rw [hO, List.getElem?_append_right (Nat.le_refl _), Nat.sub_self]; rfl
    have hjl : Pp.length < F.length := by rw [← hlen]; exact (List.getElem?_eq_some_iff.mp hj).1
    have htk : F.reverse.take Pp.length = Pp := by rw [hO, List.take_left']; rfl
    obtain ⟨e', he', r⟩ := h.rc Pp.length y hjl hj (by rw [htk]; exact fun w hw hr => hP w hw ((hm y hye w).mpr hr))
    obtain ⟨y', hy', hy'e, hv⟩ := r.x
    rw [hj] at hy'
    cases hy'
    have hyr : Reach S c0 y := h1.trans ((h3 y).mp hye)
    have same : ∀ v, v ∈ e ↔ v ∈ e' := fun v => by
      rw [hv v]
      constructor
      · intro hve
        refine ⟨(hk v).mpr (hyr.trans ((hm y hye v).mp hve)), (hm v hve y).mp hye, ?_⟩
        rw [htk]
        exact fun w hw hr => hP w hw ((hm v hve w).mpr hr)
      · rintro ⟨g1, g2, g3⟩
        exact (hm y hye v).mpr (key g1 hj g2 g3)
    have hp : e.Perm e' := (List.perm_ext_iff_of_nodup he.nd r.nd).mpr same
    have hee : e = e' := by rw [he.so, r.so]; exact srtC_eq hp
    refine ⟨hee ▸ he', fun c hc p hp => (hm c hc p.2).mpr (.one ⟨p.1, hp⟩)⟩
end Pb
set_option Elab.async false
set_option linter.all false
set_option maxRecDepth 100000
set_option maxHeartbeats 4000000
namespace Pb
open PySem PySem.Spec PyProof.Rows L2
open C8 (Cal pe_c)
section
variable {P : Program} {w : World} {K : PySem.W.Frag} {mg : Str → Option Value} {base : Heap}
/-! ### sorted(line) -/
theorem db_crs {H : Hp} : ∀ {vs : List V} {cs : List Cr}, Paired (CrAt H) vs cs → ∃ bs : DB, bs.map (·.1) = vs ∧ bs.map (·.2) = cs.map cd ∧ ∀ b ∈ bs, ∃ a c, b.1 = V.ref a ∧ b.2 = PyData.tuple (List.map PyData.int c) ∧ H a = some (.tup (c.map V.int))
  | _, _, .nil => ⟨[], rfl, rfl, fun b h => nomatch h⟩
  | x :: _, c :: _, .cons ⟨a, h1, h2⟩ t => by
    obtain ⟨bs, e1, e2, e3⟩ := db_crs t
    refine ⟨(x, cd c) :: bs, by rw [List.map_cons, e1], by rw [List.map_cons, e2]; rfl, fun b hb => ?_⟩
    rcases List.mem_cons.mp hb with rfl | hb
    · exact ⟨a, c, h1, rfl, h2⟩
    · exact e3 b hb
theorem sort_crs {H : Hp} {D : Addr} {vs : List V} {cs : List Cr} {Q : VK} (e : H D = some (.lst vs)) (p : Paired (CrAt H) vs cs) (hne : ∀ c ∈ cs, c ≠ []) (q : ∀ t ws, H t = none → Paired (CrAt H) ws (srtC cs) → Q (.ref t) (upd H t (.lst ws))) : rSortDt K [.ref D] H Q := by
  obtain ⟨bs, e1, e2, e3⟩ := db_crs p
  refine ⟨D, bs, rfl, by rw [e1]; exact SqL.of e, fun b hb => ?_, ?_, ?_, fun b hb => ?_, fun t nt => q t _ nt (srt_crs e2 e3)⟩
  · obtain ⟨a, c, h1, h2, h3⟩ := e3 b hb
    rw [h1, h2]; exact dp_tupI h3
  · rw [e2]
    exact PySem.W.AllAlike.of fun b b' => by
      show PySem.W.alike (.tuple _) (.tuple _) = true
      rw [show PySem.W.alike (.tuple (b.map PyData.int)) (.tuple (b'.map PyData.int)) = PySem.W.alikeAll (b.map PyData.int) (b'.map PyData.int) by simp [PySem.W.alike]]
      exact PySem.W.alike_ints b b'
  · rw [e2]
    refine .inl fun d hd => ?_
    obtain ⟨c, hc, rfl⟩ := List.mem_map.mp hd
    cases c with
    | nil => exact absurd rfl (hne [] hc)
    | cons x r => exact ⟨_, _, rfl⟩
  · obtain ⟨a, c, _, h2, _⟩ := e3 b hb
    rw [h2]
    show PyData.depth (.tuple (c.map .int)) ≤ 16
    rw [PyData.depth, PySem.W.depth_ints]
    decide
/-! ### rounds_of -/
def LcAt (H : Hp) (v : V) (e : List Cr) : Prop := ∃ l ws, v = .ref l ∧ H l = some (.lst ws) ∧ Paired (CrAt H) ws e
theorem LcAt.same {H H' : Hp} {v : V} {e : List Cr} (s : Same H H') (h : LcAt H v e) : LcAt H' v e := let ⟨l, ws, h1, h2, h3⟩ := h; ⟨l, ws, h1, s _ _ h2, crs_tk (Tk.same s) h3⟩
def LcNe (H : Hp) (x : Addr) (v : V) (e : List Cr) : Prop := ∃ l ws, v = .ref l ∧ l ≠ x ∧ H l = some (.lst ws) ∧ Paired (CrAt H) ws e
theorem LcNe.keep {H H' : Hp} {x : Addr} {v : V} {e : List Cr} (k : Tk H H') (b : ∀ l ws, l ≠ x → H l = some (.lst ws) → H' l = some (.lst ws)) (h : LcNe H x v e) : LcNe H' x v e := let ⟨l, ws, h1, h2, h3, h4⟩ := h; ⟨l, ws, h1, h2, b _ _ h2 h3, crs_tk k h4⟩
theorem sc_rounds_of : FnScope ["graph", "crowd", "ahead", "one", "found", "seen", "number", "behind", "line", "at", "other"] ["graph", "crowd"] (defScope s_rounds_of) := ⟨rfl, rfl, rfl, by decide +kernel, rfl, by decide +kernel, by decide +kernel⟩
def spRounds : Sp := fun vs H Q _ => ∃ (S : Cr → List (Int × Cr)) (g : Addr) (v : V) (c0 : Cr) (ks : List Cr), vs = [.ref g, v] ∧ GrD H g S ks ∧ ks.Nodup ∧ (∀ c, c ∈ ks ↔ Reach S c0 c) ∧ ks.length ≤ 100 ∧ (∀ c, (S c).length ≤ 100) ∧ CrAt H v c0 ∧ (∀ c ∈ ks, c ≠ []) ∧
  ∀ H' l vs rs, Same H H' → H l = none → H' l = some (.lst vs) → Paired (LcAt H') vs rs → rs.Nodup → rs.length ≤ 100 → (∀ e, (e ∈ rs ∧ ∀ c ∈ e, ∀ p ∈ S c, p.2 ∈ e) ↔ IsEnd S c0 e) → (∀ e ∈ rs, ∀ c ∈ e, c ∈ ks) → (∀ e ∈ rs, e.Nodup) → Q (.ref l) H'
theorem ok_rounds_of (T : Tx mg) (D : DefAt K mg "rounds_of" s_rounds_of []) (C1 : Cal P w K mg base 1 "last_left" spLeft []) : Cal P w K mg base 2 "rounds_of" spRounds [] := by
  refine cal0 D sc_rounds_of (fun _ _ _ _ _ _ us hl => match us, hl with | [_, _], _ => rfl) (fun vs H Q E ⟨_, _, _, _, _, e, _⟩ => by rw [e]; rfl) fun f cdv A outer s H0 vs Q E hr hsp => ?_
  obtain ⟨S, g, v, c0, ks, rfl, hgr, hn, hks, hz, hS, hv, hne, q⟩ := hsp
  have hu := hu_of hr
  have hu64 := hu64_of hr
  have hcl : ∀ c ∈ ks, ∀ p ∈ S c, p.2 ∈ ks := fun c hc p hp => (hks p.2).mpr (((hks c).mp hc).tail ⟨p.1, hp⟩)
  obtain ⟨kvs, hg, hpg⟩ := id hgr
  refine ⟨_, (pss_cons (ps_set (i := 2) sc_rounds_of.nd rfl (.inl rfl) (pe_callTy (call_dictPTn rfl hu64) (by rfl) T.dict boot_dict (pa_cons (pe_lock (pe_lc (own := [("one", 3)]) (g := (gName 3)) (tt := tYes) (te := (tTup (tCons (tVar 3) (tCons (tLst tNil) tNil)))) rfl sc_rounds_of.nd (pi_keys (pv 0)) (blkOk_by (N := ["graph", "crowd", "ahead", "one", "found", "seen", "number", "behind", "line", "at", "other"]) (sc := defScope s_rounds_of) (by decide +kernel)) (fun _ _ _ _ _ => (pg_name (i := 3) sc_rounds_of.nd rfl (.inl rfl))) (fun _ _ _ _ _ => pts_nil) (fun _ _ _ _ _ => (pe_tup (pa_cons (pv 3) (pa_cons (pe_lst pa_nil) pa_nil)))))) pa_nil)))
    (pss_cons (ps_lock (ps_for PassesOwn.never rfl (pi_keys (pv 0)) (pg_name (i := 3) sc_rounds_of.nd rfl (.inl rfl))
      (pss_one (ps_for PassesOwn.never rfl (pi_list (pe_dget hu (pv 0) (pv 3) (fun _ _ => rfl))) (pg_tup rfl (pgs_cons (pg_name (i := 6) sc_rounds_of.nd rfl (.inl rfl)) (pgs_cons (pg_name (i := 7) sc_rounds_of.nd rfl (.inl rfl)) pgs_nil)))
        (pss_one (ps_expr (pe_bm PySem.F.plainAttrs_list PySem.F.slot_list_append PySem.F.type_list_append mt_append (pe_dget hu (pv 2) (pv 7) (fun _ _ => rfl)) (pa_cons (pv 3) pa_nil))))))))
    (pss_cons (ps_set (i := 4) sc_rounds_of.nd rfl (.inl rfl) (pe_lst pa_nil))
    (pss_cons (ps_set (i := 5) sc_rounds_of.nd rfl (.inl rfl) pe_dnewT)
    (pss_cons (ps_for PassesOwn.never rfl (pi_list (pe_c C1 hr (by omega) rfl (pa_cons (pv 0) (pa_cons (pv 1) pa_nil)))) (pg_name (i := 3) sc_rounds_of.nd rfl (.inl rfl))
      (pss_cons (ps_set (i := 8) sc_rounds_of.nd rfl (.inl rfl) (pe_lst pa_nil))
      (pss_cons (ps_if (pt_cmp (pc_dnotin hu (pv 3) (pv 5)))
        (pss_cons (ps_dput hu (pv 5) (pv 3) pe_bl rfl)
        (pss_one (ps_expr (pe_bm PySem.F.plainAttrs_list PySem.F.slot_list_append PySem.F.type_list_append mt_append (pv 8) (pa_cons (pv 3) pa_nil))))) pss_nil)
      (pss_cons (ps_set (i := 9) sc_rounds_of.nd rfl (.inl rfl) pe_int)
      (pss_cons (ps_while PassesOwn.never (pt_cmpR op_lt (pv 9) (pe_callB call_len_seq (by rfl) T.len boot_len (pa_cons (pv 8) pa_nil)) (nomark _))
        (pss_cons (ps_for PassesOwn.never rfl (pi_list (pe_dget hu (pv 2) (pe_ix ix_list (pv 8) (pv 9) (fun _ _ => rfl)) (fun _ _ => rfl))) (pg_name (i := 10) sc_rounds_of.nd rfl (.inl rfl))
          (pss_one (ps_if (pt_cmp (pc_dnotin hu (pv 10) (pv 5)))
            (pss_cons (ps_dput hu (pv 5) (pv 10) pe_bl rfl)
            (pss_one (ps_expr (pe_bm PySem.F.plainAttrs_list PySem.F.slot_list_append PySem.F.type_list_append mt_append (pv 8) (pa_cons (pv 10) pa_nil))))) pss_nil)))
        (pss_one (ps_set (i := 9) sc_rounds_of.nd rfl (.inl rfl) (pe_op op_add (pv 9) pe_int)))))
      (pss_one (ps_if (pt_cmpR op_gt (pe_callB call_len_seq (by rfl) T.len boot_len (pa_cons (pv 8) pa_nil)) pe_int (nomark _))
        (pss_one (ps_expr (pe_bm PySem.F.plainAttrs_list PySem.F.slot_list_append PySem.F.type_list_append mt_append (pv 4) (pa_cons (pe_callB (cr_sortDt hu64) (by rfl) T.sorted boot_sorted (pa_cons (pv 8) pa_nil)) pa_nil)))) pss_nil)))))))
    (pss_one (ps_ret (pv 4)))))))), ?_⟩
  refine seqI (asgI ?_)
  refine ahead_new (K := K) (i := 3) (σ := [some (.ref g), some v, none, none, none, none, none, none, none, none, none]) rfl (by show 3 < 11; decide) hg (keys_ck (F := fun v c => LsAt H0 v (S c)) hpg) (by omega) hn fun H1 ad ka s1 nad hah => ?_
  refine seqI (ahead_loop (fun a b c => [some (.ref g), some v, some (.ref ad), a, none, none, b, c, none, none, none]) (fun _ _ _ => rfl) (fun _ _ _ => rfl) (fun _ _ _ _ => rfl) (fun _ _ _ _ => rfl) (fun _ _ _ _ => rfl) (fun _ _ _ => rfl) (fun _ _ _ => rfl)
    hg hpg hn (by omega) hcl hS s1 nad hah fun y3 y6 y7 H2 s2 ha2 => ?_)
  refine ⟨by show 0 ≤ sizeLine; decide, fun fn nfn => fun sn nsn => ?_⟩
  obtain ⟨nsf, nsn2⟩ := upd_none nsn
  obtain ⟨H3, hH3⟩ : ∃ x, x = upd (upd H2 fn (.lst [])) sn (.dT []) := ⟨_, rfl⟩
  rw [← hH3]
  have s3 : Same H2 H3 := by rw [hH3]; exact same_put (same_new nfn) nsn2
  have ef3 : H3 fn = some (.lst []) := by rw [hH3]; exact at_ne upd_same (Ne.symm nsf)
  have ed3 : H3 sn = some (.dT []) := by rw [hH3]; exact upd_same
  clear hH3
  have s03 := s2.trans s3
  refine ⟨_, rfl, _, rfl, S, g, v, c0, ks, rfl, hgr.at.same s03, hcl, hz, hS, hv.tk (Tk.same s03), (hks c0).mpr (.refl _), fun H5 lo vo F s5 n5 e5 p5 po => ⟨lo, rfl, ⟨_, SqL.of e5⟩, ?_⟩⟩
  have lof : fn ≠ lo := ne_of_none ef3 n5
  have lod : sn ≠ lo := ne_of_none ed3 n5
  have ef5 := s5 _ _ ef3
  have ed5 := s5 _ _ ed3
  have s25 := s3.trans s5
  have hA : PredOf S ks (aheadOf S ks) := aheadOf_pred S ks
  have hOl : F.reverse.length = F.length := List.length_reverse
  have hFk : ∀ c, c ∈ F ↔ c ∈ ks := fun c => by rw [po.mem c, hks c]
  have hFl : F.length ≤ 100 := Nat.le_trans (nodup_len po.nd fun c hc => (hFk c).mp hc) hz
  -- keeping all but fn and sn
  have kS : ∀ {H' : Hp}, (∀ a o, a ≠ fn → a ≠ sn → H5 a = some o → H' a = some o) → Same H2 H' := fun k a o e => k a o (ne_of_none e nfn) (ne_of_none e nsn2) (s25 _ _ e)
  have kT : ∀ {H' : Hp}, (∀ a o, a ≠ fn → a ≠ sn → H5 a = some o → H' a = some o) → Tk H5 H' := fun k a o e => k a _ (ne_of e ef5 (by intro z; cases z)) (ne_of e ed5 (by intro z; cases z)) e
  refine for_it (walk_list (K := K) (a := lo) (xs := vo)) (fun i σ H' => ∃ (M : List Cr) (rs : List (List Cr)) (vs : List V) (kf : List (List Key × V)) (y3 y8 y9 y10 : Option V), σ = [some (.ref g), some v, some (.ref ad), y3, some (.ref fn), some (.ref sn), y6, y7, y8, y9, y10] ∧
      (∀ a o, a ≠ fn → a ≠ sn → H5 a = some o → H' a = some o) ∧ H' fn = some (.lst vs) ∧ Paired (LcNe H' fn) vs rs ∧ H' sn = some (.dT kf) ∧ Paired (fun (kv : List Key × V) c => kv.1 = ck c ∧ True) kf M ∧ Rnds S ks F.reverse i M rs)
    ⟨[], [], [], [], y3, none, none, none, rfl, fun a o _ _ e => e, ef5, .nil, ed5, .nil, Rnds.start _ _ _⟩ (fun i σ H' _ ⟨_, _, _, _, _, _, _, _, _, h, _⟩ => SqL.of (h _ _ (Ne.symm lof) (Ne.symm lod) e5)) ?_ ?_
  · rintro i x σ H7 H6 hi ⟨M, rs, vs, kf, y3, y8, y9, y10, rfl, k6, ef6, pf6, ed6, pd6, rn⟩ ⟨rfl, hx⟩
    obtain ⟨c, hc, bx, rfl, hbx⟩ := paired_get p5 hx
    have hbx := kT k6 _ _ hbx
    have hck : c ∈ ks := (hFk c).mp (List.mem_reverse.mp (List.mem_of_getElem? hc))
    have hMl : M.length ≤ 100 := Nat.le_trans (nodup_len rn.nd fun c hc => ((rn.mm c).mp hc).1) hz
    have hil : i < F.length := by rw [← hOl]; exact (List.getElem?_eq_some_iff.mp hc).1
    have s26 := kS k6
    -- line = []
    refine ⟨by show 0 ≤ sizeLine; decide, fun ln nln => ?_⟩
    have lnf : ln ≠ fn := (ne_of_none ef6 nln).symm
    have lnd : ln ≠ sn := (ne_of_none ed6 nln).symm
    obtain ⟨H8, hH8⟩ : ∃ x, x = upd H6 ln (.lst []) := ⟨_, rfl⟩
    rw [← hH8]
    have s8 : Same H6 H8 := by rw [hH8]; exact same_new nln
    have el8 : H8 ln = some (.lst []) := by rw [hH8]; exact upd_same
    clear hH8
    have hmem := dk_isSome (F := fun _ _ => True) pd6 c
    refine ⟨_, rfl, _, rfl, sn, _, rfl, dget_at (.inl (s8 _ _ ed6)) (s8 _ _ hbx), _, rfl, ?_⟩
    rw [hmem]
    by_cases hin : c ∈ M
    · rw [decide_eq_true hin]
      refine iteF ⟨fun m σ H => m = 0 ∧ σ = [some (.ref g), some v, some (.ref ad), some (.ref bx), some (.ref fn), some (.ref sn), y6, y7, some (.ref ln), some (.int 0), y10] ∧ H = H8, ⟨0, rfl, rfl, rfl⟩, ?_⟩
      rintro m σ H ⟨rfl, rfl, rfl⟩
      refine ⟨_, rfl, _, rfl, ln, _, rfl, .inl (SqL.of el8), _, _, rfl, rfl, _, rfl, ?_⟩
      refine ite2 (fun z => absurd (of_decide_eq_true z) (by show ¬ ((0 : Int) < 0); decide)) (fun _ => ?_)
      refine ⟨_, rfl, ln, _, rfl, .inl (SqL.of el8), _, _, rfl, rfl, _, rfl, ?_⟩
      refine ite2 (fun z => absurd (of_decide_eq_true z) (by show ¬ ((0 : Int) < 0); decide)) (fun _ => ?_)
      refine ⟨M, rs, vs, kf, _, _, _, _, rfl, fun a o h1 h2 e => s8 _ _ (k6 a o h1 h2 e), s8 _ _ ef6, pf6.mono fun y e h => h.keep (Tk.same s8) (fun l ws _ e => s8 _ _ e), s8 _ _ ed6, pd6, rn.skip hc hin⟩
    · rw [decide_eq_false hin]
      have hbx8 := s8 _ _ hbx
      have ed8 := s8 _ _ ed6
      refine iteT ⟨_, rfl, _, rfl, sn, _, rfl, DPut.t (k := ck c) ed8 (by rw [ck_kV]; exact hbx8) (small1000 (by rw [Paired.length pd6]; omega)), ?_⟩
      have el9 := at_ne (o := .dT (putK kf (ck c) (.bl true))) el8 lnd
      refine ⟨_, rfl, .inl ⟨rfl, _, SqL.of el9⟩, _, rfl, ln, _, _, rfl, rfl, el9, small1000 (by show 0 ≤ 1000; omega), ?_⟩
      have k89 : Tk H8 (upd H8 sn (.dT (putK kf (ck c) (.bl true)))) := Tk.mutD ed8
      have k910 := Tk.mutL (o := .lst ([] ++ [V.ref bx])) el9
      obtain ⟨H10, hH10⟩ : ∃ x, x = upd (upd H8 sn (.dT (putK kf (ck c) (.bl true)))) ln (.lst ([] ++ [V.ref bx])) := ⟨_, rfl⟩
      rw [← hH10] at k910 ⊢
      have el10 : H10 ln = some (.lst [.ref bx]) := by rw [hH10]; exact upd_same
      have ed10 : H10 sn = some (.dT (putK kf (ck c) (.bl true))) := by rw [hH10]; exact at_ne upd_same (Ne.symm lnd)
      have k10 : ∀ a o, a ≠ sn → a ≠ ln → H8 a = some o → H10 a = some o := fun a o h1 h2 e => by rw [hH10]; exact at_ne (at_ne e h1) h2
      clear hH10
      have pd10 := dk_put (F := fun _ _ => True) (v := .bl true) pd6 hin trivial
      have kT8 : ∀ {H : Hp}, (∀ a o, a ≠ sn → a ≠ ln → H8 a = some o → H a = some o) → Tk H8 H := fun k a o e => k a _ (ne_of e ed8 (by intro z; cases z)) (ne_of e el8 (by intro z; cases z)) e
      have s28 := s26.trans s8
      have s2x : ∀ {H : Hp}, (∀ a o, a ≠ sn → a ≠ ln → H8 a = some o → H a = some o) → ∀ a o, a ≠ fn → H2 a = some o → H a = some o := fun k a o _ e => k a o (ne_of_none e nsn2) (ne_of_none e (s26.free nln)) (s28 _ _ e)
      have hRl : ∀ {R : List Cr} {k : Nat}, RB S (aheadOf S ks) M c R k → (M ++ R).length ≤ 100 := fun b => Nat.le_trans (nodup_len b.nd fun x hx => by
        rcases List.mem_append.mp hx with hx | hx
        · exact ((rn.mm x).mp hx).1
        · exact (rel_reach hA (b.re x hx) hck).1) hz
      refine ⟨fun m σ H => ∃ (R : List Cr) (k : Nat) (vr : List V) (kf : List (List Key × V)) (y10 : Option V), m = 101 - k ∧ σ = [some (.ref g), some v, some (.ref ad), some (.ref bx), some (.ref fn), some (.ref sn), y6, y7, some (.ref ln), some (.int k), y10] ∧
          (∀ a o, a ≠ sn → a ≠ ln → H8 a = some o → H a = some o) ∧ H ln = some (.lst vr) ∧ Paired (CrAt H) vr R ∧ H sn = some (.dT kf) ∧ Paired (fun (kv : List Key × V) c => kv.1 = ck c ∧ True) kf (M ++ R) ∧ RB S (aheadOf S ks) M c R k,
        ⟨101, [c], 0, [.ref bx], _, y10, rfl, rfl, k10, el10, .cons ⟨bx, rfl, kT8 k10 _ _ hbx8⟩ .nil, ed10, pd10, RB.start hin rn.nd⟩, ?_⟩
      rintro m σ H ⟨R, k, vr, kf, y10, rfl, rfl, k11, el11, pl11, ed11, pd11, rb⟩
      have hR := hRl rb
      rw [List.length_append] at hR
      have hvr := Paired.length pl11
      refine ⟨_, rfl, _, rfl, ln, vr, rfl, .inl (SqL.of el11), _, _, rfl, rfl, _, rfl, ?_⟩
      refine ite2 (fun z => ?_) (fun z => ?_)
      · have z := of_decide_eq_true z
        have hk : k < R.length := by omega
        have hyk : R[k]? = some R[k] := List.getElem?_eq_getElem hk
        generalize R[k] = y at hyk
        obtain ⟨_, hvk, av, rfl, hav⟩ := Paired.getR pl11 hyk
        have hyk2 := (rel_reach hA (rb.re y (List.mem_of_getElem? hyk)) hck).1
        obtain ⟨h1, h2, h3⟩ := id ha2
        obtain ⟨va, hva, l, cs, rfl, nl, elc, pc⟩ := dk_some (F := fun v d => ∃ l vs, v = .ref l ∧ H0 l = none ∧ H2 l = some (.lst vs) ∧ Paired (CrAt H2) vs (aheadOf S ks d)) h2 hyk2
        refine ⟨fun σ' H' => ∃ m', m' < 101 - k ∧ ∃ (R : List Cr) (k : Nat) (vr : List V) (kf : List (List Key × V)) (y10 : Option V), m' = 101 - k ∧ σ' = [some (.ref g), some v, some (.ref ad), some (.ref bx), some (.ref fn), some (.ref sn), y6, y7, some (.ref ln), some (.int k), y10] ∧
          (∀ a o, a ≠ sn → a ≠ ln → H8 a = some o → H' a = some o) ∧ H' ln = some (.lst vr) ∧ Paired (CrAt H') vr R ∧ H' sn = some (.dT kf) ∧ Paired (fun (kv : List Key × V) c => kv.1 = ck c ∧ True) kf (M ++ R) ∧ RB S (aheadOf S ks) M c R k, fun σ' H' ⟨m', h1, h2⟩ => ⟨m', h1, h2⟩, ?_⟩
        have k2l : ∀ {H : Hp}, (∀ a o, a ≠ sn → a ≠ ln → H8 a = some o → H a = some o) → Same H2 H := fun k a o e => k a o (ne_of_none e nsn2) (ne_of_none e (s26.free nln)) (s28 _ _ e)
        refine ⟨_, rfl, _, rfl, _, rfl, ln, vr, _, _, rfl, rfl, SqL.of el11, atI_nat hvk, ad, .ref l, rfl, by rw [← hva]; exact dget_at (.inl (k2l k11 _ _ h1)) hav, l, rfl, ⟨_, SqL.of (k2l k11 _ _ elc)⟩, ?_⟩
        refine for_it (walk_list (K := K) (a := l) (xs := cs)) (fun i σ H' => ∃ (vr : List V) (kf : List (List Key × V)) (y10 : Option V), σ = [some (.ref g), some v, some (.ref ad), some (.ref bx), some (.ref fn), some (.ref sn), y6, y7, some (.ref ln), some (.int k), y10] ∧
            (∀ a o, a ≠ sn → a ≠ ln → H8 a = some o → H' a = some o) ∧ Tk H H' ∧ H' ln = some (.lst vr) ∧ Paired (CrAt H') vr (addR M R ((aheadOf S ks y).take i)) ∧ H' sn = some (.dT kf) ∧ Paired (fun (kv : List Key × V) c => kv.1 = ck c ∧ True) kf (M ++ addR M R ((aheadOf S ks y).take i)))
          ⟨vr, kf, y10, rfl, k11, Tk.refl _, el11, by rw [List.take_zero]; exact pl11, ed11, by rw [List.take_zero]; exact pd11⟩ (fun i σ H' _ ⟨_, _, _, _, h, _⟩ => SqL.of (k2l h _ _ elc)) ?_ ?_
        · rintro j x σ H12 H13 hj ⟨vr, kf, y10, rfl, k13, t13, el13, pl13, ed13, pd13⟩ ⟨rfl, hx⟩
          obtain ⟨d, hd, b6, rfl, hb6⟩ := paired_get pc hx
          have hb6 := k2l k13 _ _ hb6
          have et : (aheadOf S ks y).take (j + 1) = (aheadOf S ks y).take j ++ [d] := by rw [List.take_add_one, hd]; rfl
          have hnd13 := addR_nodup M ((aheadOf S ks y).take j) rb.nd
          have hlen : (M ++ addR M R ((aheadOf S ks y).take j)).length ≤ 100 := by
            refine Nat.le_trans (nodup_len hnd13 fun x hx => ?_) hz
            rcases List.mem_append.mp hx with hx | hx
            · exact ((rn.mm x).mp hx).1
            · rcases addR_mem M _ hx with hx | hx
              · exact (rel_reach hA (rb.re x hx) hck).1
              · exact ((hA y hyk2 x).mp (List.mem_of_mem_take hx)).1
          have hlen2 := hlen
          rw [List.length_append] at hlen2
          have hmem := dk_isSome (F := fun _ _ => True) pd13 d
          refine ⟨_, rfl, _, rfl, sn, _, rfl, dget_at (.inl ed13) hb6, _, rfl, ?_⟩
          rw [hmem]
          by_cases hin : d ∈ M ++ addR M R ((aheadOf S ks y).take j)
          · rw [decide_eq_true hin]
            refine iteF ⟨vr, kf, _, rfl, k13, t13, el13, ?_, ed13, ?_⟩
            · rw [et, addR_snoc, if_pos hin]; exact pl13
            · rw [et, addR_snoc, if_pos hin]; exact pd13
          · rw [decide_eq_false hin]
            refine iteT ⟨_, rfl, _, rfl, sn, _, rfl, DPut.t (k := ck d) ed13 (by rw [ck_kV]; exact hb6) (small1000 (by rw [Paired.length pd13]; omega)), ?_⟩
            have el14 := at_ne (o := .dT (putK kf (ck d) (.bl true))) el13 lnd
            refine ⟨_, rfl, .inl ⟨rfl, _, SqL.of el14⟩, _, rfl, ln, vr, _, rfl, rfl, el14, small1000 (by rw [Paired.length pl13]; omega), ?_⟩
            have t14 := (Tk.mutD (o := .dT (putK kf (ck d) (.bl true))) ed13).trans (Tk.mutL (o := .lst (vr ++ [.ref b6])) el14)
            refine ⟨vr ++ [.ref b6], putK kf (ck d) (.bl true), _, rfl, fun a o h1 h2 e => at_ne (at_ne (k13 a o h1 h2 e) h1) h2, t13.trans t14, upd_same, ?_, at_ne upd_same (Ne.symm lnd), ?_⟩
            · rw [et, addR_snoc, if_neg hin]
              exact (crs_tk t14 pl13).snoc ⟨b6, rfl, t14 _ _ hb6⟩
            · rw [et, addR_snoc, if_neg hin, ← List.append_assoc]
              exact dk_put (F := fun _ _ => True) pd13 hin trivial
        · rintro σ H12 ⟨vr, kf, y10, rfl, k13, t13, el13, pl13, ed13, pd13⟩
          rw [Paired.length pc, List.take_length] at pl13 pd13
          exact ⟨_, rfl, _, _, rfl, rfl, 101 - (k + 1), by omega, addR M R (aheadOf S ks y), k + 1, vr, kf, _, rfl, rfl, k13, el13, pl13, ed13, pd13, rb.step hyk⟩
      · have hk : R.length ≤ k := by
          have : ¬ ((k : Int) < (vr.length : Int)) := fun h => z (decide_eq_true h)
          omega
        have hR0 : 0 < R.length := List.length_pos_of_mem rb.x0
        refine ⟨_, rfl, ln, _, rfl, .inl (SqL.of el11), _, _, rfl, rfl, _, rfl, ?_⟩
        rw [decide_eq_true (show (0 : Int) < (vr.length : Int) by omega)]
        have ef11 := k11 _ _ (ne_of ef6 ed6 (by intro z; cases z)) (Ne.symm lnf) (s8 _ _ ef6)
        have hRk : ∀ x ∈ R, x ∈ ks := fun x hx => (rel_reach hA (rb.re x hx) hck).1
        refine iteT ⟨_, rfl, .inl ⟨rfl, _, SqL.of ef11⟩, _, rfl, nilI (sort_crs (K := K) el11 pl11 (fun x hx => hne x (hRk x hx)) fun t ws nt pws => ?_)⟩
        have hft : fn ≠ t := ne_of_none ef11 nt
        refine ⟨fn, vs, _, rfl, rfl, at_ne ef11 hft, small1000 (by have := rn.rl; rw [Paired.length pf6]; omega), ?_⟩
        have t12 : Tk H (upd H t (.lst ws)) := Tk.new nt
        have t13 := Tk.mutL (p := fn) (o := .lst (vs ++ [.ref t])) (at_ne (o := .lst ws) ef11 hft)
        have t6 : Tk H6 H := (Tk.same s8).trans (kT8 k11)
        refine ⟨M ++ R, rs ++ [srtC R], vs ++ [.ref t], kf, _, _, _, _, rfl, fun a o h1 h2 e => ?_, upd_same, ?_, ?_, pd11, rn.add hc hin hck hA hcl rb hk⟩
        · have h3 := k6 a o h1 h2 e
          have h4 := k11 a o h2 (ne_of_none h3 nln) (s8 _ _ h3)
          exact at_ne (at_ne h4 (ne_of_none h4 nt)) h1
        · refine Paired.snoc (pf6.mono fun y e h => h.keep (t6.trans (t12.trans t13)) fun l ws' hl e => ?_) ⟨t, ws, rfl, Ne.symm hft, at_ne upd_same (Ne.symm hft), crs_tk (t12.trans t13) pws⟩
          have h4 := k11 l _ (ne_of e ed6 (by intro z; cases z)) (ne_of_none e nln) (s8 _ _ e)
          exact at_ne (at_ne h4 (ne_of_none h4 nt)) hl
        · have h4 := at_ne (o := .lst ws) ed11 (ne_of_none ed11 nt)
          exact at_ne h4 (ne_of h4 (at_ne (o := .lst ws) ef11 hft) (by intro z; cases z))
  · rintro σ H7 ⟨M, rs, vs, kf, y3, y8, y9, y10, rfl, k6, ef6, pf6, ed6, pd6, rn⟩
    rw [Paired.length p5, hOl] at rn
    refine ⟨_, rfl, q H7 fn vs rs (s2.trans (kS k6)) (s2.free nfn) ef6 (pf6.mono fun y e ⟨l, ws, h1, _, h3, h4⟩ => ⟨l, ws, h1, h3, h4⟩) rn.rn (Nat.le_trans rn.rl hFl) (fun e => ends_rounds hks po rn e) (fun e he c hc => ?_) fun e he => ?_⟩
    · obtain ⟨j, _, r⟩ := rn.rj e he
      obtain ⟨x, _, _, h⟩ := r.x
      exact ((h c).mp hc).1
    · obtain ⟨j, _, r⟩ := rn.rj e he
      exact r.nd
end
end Pb
set_option Elab.async false
set_option linter.all false
set_option maxRecDepth 100000
set_option maxHeartbeats 4000000
namespace Pb
open PySem PySem.Spec PyProof.Rows L2
open C8 (Cal pe_c)
section
variable {P : Program} {w : World} {K : PySem.W.Frag} {mg : Str → Option Value} {base : Heap}
/-! ### is_shut -/
theorem sc_is_shut : FnScope ["graph", "crowds", "inside", "one", "number", "behind"] ["graph", "crowds"] (defScope s_is_shut) := ⟨rfl, rfl, rfl, by decide +kernel, rfl, by decide +kernel, by decide +kernel⟩
def shutSc : Scope := { kind := .function, names := [(".0", .local), ("one", .local), ("all", .globalImplicit), ("graph", .cell), ("inside", .cell)], isGenerator := false, isCoroutine := false }
def spShut : Sp := fun vs H Q _ => ∃ (S : Cr → List (Int × Cr)) (g cl : Addr) (ks e : List Cr) (ws : List V), vs = [.ref g, .ref cl] ∧ GrAt H g S ks ∧ H cl = some (.lst ws) ∧ Paired (CrAt H) ws e ∧ (∀ c ∈ e, c ∈ ks) ∧ e.Nodup ∧ e.length ≤ 100 ∧ (∀ c, (S c).length ≤ 100) ∧
  ∀ H', Same H H' → Q (.bl (decide (∀ c ∈ e, ∀ p ∈ S c, p.2 ∈ e))) H'
theorem all_decP {α : Type} (l : List α) (p : α → Prop) [DecidablePred p] : (l.map fun x => decide (p x)).all id = decide (∀ x ∈ l, p x) := by
  induction l with
  | nil => simp
  | cons w ws ih => simp [ih]
theorem ok_is_shut (T : Tx mg) (D : DefAt K mg "is_shut" s_is_shut []) : Cal P w K mg base 1 "is_shut" spShut [] := by
  refine cal0 D sc_is_shut (fun _ _ _ _ _ _ us hl => match us, hl with | [_, _], _ => rfl) (fun vs H Q E ⟨_, _, _, _, _, _, e, _⟩ => by rw [e]; rfl) fun f cdv A outer s H0 vs Q E hr hsp => ?_
  obtain ⟨S, g, cl, ks, e, ws, rfl, hG, hel, hws, hek, hn, hz, hS, q⟩ := hsp
  have hu := hu_of hr
  have hu64 := hu64_of hr
  refine ⟨_, (pss_cons (ps_set (i := 2) sc_is_shut.nd rfl (.inr rfl) (pe_callTy (call_dictPTn rfl hu64) (by rfl) T.dict boot_dict (pa_cons (pe_lc (own := [("one", 3)]) (g := (gName 3)) (tt := tYes) (te := (tTup (tCons (tVar 3) (tCons (tC (.bl true)) tNil)))) rfl sc_is_shut.nd (pi_list (pv 1)) (blkOk_by (N := ["graph", "crowds", "inside", "one", "number", "behind"]) (sc := defScope s_is_shut) (by decide +kernel)) (fun _ _ _ _ _ => (pg_name (i := 3) sc_is_shut.nd rfl (.inl rfl))) (fun _ _ _ _ _ => pts_nil) (fun _ _ _ _ _ => (pe_tup (pa_cons (pv 3) (pa_cons pe_bl pa_nil))))) pa_nil)))
    (pss_one (ps_ret (pe_callB (cr_all rfl) (by rfl) T.all boot_all (pa_cons (pe_lc (own := [("one", 3)]) (g := (gName 3)) (tt := tYes) (te := (tCB (rAll K) (tCons (tLc (iList K (tDGet (tVar 0) (tVar 3))) (gTup K 2 (gCons (gName 4) (gCons (gName 5) gNil))) tYes (tDIn (tVar 5) (tVar 2)) [4, 5]) tNil))) rfl sc_is_shut.nd (pi_list (pv 1)) (blkOk_by (N := ["graph", "crowds", "inside", "one", "number", "behind"]) (sc := defScope s_is_shut) (by decide +kernel)) (fun _ _ _ _ _ => (pg_name (i := 3) sc_is_shut.nd rfl (.inl rfl))) (fun _ _ _ _ _ => pts_nil) (fun _ _ _ _ _ => (pe_callB (cr_all rfl) (by rfl) T.all boot_all (pa_cons (pe_lc (own := [("number", 4), ("behind", 5)]) (g := (gTup K 2 (gCons (gName 4) (gCons (gName 5) gNil)))) (tt := tYes) (te := (tDIn (tVar 5) (tVar 2))) rfl sc_is_shut.nd (pi_list (pe_dget hu (pv 0) (pv 3) (fun _ _ => rfl))) (blkOk_by (N := ["graph", "crowds", "inside", "one", "number", "behind"]) (sc := shutSc) (by decide +kernel)) (fun _ _ _ _ _ => (pg_tup rfl (pgs_cons (pg_name (i := 4) sc_is_shut.nd rfl (.inl rfl)) (pgs_cons (pg_name (i := 5) sc_is_shut.nd rfl (.inl rfl)) pgs_nil)))) (fun _ _ _ _ _ => pts_nil) (fun _ _ _ _ _ => (pe_cmp (pc_din hu (pv 5) (pv 2)) rfl))) pa_nil)))) pa_nil))))), ?_⟩
  refine ⟨_, rfl, cl, rfl, ⟨_, SqL.of hel⟩, fun D nD => ?_⟩
  refine lc_same (walk_list (K := K) (a := cl) (xs := ws)) e some (PvAt (.bl true)) (Paired.length hws) (by rw [Paired.length hws]; exact big _ (by omega)) nD (fun H1 s => SqL.of (s _ _ hel))
    (fun H1 H2 y b acc _ e k h => h.tk (Tk.butL e k)) ?_ (fun H3 acc s3 e3 p3 => ?_)
  · intro i c x H3 H4 Kt Kf kt kf hp s3 _ hy
    obtain ⟨rfl, hx⟩ := hy
    obtain ⟨x', hx', b, rfl, hb⟩ := Paired.getR hws hp
    obtain rfl : x = .ref b := Option.some.inj (hx.symm.trans hx')
    have hb := s3 _ _ hb
    refine ⟨rfl, iteT (B := Kf H4) ⟨_, rfl, by show 2 ≤ sizeLine; decide, fun t nt => kt _ _ c (same_new nt) rfl ⟨t, b, rfl, upd_same, ?_⟩⟩⟩
    exact at_ne hb (ne_of_none hb nt)
  rw [List.filterMap_some] at p3
  refine nilI (dict_const (K := K) e3 p3 fun fd nfd => ?_)
  rw [merge_const hn]
  have s4 := same_new (o := .dT (e.map fun c => (ck c, V.bl true))) nfd
  obtain ⟨H4, hH4⟩ : ∃ x, x = upd H3 fd (.dT (e.map fun c => (ck c, V.bl true))) := ⟨_, rfl⟩
  rw [← hH4] at s4 ⊢
  have efd : H4 fd = some (.dT (e.map fun c => (ck c, V.bl true))) := by rw [hH4]; exact upd_same
  clear hH4
  have s04 := s3.trans s4
  refine ⟨_, rfl, cl, rfl, ⟨_, SqL.of (s04 _ _ hel)⟩, fun D5 nD5 => ?_⟩
  refine lc_same (walk_list (K := K) (a := cl) (xs := ws)) e (fun c => some (decide (∀ p ∈ S c, p.2 ∈ e))) BlIs (Paired.length hws) (by rw [Paired.length hws]; exact big _ (by omega)) nD5 (fun H1 s => SqL.of (s _ _ (s04 _ _ hel)))
    (fun _ _ _ _ _ _ _ _ h => h) ?_ (fun H6 acc6 s6 e6 p6 => ?_)
  · intro i c x H5 H6 Kt Kf kt kf hp s5 _ hy
    obtain ⟨rfl, hx⟩ := hy
    obtain ⟨x', hx', b, rfl, hb⟩ := Paired.getR hws hp
    obtain rfl : x = .ref b := Option.some.inj (hx.symm.trans hx')
    have s05 := s04.trans s5
    have hb := s05 _ _ hb
    obtain ⟨kvs, rG, pG⟩ := id hG
    obtain ⟨vg, hvg, lg, wg, rfl, elg, pw⟩ := dk_some (F := fun v c => LsAt H0 v (S c)) pG (hek c (List.mem_of_getElem? hp))
    have elg := s05 _ _ elg
    have pw1 := prs_tk (Tk.same s05) pw
    refine ⟨rfl, iteT (B := Kf H6) ⟨_, rfl, _, rfl, g, .ref lg, rfl, by rw [← hvg]; exact dget_at (rd_same s05 rG) hb, lg, rfl, ⟨_, SqL.of elg⟩, fun D7 nD7 => ?_⟩⟩
    refine lc_same (walk_list (K := K) (a := lg) (xs := wg)) (S c) (fun p => some (decide (p.2 ∈ e))) BlIs (Paired.length pw1) (by rw [Paired.length pw1]; exact big _ (by have := hS c; omega)) nD7 (fun H1 s => SqL.of (s _ _ elg))
      (fun _ _ _ _ _ _ _ _ h => h) ?_ (fun H8 acc8 s8 e8 p8 => ?_)
    · intro j p y H9 H10 Kt Kf kt kf hp s9 _ hy
      obtain ⟨rfl, hx⟩ := hy
      obtain ⟨y', hy', a, u, rfl, ha, bp, rfl, hbp⟩ := Paired.getR pw1 hp
      obtain rfl : y = .ref a := Option.some.inj (hx.symm.trans hy')
      refine ⟨a, _, rfl, SqT.of (s9 _ _ ha), rfl, _, _, rfl, _, _, rfl, rfl, rfl, ?_⟩
      refine iteT (B := Kf H10) ⟨_, rfl, _, rfl, fd, _, rfl, dget_at (.inl (s9 _ _ (s5 _ _ efd))) (s9 _ _ hbp), ?_⟩
      refine kt _ _ _ (Same.refl _) rfl ?_
      have hm := dk_isSome (F := fun v _ => v = V.bl true) ((keys_const (v0 := V.bl true) e).mono fun kv c z => ⟨z.1, z.2⟩) p.2
      exact congrArg V.bl hm
    · rw [List.filterMap_eq_map'] at p8
      refine ⟨D7, (S c).map (fun p => decide (p.2 ∈ e)), rfl, by rw [← bls_of p8]; exact SqL.of e8, ?_⟩
      rw [all_decP]
      exact kt _ _ _ s8 rfl rfl
  · rw [List.filterMap_eq_map'] at p6
    refine ⟨D5, e.map (fun c => decide (∀ p ∈ S c, p.2 ∈ e)), rfl, by rw [← bls_of p6]; exact SqL.of e6, ?_⟩
    rw [all_decP]
    exact q H6 (s04.trans s6)
end
end Pb
set_option Elab.async false
set_option linter.all false
set_option maxRecDepth 100000
set_option maxHeartbeats 4000000
namespace Pb
open PySem PySem.Spec PyProof.Rows L2
open C8 (Cal pe_c)
section
variable {P : Program} {w : World} {K : PySem.W.Frag} {mg : Str → Option Value} {base : Heap}
/-! ### sorted(lists of crowds) -/
abbrev ld (e : List Cr) : PyData := .list (e.map cd)
def decL : PyData → List Cr
  | .list ds => ds.map dec
  | _ => []
theorem decL_ld (e : List Cr) : decL (ld e) = e := by
  show (e.map cd).map dec = e
  rw [List.map_map]
  have : (dec ∘ cd) = id := funext dec_cd
  rw [this, List.map_id]
theorem db_lcs {H : Hp} : ∀ {vs : List V} {es : List (List Cr)}, Paired (LcAt H) vs es → ∃ bs : DB, bs.map (·.1) = vs ∧ bs.map (fun b => decL b.2) = es ∧ ∀ b ∈ bs, ∃ e, b.2 = ld e ∧ LcAt H b.1 e
  | _, _, .nil => ⟨[], rfl, rfl, fun b h => nomatch h⟩
  | x :: _, c :: _, .cons h t => by
    obtain ⟨bs, e1, e2, e3⟩ := db_lcs t
    refine ⟨(x, ld c) :: bs, by rw [List.map_cons, e1], by rw [List.map_cons, e2, decL_ld], fun b hb => ?_⟩
    rcases List.mem_cons.mp hb with rfl | hb
    · exact ⟨c, rfl, h⟩
    · exact e3 b hb
theorem dpAll_crs {H : Hp} : ∀ {vs : List V} {cs : List Cr}, Paired (CrAt H) vs cs → DpAll K H vs (cs.map cd)
  | _, _, .nil => .nil
  | _, _, .cons ⟨a, h1, h2⟩ t => by
    rw [List.map_cons, h1]
    exact .cons (dp_tupI h2) (dpAll_crs t)
theorem alike_crs : ∀ a b : List Cr, PySem.W.alikeAll (a.map cd) (b.map cd) = true
  | [], _ => by simp [PySem.W.alikeAll]
  | _ :: _, [] => by simp [PySem.W.alikeAll]
  | x :: a, y :: b => by
    rw [List.map_cons, List.map_cons, PySem.W.alikeAll, alike_crs a b]
    rw [show PySem.W.alike (cd x) (cd y) = PySem.W.alikeAll (x.map PyData.int) (y.map PyData.int) by simp [cd, PySem.W.alike], PySem.W.alike_ints]
    rfl
theorem depth_crs : ∀ a : List Cr, PyData.depthAll (a.map cd) ≤ 1
  | [] => by simp [PyData.depthAll]
  | x :: a => by
    have := depth_crs a
    have h1 := PySem.W.depth_ints x
    simp only [List.map_cons, PyData.depthAll, PyData.depth, cd] at *
    omega
theorem sort_lcs {H : Hp} {D : Addr} {vs : List V} {es : List (List Cr)} {Q : VK} (e : H D = some (.lst vs)) (p : Paired (LcAt H) vs es) (q : ∀ t ws es', H t = none → es'.Perm es → Paired (LcAt H) ws es' → Q (.ref t) (upd H t (.lst ws))) : rSortDt K [.ref D] H Q := by
  obtain ⟨bs, e1, e2, e3⟩ := db_lcs p
  refine ⟨D, bs, rfl, by rw [e1]; exact SqL.of e, fun b hb => ?_, fun d hd d' hd' => ?_, .inr fun d hd => ?_, fun b hb => ?_, fun t nt => q t _ ((srt bs).map fun b => decL b.2) nt ?_ ?_⟩
  · obtain ⟨e, h1, l, ws, h2, h3, h4⟩ := e3 b hb
    rw [h1, h2]
    exact .lst (SqL.of h3) (dpAll_crs h4)
  · obtain ⟨b, hb, rfl⟩ := List.mem_map.mp hd
    obtain ⟨b', hb', rfl⟩ := List.mem_map.mp hd'
    obtain ⟨e, h1, _⟩ := e3 b hb
    obtain ⟨e', h1', _⟩ := e3 b' hb'
    rw [h1, h1']
    rw [show PySem.W.alike (ld e) (ld e') = PySem.W.alikeAll (e.map cd) (e'.map cd) by simp [ld, PySem.W.alike]]
    exact alike_crs _ _
  · obtain ⟨b, hb, rfl⟩ := List.mem_map.mp hd
    obtain ⟨e, h1, _⟩ := e3 b hb
    rw [h1]
    exact ⟨(fun h => nomatch h), (fun xs h => nomatch h)⟩
  · obtain ⟨e, h1, _⟩ := e3 b hb
    rw [h1]
    show PyData.depth (.list (e.map cd)) ≤ 16
    have := depth_crs e
    rw [PyData.depth]
    omega
  · rw [← e2]
    exact (List.mergeSort_perm _ _).map _
  · refine paired_maps fun b hb => ?_
    obtain ⟨e, h1, h2⟩ := e3 b ((List.mergeSort_perm _ _).mem_iff.mp hb)
    rw [h1, decL_ld]
    exact h2
/-! ### ends_of -/
theorem sc_ends_of : FnScope ["rule", "crowd", "limit", "graph", "one"] ["rule", "crowd", "limit"] (defScope s_ends_of) := ⟨rfl, rfl, rfl, by decide +kernel, rfl, by decide +kernel, by decide +kernel⟩
def spEnds : Sp := fun vs H Q _ => ∃ (r : Rl) (u v : V) (c : Cr) (h : Nat), vs = [u, v, .int 1000] ∧ RlAt H u r ∧ RlOk r ∧ CrAt H v c ∧ CrOk r h c ∧ h ≤ 4 ∧
  ∀ H' l vs es, Same H H' → H l = none → H' l = some (.lst vs) → Paired (LcAt H') vs es → es.Nodup → (∀ e, e ∈ es ↔ IsEnd (succ r) c e) → es.length ≤ 100 → Q (.ref l) H'
theorem ok_ends_of (T : Tx mg) (D : DefAt K mg "ends_of" s_ends_of [.int 1000]) (C1 : Cal P w K mg base 4 "graph_of" spGraph []) (C2 : Cal P w K mg base 2 "rounds_of" spRounds []) (C3 : Cal P w K mg base 1 "is_shut" spShut []) : Cal P w K mg base 5 "ends_of" spEnds [.int 1000] := by
  refine cal1 (n := 2) D sc_ends_of rfl (fun T kV doc pm an cdv ct us its h1 h2 => match us, its, h1, h2 with | [_, _], [_], _, _ => ⟨_, rfl, rfl⟩) (fun vs H Q E ⟨_, _, _, _, _, e, _⟩ => by rw [e]; rfl) fun f cdv A outer s H0 vs Q E hr hsp => ?_
  obtain ⟨r, u, v, c, h, rfl, hR, ho, hv, hc, h4, q⟩ := hsp
  have hu64 := hu64_of hr
  refine ⟨_, (pss_cons (ps_set (i := 3) sc_ends_of.nd rfl (.inr rfl) (pe_c C1 hr (by omega) rfl (pa_cons (pv 0) (pa_cons (pv 1) (pa_cons (pv 2) pa_nil)))))
    (pss_one (ps_ret (pe_callB (cr_sortDt hu64) (by rfl) T.sorted boot_sorted (pa_cons (pe_lc (own := [("one", 4)]) (g := (gName 4)) (tt := (tB (tCall spShut [] E0 (tCons (tVar 3) (tCons (tVar 4) tNil))))) (te := (tVar 4)) rfl sc_ends_of.nd (pi_list (pe_c C2 hr (by omega) rfl (pa_cons (pv 3) (pa_cons (pv 1) pa_nil)))) (blkOk_by (N := ["rule", "crowd", "limit", "graph", "one"]) (sc := defScope s_ends_of) (by decide +kernel)) (fun _ _ _ _ _ => (pg_name (i := 4) sc_ends_of.nd rfl (.inl rfl))) (fun _ _ _ _ _ => (pts_one (pt_val (pe_c C3 hr (by omega) rfl (pa_cons (pv 3) (pa_cons (pv 4) pa_nil)))))) (fun _ _ _ _ _ => (pv 4))) pa_nil))))), ?_⟩
  refine ⟨_, rfl, _, rfl, _, rfl, r, u, v, c, h, rfl, hR, ho, hv, hc, h4, fun H1 g L s1 n1 hg gr => ?_⟩
  have hLl := gr.len ho h4 hc
  refine ⟨_, rfl, _, rfl, succ r, g, v, c, L, rfl, hg, gr.nd, gr.mem, by omega, succ_len ho, hv.tk (Tk.same s1), fun x hx e => ?_, fun H2 lr vr rs s2 n2 e2 p2 hrn hrl hre hrk hrd => ?_⟩
  · have o := reach_ok ho hc ((gr.mem x).mp hx)
    rw [e] at o
    have o2 := o.len
    have o3 := ho.r1
    simp at o2
    omega
  refine ⟨lr, rfl, ⟨_, SqL.of e2⟩, fun D3 nD3 => ?_⟩
  refine lc_same (walk_list (K := K) (a := lr) (xs := vr)) rs (fun e => if decide (∀ c ∈ e, ∀ p ∈ succ r c, p.2 ∈ e) = true then some e else none) (fun H y e => LcNe H D3 y e) (Paired.length p2) (by rw [Paired.length p2]; exact big _ (by omega)) nD3 (fun H1 s => SqL.of (s _ _ e2))
    (fun H1 H2 y b acc _ e k h => h.keep (Tk.butL e k) fun l ws hl e => k _ _ hl e) ?_ (fun H4 acc s4 e4 p4 => ?_)
  · intro i e x H3 H5 Kt Kf kt kf hp s3 ⟨acc, hacc⟩ hy
    obtain ⟨rfl, hx⟩ := hy
    obtain ⟨x', hx', l, ws, rfl, hl, hws⟩ := Paired.getR p2 hp
    obtain rfl : x = .ref l := Option.some.inj (hx.symm.trans hx')
    have hem := List.mem_of_getElem? hp
    have hz : e.length ≤ 100 := Nat.le_trans (nodup_len (hrd e hem) fun c hc => hrk e hem c hc) (by omega)
    refine ⟨rfl, _, rfl, _, rfl, succ r, g, l, L, e, ws, rfl, (hg.at.same s2).same s3, s3 _ _ hl, crs_tk (Tk.same s3) hws, hrk e hem, hrd e hem, hz, succ_len ho, fun H6 s6 => ⟨_, rfl, ?_⟩⟩
    refine ite2 (fun z => ⟨_, rfl, kt _ _ e s6 (by rw [if_pos z]) ⟨l, ws, rfl, ?_, s6 _ _ (s3 _ _ hl), crs_tk (Tk.same (s3.trans s6)) hws⟩⟩) (fun z => kf _ s6 (by rw [if_neg z]))
    exact ne_of_none hl nD3
  · rw [fm_filter] at p4
    refine nilI (sort_lcs (K := K) e4 (p4.mono fun y e ⟨l, ws, h1, _, h3, h4⟩ => ⟨l, ws, h1, h3, h4⟩) fun t ws es' nt hp pe => ?_)
    have s5 := same_new (o := .lst ws) nt
    refine q _ t ws es' (((s1.trans s2).trans s4).trans s5) (((s1.trans s2).trans s4).free nt) upd_same (pe.mono fun y e h => h.same s5) (hp.symm.nodup (hrn.filter _)) (fun e => ?_) ?_
    · rw [hp.mem_iff, List.mem_filter, decide_eq_true_iff]
      exact hre e
    · rw [hp.length_eq]
      exact Nat.le_trans (List.length_filter_le ..) hrl
end
end Pb
set_option Elab.async false
set_option linter.all false
set_option maxRecDepth 100000
set_option maxHeartbeats 4000000
namespace Pb
open PySem PySem.Spec PyProof.Rows L2
open C8 (Cal pe_c)
section
variable {P : Program} {w : World} {K : PySem.W.Frag} {mg : Str → Option Value} {base : Heap}
/-! ### the feed -/
/-- a feed of which n have been drawn at most -/
def FeedAt (H : Hp) (f : Addr) (n : Nat) : Prop := ∃ c l t : Int, H f = some (.lst [.int c, .int l, .int t]) ∧ 0 ≤ t ∧ t ≤ n
theorem FeedAt.mono {H : Hp} {f : Addr} {n m : Nat} (h : FeedAt H f n) (k : n ≤ m) : FeedAt H f m := let ⟨c, l, t, e, h0, h1⟩ := h; ⟨c, l, t, e, h0, by omega⟩
theorem FeedAt.same {H H' : Hp} {f : Addr} {n : Nat} (h : FeedAt H f n) (s : Same H H') : FeedAt H' f n := let ⟨c, l, t, e, h⟩ := h; ⟨c, l, t, s _ _ e, h⟩
theorem FeedAt.tk {H H' : Hp} {f : Addr} {n : Nat} (h : FeedAt H f n) (b : But f H H') : Tk H H' := let ⟨c, l, t, e, _⟩ := h; Tk.butL e b
theorem FeedAt.ne {H : Hp} {f p : Addr} {n : Nat} (h : FeedAt H f n) (q : H p = none) : f ≠ p := let ⟨c, l, t, e, _⟩ := h; ne_of_none e q
theorem FeedAt.at_ne {H : Hp} {f p : Addr} {o : HO} {n : Nat} (h : FeedAt H f n) (q : f ≠ p) : FeedAt (upd H p o) f n := let ⟨c, l, t, e, h⟩ := h; ⟨c, l, t, Pb.at_ne e q, h⟩
theorem cmul01 (b : Bool) : -(2 ^ 64) < (if b = true then (1 : Int) else 0) ∧ (if b = true then (1 : Int) else 0) < 2 ^ 64 := by cases b <;> decide
theorem sc_law_feed : FnScope ["_law_script", "_law_at", "_law_cell"] ["_law_script", "_law_at"] (defScope s_law_feed) := ⟨rfl, rfl, rfl, by decide +kernel, rfl, by decide +kernel, by decide +kernel⟩
def spFeed : Sp := fun vs H Q _ => ∃ (s : Addr) (ns : List Int) (k : Int), vs = [.ref s, .int k] ∧ SqL K H s (ns.map V.int) ∧ ns.length < 1073741824 ∧ ∀ H' f, Same H H' → H f = none → FeedAt H' f 0 → Q (.ref f) H'
theorem ok_law_feed (T : Tx mg) (D : DefAt K mg "_law_feed" s_law_feed []) : Cal P w K mg base 1 "_law_feed" (spFeed (K := K)) [] := by
  refine cal0 D sc_law_feed (fun _ _ _ _ _ _ us hl => match us, hl with | [_, _], _ => rfl) (fun vs H Q E ⟨_, _, _, e, _⟩ => by rw [e]; rfl) fun f cdv A outer s H0 vs Q E hr hsp => ?_
  obtain ⟨sa, ns, k, rfl, hs, hl, q⟩ := hsp
  refine ⟨_, (pss_cons (ps_set (i := 2) sc_law_feed.nd rfl (.inl rfl) (pe_op op_mul pe_int (pv 1)))
    (pss_cons (ps_if (pt_cmpR op_gt (pe_callB call_len_seq (by rfl) T.len boot_len (pa_cons (pv 0) pa_nil)) pe_int (nomark _))
      (pss_one (ps_set (i := 2) sc_law_feed.nd rfl (.inl rfl) (pe_op op_add (pe_ix ix_list (pv 0) (pe_op op_mod (pv 1) (pe_callB call_len_seq (by rfl) T.len boot_len (pa_cons (pv 0) pa_nil))) (fun _ _ => rfl)) (pe_op op_mul pe_int (pe_op op_fdiv (pv 1) (pe_callB call_len_seq (by rfl) T.len boot_len (pa_cons (pv 0) pa_nil))))))) pss_nil)
    (pss_one (ps_ret (pe_lst (pa_cons (pv 2) (pa_cons (pe_op op_mul (pe_callB (call_max2 rfl) (by rfl) T.max boot_max (pa_cons pe_int (pa_cons (pv 2) pa_nil))) (pe_callTy call_int1 (by rfl) T.int boot_int (pa_cons (pe_cmpR op_ge (pv 2) (pe_op op_pow pe_int pe_int) (nomark _)) pa_nil))) (pa_cons pe_int pa_nil)))))))), ?_⟩
  have hlm : ((ns.map V.int).length : Int) = ns.length := by rw [List.length_map]
  refine ⟨_, rfl, _, _, rfl, rfl, .inl ⟨by decide, by decide⟩, ?_⟩
  refine ⟨_, rfl, sa, _, rfl, .inl hs, _, _, rfl, rfl, _, rfl, ?_⟩
  rw [hlm]
  refine ite2 (fun z => ?gA) (fun _ => ?gB)
  case' gA =>
    have z := of_decide_eq_true z
    have hin : InR ns.length (k % ((ns.map V.int).length : Int)) := by
      rw [hlm]; exact ⟨Int.emod_nonneg _ (by omega), Int.emod_lt_of_pos _ (by omega)⟩
    refine ⟨_, rfl, _, rfl, _, rfl, sa, _, rfl, .inl hs, _, _, rfl, rfl, by rw [hlm]; omega, sa, _, _, _, rfl, rfl, hs, at_in hin, _, rfl, _, rfl, sa, _, rfl, .inl hs, _, _, rfl, rfl, by rw [hlm]; exact ⟨by omega, by omega⟩, _, _, rfl, rfl, .inl ⟨by decide, by decide⟩, _, _, rfl, rfl, ?_⟩
    generalize (gt ns (k % ((ns.map V.int).length : Int)) + 7919 * (k / ((ns.map V.int).length : Int))) = cell
  case' gB =>
    generalize (31 * k : Int) = cell
  all_goals (
    refine ⟨_, rfl, _, rfl, _, _, rfl, _, rfl, _, _, rfl, rfl, ⟨by decide, by decide, by decide⟩, _, _, rfl, rfl, .inr ⟨_, rfl, _, _, rfl, rfl, .inr (cmul01 _), by show 3 ≤ sizeLine; decide, fun p np => ?_⟩⟩
    exact q _ p (same_new np) np ⟨_, _, _, upd_same, by omega, by omega⟩)
/-! ### a draw -/
theorem sc_law_draw : FnScope ["_law_feed_here", "_law_many", "_law_turn", "_law_left", "_law_here", "_law_mixed"] ["_law_feed_here", "_law_many"] (defScope s_law_draw) := ⟨rfl, rfl, rfl, by decide +kernel, rfl, by decide +kernel, by decide +kernel⟩
def spDraw : Sp := fun vs H Q _ => ∃ (f : Addr) (many : Int) (n : Nat), vs = [.ref f, .int many] ∧ FeedAt H f n ∧ n ≤ 1000 ∧ 0 < many ∧ many ≤ 1000 ∧ ∀ H' x, But f H H' → FeedAt H' f (n + 1) → 0 ≤ x → x < many → Q (.int x) H'
theorem ok_law_draw (D : DefAt K mg "_law_draw" s_law_draw []) : Cal P w K mg base 1 "_law_draw" spDraw [] := by
  refine cal0 D sc_law_draw (fun _ _ _ _ _ _ us hl => match us, hl with | [_, _], _ => rfl) (fun vs H Q E ⟨_, _, _, e, _⟩ => by rw [e]; rfl) fun f cdv A outer s H0 vs Q E hr hsp => ?_
  obtain ⟨f, many, n, rfl, ⟨c, l, t, ef, h0, h1⟩, hn, m0, m1, q⟩ := hsp
  refine ⟨_, (pss_cons (ps_set (i := 2) sc_law_draw.nd rfl (.inl rfl) (pe_ix ix_list (pv 0) pe_int (fun _ _ => rfl)))
    (pss_cons (ps_asg (pe_op op_add (pv 2) pe_int) (pg_sub (pv 0) pe_int set_list))
    (pss_cons (ps_set (i := 3) sc_law_draw.nd rfl (.inl rfl) (pe_ix ix_list (pv 0) pe_int (fun _ _ => rfl)))
    (pss_cons (ps_if (pt_cmpR op_gt (pv 3) pe_int (nomark _))
      (pss_cons (ps_asg (pe_op op_fdiv (pv 3) (pv 1)) (pg_sub (pv 0) pe_int set_list))
      (pss_one (ps_ret (pe_op op_mod (pv 3) (pv 1))))) pss_nil)
    (pss_cons (ps_set (i := 4) sc_law_draw.nd rfl (.inl rfl) (pe_op op_add (pe_op op_add (pe_op op_mod (pe_ix ix_list (pv 0) pe_int (fun _ _ => rfl)) pe_int) (pe_op op_mul (pe_op op_mul pe_int (pv 2)) (pv 2))) pe_int))
    (pss_cons (ps_set (i := 5) sc_law_draw.nd rfl (.inl rfl) (pe_op op_mod (pe_op op_mul (pv 4) (pe_op op_add pe_int (pe_op op_mul pe_int (pv 2)))) pe_int))
    (pss_one (ps_ret (pe_op op_mod (pe_op op_fdiv (pe_op op_mod (pe_op op_add (pe_op op_mul (pe_op op_fdiv (pv 5) pe_int) pe_int) (pv 2)) pe_int) pe_int) (pv 1)))))))))), ?_⟩
  refine ⟨_, rfl, f, _, _, _, rfl, rfl, SqL.of ef, atI_nat (j := 2) rfl, ?_⟩
  refine ⟨_, rfl, _, _, rfl, rfl, _, rfl, f, _, 2, 2, rfl, rfl, ef, rfl, ?_⟩
  have e1 : upd H0 f (.lst [.int c, .int l, .int (t + 1)]) f = some (.lst [.int c, .int l, .int (t + 1)]) := upd_same
  have b1 : But f H0 (upd H0 f (.lst [.int c, .int l, .int (t + 1)])) := but_upd
  refine ⟨_, rfl, f, _, _, _, rfl, rfl, SqL.of e1, atI_nat (j := 1) rfl, ?_⟩
  refine ⟨_, rfl, _, _, rfl, rfl, _, rfl, ?_⟩
  refine ite2 (fun z => ?_) (fun _ => ?_)
  · refine ⟨_, rfl, _, rfl, _, _, rfl, rfl, ⟨m0, by omega⟩, _, rfl, f, _, 1, 1, rfl, rfl, e1, rfl, ?_⟩
    refine ⟨_, rfl, _, rfl, _, _, rfl, rfl, m0, ?_⟩
    refine q _ _ ?_ ⟨c, l / many, t + 1, upd_same, by omega, by omega⟩ (Int.emod_nonneg _ (by omega)) (Int.emod_lt_of_pos _ m0)
    exact b1.self
  · have ht : -(2 ^ 64) < t ∧ t < 2 ^ 64 := ⟨by omega, by omega⟩
    refine ⟨_, rfl, f, _, _, _, rfl, rfl, SqL.of e1, atI_nat (j := 0) rfl, _, _, rfl, rfl, (show (0 : Int) < 2147483647 by decide), _, rfl, _, _, rfl, rfl, .inl ⟨by decide, by decide⟩, _, rfl, _, _, rfl, rfl, .inr ht, _, _, rfl, rfl, _, _, rfl, rfl, ?_⟩
    refine ⟨_, rfl, _, rfl, _, _, rfl, rfl, .inl ⟨by decide, by decide⟩, _, _, rfl, rfl, _, _, rfl, rfl, .inr ⟨by omega, by omega⟩, _, _, rfl, rfl, (show (0 : Int) < 2147483629 by decide), ?_⟩
    refine ⟨_, rfl, _, _, rfl, rfl, ⟨by decide, by decide⟩, _, _, rfl, rfl, .inr ⟨by decide, by decide⟩, _, rfl, _, _, rfl, rfl, _, _, rfl, rfl, (show (0 : Int) < 998244353 by decide), _, _, rfl, rfl, ⟨by decide, by decide⟩, _, rfl, _, _, rfl, rfl, m0, ?_⟩
    exact q _ _ b1 ⟨c, l, t + 1, e1, by omega, by omega⟩ (Int.emod_nonneg _ (by omega)) (Int.emod_lt_of_pos _ m0)
/-- a comprehension over range that draws -/
theorem lc_feed {lo : Int} {n : Nat} {g : TG} {tt : TT} {te : TE} {vs : List Nat} {σ : L2.St} {H1 : Hp} {D f : Addr} {Qd : Hp → Prop} (n0 c : Nat) (I : Nat → List V → Prop) (hz : n < sizeLine) (hD : H1 D = none) (hf : FeedAt H1 f n0) (h0 : I 0 [])
    (hs : ∀ i H acc (Kt : V → Hp → Prop) (Kf : Hp → Prop), (∀ y H4, But f H H4 → FeedAt H4 f (n0 + (i + 1) * c) → I (i + 1) (acc ++ [y]) → Kt y H4) → (∀ H3, But f H H3 → FeedAt H3 f (n0 + (i + 1) * c) → I (i + 1) acc → Kf H3) → i < n → But f H1 H → FeedAt H f (n0 + i * c) → I i acc → acc.length ≤ i →
      g (.int (lo + i)) (wipe σ vs) H fun σ2 H2 => wipe σ2 vs = wipe σ vs ∧ tt σ2 H2 fun b H3 => if b = true then te σ2 H3 Kt else Kf H3)
    (hd : ∀ H acc, But f H1 H → H D = some (.lst acc) → FeedAt H f (n0 + n * c) → I n acc → acc.length ≤ n → Qd H) :
    ∃ W : Nat → Nat → Hp → Prop, (∃ m, W 0 m (upd H1 D (.lst []))) ∧ ∀ i m H, W i m H →
      ((Itr lo n).stop i H ∧ Qd H) ∨ ((Itr lo n).go i H ∧ ∃ Nx : Hp → Prop, (∀ H', Nx H' → ∃ m', m' < m ∧ W (i + 1) m' H') ∧ ∀ x H', (Itr lo n).yld i H x H' → g x (wipe σ vs) H' fun σ2 H2 => wipe σ2 vs = wipe σ vs ∧ tt σ2 H2 fun b H3 =>
        if b = true then te σ2 H3 fun y H4 => ∃ acc, H4 D = some (.lst acc) ∧ acc.length < sizeLine ∧ Nx (upd H4 D (.lst (acc ++ [y]))) else Nx H3) := by
  have hfD := hf.ne hD
  refine lc_it walk_range (fun i H => But f H1 H ∧ FeedAt H f (n0 + i * c) ∧ ∃ acc, H D = some (.lst acc) ∧ acc.length ≤ i ∧ I i acc) ⟨(But.refl f H1).put hD, by rw [Nat.zero_mul]; exact hf.at_ne hfD, [], upd_same, Nat.le_refl _, h0⟩ (fun _ _ _ _ => trivial) ?_ ?_
  · rintro i x H H' hi ⟨b, fe, acc, ea, la, ia⟩ ⟨rfl, rfl⟩
    refine hs i H' acc _ _ (fun y H4 b4 f4 i4 => ?_) (fun H3 b3 f3 i3 => ?_) hi b fe ia la
    · exact ⟨acc, b4 _ _ (Ne.symm hfD) ea, by omega, (b.trans b4).put hD, f4.at_ne hfD, acc ++ [y], upd_same, by rw [List.length_append]; show _ + 1 ≤ _; omega, i4⟩
    · exact ⟨b.trans b3, f3, acc, b3 _ _ (Ne.symm hfD) ea, by omega, i3⟩
  · rintro H ⟨b, fe, acc, ea, la, ia⟩
    exact hd H acc b ea fe ia la
end
end Pb
set_option Elab.async false
set_option linter.all false
set_option maxRecDepth 100000
set_option maxHeartbeats 4000000
namespace Pb
open PySem PySem.Spec PyProof.Rows L2
open C8 (Cal pe_c)
section
variable {P : Program} {w : World} {K : PySem.W.Frag} {mg : Str → Option Value} {base : Heap}
/-! ### _law_counts -/
theorem sc_law_counts : FnScope ["_law_feed_here", "_law_sorts", "_law_most", "_law_found", "_law_hand", "_law_sort"] ["_law_feed_here", "_law_sorts", "_law_most"] (defScope s_law_counts) := ⟨rfl, rfl, rfl, by decide +kernel, rfl, by decide +kernel, by decide +kernel⟩
theorem rep_snoc (n : Nat) : List.replicate (n + 1) (V.int 0) = List.replicate n (V.int 0) ++ [V.int 0] := List.replicate_succ'
theorem rep_map (n : Nat) : List.replicate n (V.int 0) = (List.replicate n (0 : Int)).map V.int := by rw [List.map_replicate]
def spCounts : Sp := fun vs H Q _ => ∃ (f : Addr) (so n : Nat), vs = [.ref f, .int so, .int 4] ∧ FeedAt H f n ∧ n + 10 ≤ 1000 ∧ 1 ≤ so ∧ so ≤ 4 ∧
  ∀ H' v cs (h : Nat), But f H H' → FeedAt H' f (n + 10) → CrAt H' v cs → cs.length = so → (∀ x ∈ cs, 0 ≤ x) → cs.sum = h → h ≤ 4 → Q v H'
theorem ok_law_counts (T : Tx mg) (D : DefAt K mg "_law_counts" s_law_counts []) (C1 : Cal P w K mg base 1 "_law_draw" spDraw []) : Cal P w K mg base 2 "_law_counts" spCounts [] := by
  refine cal0 D sc_law_counts (fun _ _ _ _ _ _ us hl => match us, hl with | [_, _, _], _ => rfl) (fun vs H Q E ⟨_, _, _, e, _⟩ => by rw [e]; rfl) fun f cdv A outer s H0 vs Q E hr hsp => ?_
  obtain ⟨f, so, n, rfl, fe, hn, h1, h4, q⟩ := hsp
  refine ⟨_, (pss_cons (ps_setLc (i := 3) (own := [("_law_sort", 5)]) (g := (gName 5)) (tt := tYes) (te := (tC (.int 0))) rfl sc_law_counts.nd rfl rfl (sw_true rfl rfl rfl (by decide +kernel)) (pi_range1 (by rfl) T.range (pa_cons (pv 1) pa_nil)) (blkOk_by (N := ["_law_feed_here", "_law_sorts", "_law_most", "_law_found", "_law_hand", "_law_sort"]) (sc := defScope s_law_counts) (by decide +kernel)) (fun _ _ _ _ _ => (pg_name (i := 5) sc_law_counts.nd rfl (.inl rfl))) (fun _ _ _ _ _ => pts_nil) (fun _ _ _ _ _ => pe_int))
    (pss_cons (ps_for PassesOwn.never rfl (pi_range1 (by rfl) T.range (pa_cons (pe_op op_add pe_int (pe_c C1 hr (by omega) rfl (pa_cons (pv 0) (pa_cons (pv 2) pa_nil)))) pa_nil)) (pg_name (i := 4) sc_law_counts.nd rfl (.inl rfl))
      (pss_cons (ps_set (i := 5) sc_law_counts.nd rfl (.inl rfl) (pe_c C1 hr (by omega) rfl (pa_cons (pv 0) (pa_cons (pv 1) pa_nil))))
      (pss_one (ps_asg (pe_op op_add (pe_ix ix_list (pv 3) (pv 5) (fun _ _ => rfl)) pe_int) (pg_sub (pv 3) (pv 5) set_list)))))
    (pss_one (ps_ret (pe_callTy call_tuple_of (by rfl) T.tuple boot_tuple (pa_cons (pv 3) pa_nil)))))), ?_⟩
  refine ⟨_, rfl, _, rfl, by omega, by omega, fun D nD => ?_⟩
  have hso : ((so : Int)).toNat = so := by omega
  rw [hso]
  refine lc_feed n 0 (fun i acc => acc = List.replicate i (V.int 0)) (big _ (by omega)) nD fe rfl ?_ (fun H1 acc b1 e1 fe1 i1 l1 => ?_)
  · intro i H acc Kt Kf kt kf hi b fe ia la
    exact ⟨rfl, iteT (B := Kf H) (kt _ _ (But.refl _ _) fe (by rw [ia, rep_snoc]))⟩
  rw [Nat.mul_zero, Nat.add_zero] at fe1
  rw [i1, rep_map] at e1
  have hfD := fe.ne nD
  refine ⟨_, rfl, _, rfl, f, 4, n, rfl, fe1, by omega, by decide, by decide, fun H2 x b2 fe2 x0 x1 => ⟨_, _, rfl, rfl, _, rfl, by omega, by omega, ?_⟩⟩
  have e2 := b2 _ _ (Ne.symm hfD) e1
  refine for_it (walk_range (lo := 0) (n := (1 + x).toNat)) (fun i σ H' => ∃ (cs : List Int) (y4 y5 : Option V), σ = [some (.ref f), some (.int so), some (.int 4), some (.ref D), y4, y5] ∧ But f H0 H' ∧ FeedAt H' f (n + 1 + i) ∧ H' D = some (.lst (cs.map V.int)) ∧ cs.length = so ∧ (∀ x ∈ cs, 0 ≤ x) ∧ cs.sum = i)
    ⟨List.replicate so 0, none, none, rfl, b1.trans b2, fe2, e2, List.length_replicate, fun x hx => by rw [(List.mem_replicate.mp hx).2]; exact Int.le_refl 0, ?_⟩ (fun _ _ _ _ _ => trivial) ?_ ?_
  · have : ∀ m : Nat, (List.replicate m (0 : Int)).sum = 0 := by
      intro m
      induction m with
      | zero => rfl
      | succ m ih => rw [List.replicate_succ, List.sum_cons, ih]; rfl
    exact this so
  · rintro i x' σ H3 H4 hi ⟨cs, y4, y5, rfl, b3, fe3, e3, l3, p3, s3⟩ ⟨rfl, rfl⟩
    have hi3 : i < 4 := by omega
    refine ⟨_, rfl, _, rfl, f, so, n + 1 + i, rfl, fe3, by omega, by omega, by omega, fun H5 z b5 fe5 z0 z1 => ?_⟩
    have e5 := b5 _ _ (Ne.symm hfD) e3
    have hz : InR cs.length z := ⟨z0, by omega⟩
    refine ⟨_, rfl, _, rfl, D, _, z, _, rfl, rfl, SqL.of e5, at_in hz, _, _, rfl, rfl, _, rfl, _, rfl, D, _, z, _, rfl, rfl, e5, by rw [List.length_map]; exact ixN_in hz, ?_⟩
    rw [map_setI]
    have hg : cs[z.toNat]? = some (gt cs z) := by
      have hl : z.toNat < cs.length := by omega
      unfold gt
      rw [List.getD_eq_getElem?_getD, List.getElem?_eq_getElem hl]
      rfl
    refine ⟨cs.set z.toNat (gt cs z + 1), _, _, rfl, (b3.trans b5).put nD, fe5.at_ne hfD, upd_same, by rw [List.length_set]; exact l3, fun y hy => ?_, by rw [sum_setI hg, s3]; omega⟩
    rcases mem_set_cases hy with e | e
    · have := p3 _ (List.mem_of_getElem? hg)
      omega
    · exact p3 _ e
  · rintro σ H3 ⟨cs, y4, y5, rfl, b3, fe3, e3, l3, p3, s3⟩
    refine ⟨_, rfl, D, _, rfl, .inl ⟨SqL.of e3, fun t nt => ?_⟩⟩
    exact q _ _ cs (1 + x).toNat (b3.trans (But.same (same_new nt))) ((fe3.mono (by omega)).same (same_new nt)) ⟨t, rfl, upd_same⟩ l3 p3 s3 (by omega)
/-! ### _law_begun -/
theorem sc_law_begun : FnScope ["_law_rule_here", "_law_counts_here", "_law_found", "_law_sort", "_law_room"] ["_law_rule_here", "_law_counts_here"] (defScope s_law_begun) := ⟨rfl, rfl, rfl, by decide +kernel, rfl, by decide +kernel, by decide +kernel⟩
theorem ok_law_begun (T : Tx mg) (D : DefAt K mg "_law_begun" s_law_begun []) : Cal P w K mg base 1 "_law_begun" spBegun [] := by
  refine cal0 D sc_law_begun (fun _ _ _ _ _ _ us hl => match us, hl with | [_, _], _ => rfl) (fun vs H Q E ⟨_, _, _, _, e, _⟩ => by rw [e]; rfl) fun f cdv A outer s H vs Q E hr h => ?_
  obtain ⟨r, _, _, cs, rfl, ⟨a, b, d, z, ms, rfl, ha, hb, hd, hms, hz⟩, ho, ⟨t, rfl, ht⟩, hl, q⟩ := h
  refine ⟨_, (pss_cons (ps_setLc (i := 2) (own := [("_law_room", 4)]) (g := (gName 4)) (tt := tYes) (te := (tC (.int 0))) rfl sc_law_begun.nd rfl rfl (sw_true rfl rfl rfl (by decide +kernel)) (pi_range1 (by rfl) T.range (pa_cons (pe_ix ix_tup (pv 0) pe_int (fun _ _ => rfl)) pa_nil)) (blkOk_by (N := ["_law_rule_here", "_law_counts_here", "_law_found", "_law_sort", "_law_room"]) (sc := defScope s_law_begun) (by decide +kernel)) (fun _ _ _ _ _ => (pg_name (i := 4) sc_law_begun.nd rfl (.inl rfl))) (fun _ _ _ _ _ => pts_nil) (fun _ _ _ _ _ => pe_int))
    (pss_cons (ps_for PassesOwn.never rfl (pi_range1 (by rfl) T.range (pa_cons (pe_callB call_len_seq (by rfl) T.len boot_len (pa_cons (pv 1) pa_nil)) pa_nil)) (pg_name (i := 3) sc_law_begun.nd rfl (.inl rfl))
      (pss_cons (ps_set (i := 4) sc_law_begun.nd rfl (.inl rfl) (pe_ix ix_tup (pe_ix ix_tup (pv 0) pe_int (fun _ _ => rfl)) (pv 3) (fun _ _ => rfl)))
      (pss_one (ps_asg (pe_op op_add (pe_ix ix_list (pv 2) (pv 4) (fun _ _ => rfl)) (pe_ix ix_tup (pv 1) (pv 3) (fun _ _ => rfl))) (pg_sub (pv 2) (pv 4) set_list)))))
    (pss_one (ps_ret (pe_callTy call_tuple_of (by rfl) T.tuple boot_tuple (pa_cons (pv 2) pa_nil)))))), ?_⟩
  have hr5 := ho.r5
  refine ⟨_, rfl, _, _, _, _, rfl, rfl, SqT.of ha, atI_nat (j := 0) rfl, _, rfl, by omega, by omega, fun l nl => ?_⟩
  have hro : ((r.rooms : Int)).toNat = r.rooms := by omega
  rw [hro]
  refine lc_same (walk_range (lo := 0) (n := r.rooms)) (List.replicate r.rooms (0 : Int)) some IntIs List.length_replicate.symm (big _ (by omega)) nl (fun _ _ => trivial) (fun _ _ _ _ _ _ _ _ h => h) ?_ (fun H1 acc s1 e1 p1 => ?_)
  · intro i x y H2 H3 Kt Kf kt kf hp s2 _ ⟨h1, h2⟩
    subst h1 h2
    have hx0 : x = 0 := (List.mem_replicate.mp (List.mem_of_getElem? hp)).2
    exact ⟨rfl, iteT (B := Kf H3) (kt _ _ x (Same.refl _) rfl (by rw [hx0]; rfl))⟩
  rw [List.filterMap_some] at p1
  rw [ints_of p1] at e1
  refine ⟨_, rfl, t, _, rfl, .inr (SqT.of (s1 _ _ ht)), _, rfl, by rw [List.length_map]; have := ho.s4; omega, by rw [List.length_map]; have := ho.s4; omega, ?_⟩
  have hct : (((cs.map V.int).length : Nat) : Int).toNat = cs.length := by rw [List.length_map]; omega
  rw [hct]
  refine for_it (walk_range (lo := 0) (n := cs.length)) (fun i σ H' => ∃ y3 y4, σ = [some (.ref a), some (.ref t), some (.ref l), y3, y4] ∧ Same H H' ∧ H' l = some (.lst ((((r.starts.zip cs).take i).foldl (fun c p => addTo c p.1 p.2) (List.replicate r.rooms 0)).map V.int)))
    ⟨none, none, rfl, s1, e1⟩ (fun _ _ _ _ _ => trivial) ?_ ?_
  · rintro i x σ H1 H2 hi ⟨y3, y4, rfl, s2, el⟩ ⟨rfl, rfl⟩
    have e0 : (0 : Int) + (i : Int) = ((i : Nat) : Int) := by omega
    have hm : cs[i]? = some cs[i] := List.getElem?_eq_getElem hi
    have hil : i < r.starts.length := by omega
    have hst : r.starts[i]? = some r.starts[i] := List.getElem?_eq_getElem hil
    have hin := ho.st _ (List.mem_of_getElem? hst)
    have hz : (r.starts.zip cs)[i]? = some (r.starts[i], cs[i]) := by rw [List.getElem?_zip_eq_some]; exact ⟨hst, hm⟩
    have hlen : (((r.starts.zip cs).take i).foldl (fun c p => addTo c p.1 p.2) (List.replicate r.rooms 0)).length = r.rooms := begFold_len _ List.length_replicate
    refine ⟨_, rfl, _, _, _, _, rfl, rfl, SqT.of (s2 _ _ ha), atI_nat (j := 1) rfl, _, rfl, b, _, _, .int r.starts[i], rfl, rfl, SqT.of (s2 _ _ hb), by rw [e0]; exact atI_nat (by rw [List.getElem?_map, hst]; rfl), ?_⟩
    refine ⟨_, rfl, _, rfl, l, _, _, _, rfl, rfl, SqL.of el, at_cr hlen hin, _, rfl, _, rfl, t, _, _, .int cs[i], rfl, rfl, SqT.of (s2 _ _ ht), by rw [e0]; exact atI_nat (by rw [List.getElem?_map, hm]; rfl), _, _, rfl, rfl, _, rfl, _, rfl, l, _, _, _, rfl, rfl, el, by rw [List.length_map, hlen]; exact ixN_in hin, ?_⟩
    refine ⟨_, _, rfl, same_put s2 nl, ?_⟩
    rw [upd_same, take_succ_fold2 _ _ hz, map_setI]
    rfl
  · rintro σ H3 ⟨y3, y4, rfl, s3, el⟩
    refine ⟨_, rfl, l, _, rfl, .inl ⟨SqL.of el, fun t nt => ?_⟩⟩
    have ez : (r.starts.zip cs).take cs.length = r.starts.zip cs := List.take_of_length_le (by rw [List.length_zip]; omega)
    rw [ez] 
    exact q _ _ (s3.trans (same_new nt)) ⟨t, rfl, upd_same⟩
/-! ### _law_steps -/
theorem sc_law_steps : FnScope ["_law_rule_here", "_law_crowd", "_law_found", "_law_number", "_law_meeting", "_law_left", "_law_room"] ["_law_rule_here", "_law_crowd"] (defScope s_law_steps) := ⟨rfl, rfl, rfl, by decide +kernel, rfl, by decide +kernel, by decide +kernel⟩
theorem two_may {r : Rl} {h : Nat} {c : Cr} {m : Mt} (hc : CrOk r h c) (h1 : InR r.rooms m.1) (h2 : InR r.rooms m.2.1) : mayBe c m = true ↔ ∀ x ∈ down (down c m.1) m.2.1, 0 ≤ x := by
  constructor
  · intro hm; exact two_pos hc.len h1 h2 hc.pos hm
  · intro hp
    have hl : (down c m.1).length = r.rooms := by rw [down_len]; exact hc.len
    have hl2 : (down (down c m.1) m.2.1).length = r.rooms := by rw [down_len]; exact hl
    have g1 := hp _ (List.mem_of_getElem? (gt_get hl2 h1))
    have g2 := hp _ (List.mem_of_getElem? (gt_get hl2 h2))
    rw [gt_down hl h2 h1, gt_down hc.len h1 h1, if_pos rfl] at g1
    rw [gt_down hl h2 h2, if_pos rfl, gt_down hc.len h1 h2] at g2
    unfold mayBe
    by_cases e : m.1 = m.2.1
    · rw [if_pos e.symm] at g1
      rw [if_pos e]
      exact decide_eq_true (by omega)
    · rw [if_neg (fun z => e z.symm)] at g1
      rw [if_neg e] at g2
      rw [if_neg e, decide_eq_true (show 1 ≤ gt c m.1 by omega), decide_eq_true (show 1 ≤ gt c m.2.1 by omega)]
      rfl
def spSteps : Sp := fun vs H Q _ => ∃ (r : Rl) (u v : V) (c : Cr) (h : Nat), vs = [u, v] ∧ RlAt H u r ∧ RlOk r ∧ CrAt H v c ∧ CrOk r h c ∧ ∀ H' l vs, Same H H' → H l = none → H' l = some (.lst vs) → Paired (PrAt H') vs (succ r c) → Q (.ref l) H'
theorem ok_law_steps (T : Tx mg) (D : DefAt K mg "_law_steps" s_law_steps []) : Cal P w K mg base 1 "_law_steps" spSteps [] := by
  refine cal0 D sc_law_steps (fun _ _ _ _ _ _ us hl => match us, hl with | [_, _], _ => rfl) (fun vs H Q E ⟨_, _, _, _, _, e, _⟩ => by rw [e]; rfl) fun f cdv A outer s H0 vs Q E hr hsp => ?_
  obtain ⟨r, _, v, c, h, rfl, ⟨a, b, d, z, ms, rfl, ha, hb, hd, hms, hz⟩, ho, ⟨vc, rfl, hv⟩, hc, q⟩ := hsp
  refine ⟨_, (pss_cons (ps_set (i := 2) sc_law_steps.nd rfl (.inl rfl) (pe_lst pa_nil))
    (pss_cons (ps_for PassesOwn.never rfl (pi_enumT (by rfl) T.enumerate (pa_cons (pe_ix ix_tup (pv 0) pe_int (fun _ _ => rfl)) pa_nil)) (pg_tup rfl (pgs_cons (pg_name (i := 3) sc_law_steps.nd rfl (.inl rfl)) (pgs_cons (pg_name (i := 4) sc_law_steps.nd rfl (.inl rfl)) pgs_nil)))
      (pss_cons (ps_set (i := 5) sc_law_steps.nd rfl (.inl rfl) (pe_callTy call_list_of (by rfl) T.list boot_list (pa_cons (pv 1) pa_nil)))
      (pss_cons (ps_for PassesOwn.never rfl (pi_tup (pe_slice sl_tup (pv 4) po_none (po_some pe_int))) (pg_name (i := 6) sc_law_steps.nd rfl (.inl rfl))
        (pss_one (ps_asg (pe_op op_sub (pe_ix ix_list (pv 5) (pv 6) (fun _ _ => rfl)) pe_int) (pg_sub (pv 5) (pv 6) set_list))))
      (pss_one (ps_if (pt_cmpR op_ge (pe_callB (cr_min rfl) (by rfl) T.min boot_min (pa_cons (pv 5) pa_nil)) pe_int (nomark _))
        (pss_cons (ps_for PassesOwn.never rfl (pi_tup (pe_slice sl_tup (pv 4) (po_some pe_int) po_none)) (pg_name (i := 6) sc_law_steps.nd rfl (.inl rfl))
          (pss_one (ps_asg (pe_op op_add (pe_ix ix_list (pv 5) (pv 6) (fun _ _ => rfl)) pe_int) (pg_sub (pv 5) (pv 6) set_list))))
        (pss_one (ps_expr (pe_bm PySem.F.plainAttrs_list PySem.F.slot_list_append PySem.F.type_list_append mt_append (pv 2) (pa_cons (pe_tup (pa_cons (pv 3) (pa_cons (pe_callTy call_tuple_of (by rfl) T.tuple boot_tuple (pa_cons (pv 5) pa_nil)) pa_nil))) pa_nil))))) pss_nil)))))
    (pss_one (ps_ret (pv 2))))), ?_⟩
  refine ⟨by show 0 ≤ sizeLine; decide, fun D nD => ?_⟩
  have s0 := same_new (o := .lst []) nD
  refine ⟨_, rfl, _, _, _, _, rfl, rfl, SqT.of (s0 _ _ ha), atI_nat (j := 2) rfl, d, ms, rfl, SqT.of (s0 _ _ hd), ?_⟩
  have hml := Paired.length hms
  have hmlen := ho.ml
  refine for_it (walk_enumT (xs := ms)) (fun i σ H' => ∃ (vs : List V) (y3 y4 y5 y6 : Option V), σ = [some (.ref a), some (.ref vc), some (.ref D), y3, y4, y5, y6] ∧ Same H0 H' ∧ H' D = some (.lst vs) ∧ Paired (PrAt H') vs (((nums r).take i).filterMap fun p => if mayBe c p.2 = true then some (p.1, behind c p.2) else none))
    ⟨[], none, none, none, none, rfl, s0, upd_same, by rw [List.take_zero]; exact .nil⟩ (fun i σ H' _ ⟨_, _, _, _, _, _, h, _⟩ => SqT.of (h _ _ hd)) ?_ ?_
  · rintro i x σ H1 H2 hi ⟨vs, y3, y4, y5, y6, rfl, s1, eD, pD⟩ ⟨T, x1, x2, rfl, nT, rfl, e1, e2⟩
    cases e1
    have hil : i < (nums r).length := by rw [nums_len]; omega
    have hp : (nums r)[i]? = some (nums r)[i] := List.getElem?_eq_getElem hil
    generalize (nums r)[i] = p at hp
    obtain ⟨q1, q2⟩ := nums_get hp
    obtain ⟨mv, hmv, hma⟩ := Paired.getR hms q2
    have e2 : (_ : List V)[i]? = some x2 := e2
    obtain rfl : x2 = mv := Option.some.inj (e2.symm.trans hmv)
    obtain ⟨i1, i2, i3, i4⟩ := ho.mt p.2 (List.mem_of_getElem? q2)
    obtain ⟨am, rfl, ham⟩ := hma
    generalize hm : p.2 = m at *
    have sT : Same H1 (upd H1 T (.tup [.int (i : Nat), .ref am])) := same_new nT
    obtain ⟨H3, hH3⟩ : ∃ x, x = upd H1 T (.tup [.int (i : Nat), .ref am]) := ⟨_, rfl⟩
    rw [← hH3] at sT ⊢
    have eT : H3 T = some (.tup [.int (i : Nat), .ref am]) := by rw [hH3]; exact upd_same
    clear hH3
    have s3 := s1.trans sT
    refine ⟨T, _, rfl, SqT.of eT, rfl, _, _, rfl, _, _, rfl, rfl, ?_⟩
    refine ⟨_, rfl, vc, _, rfl, .inr (SqT.of (s3 _ _ hv)), fun l nl => ?_⟩
    have s4 : Same H3 (upd H3 l (.lst (c.map V.int))) := same_new nl
    refine ⟨_, rfl, 2, rfl, am, _, rfl, SqT.of (s4 _ _ (s3 _ _ ham)), (fun z => absurd (show HT.sIx 4 4 (some 2) = 4 from z.2) (by decide)), fun p1 np1 => ?_⟩
    obtain ⟨npl, np0⟩ := upd_none np1
    have ecut : cutV [V.int m.1, .int m.2.1, .int m.2.2.1, .int m.2.2.2] none (some 2) = ([m.1, m.2.1] : List Int).map V.int := rfl
    rw [ecut]
    refine ⟨p1, rfl, ⟨_, SqT.of upd_same⟩, ?_⟩
    have hDl : D ≠ l := ne_of_none (sT _ _ eD) nl
    refine for_it (walk_tup (K := K) (a := p1) (xs := ([m.1, m.2.1] : List Int).map V.int)) (fun j σ H' => ∃ y, σ = [some (.ref a), some (.ref vc), some (.ref D), some (.int (i : Nat)), some (.ref am), some (.ref l), y] ∧ Same H3 H' ∧ H' p1 = some (.tup (([m.1, m.2.1] : List Int).map V.int)) ∧ H' l = some (.lst (((([m.1, m.2.1] : List Int).take j).foldl down c).map V.int)))
      ⟨_, rfl, s4.trans (same_new np1), upd_same, at_ne upd_same (Ne.symm npl)⟩ (fun i σ H' _ ⟨_, _, _, h, _⟩ => SqT.of h) ?_ ?_
    · rintro j x σ H' _ hi ⟨y, rfl, s2, ep, el⟩ ⟨rfl, hx⟩
      rw [List.getElem?_map] at hx
      obtain ⟨z, hz, rfl⟩ := Option.map_eq_some_iff.mp hx
      have hin : InR r.rooms z := by
        have := List.mem_of_getElem? hz
        rcases List.mem_cons.mp this with e | this
        · rw [e]; exact i1
        · rw [List.mem_singleton.mp this]; exact i2
      have hl : (((([m.1, m.2.1] : List Int).take j).foldl down c)).length = r.rooms := fold_len down_len _ hc.len
      refine ⟨_, rfl, _, rfl, l, _, z, _, rfl, rfl, SqL.of el, at_cr hl hin, _, _, rfl, rfl, _, rfl, _, rfl, l, _, z, _, rfl, rfl, el, by rw [List.length_map, hl]; exact ixN_in hin, ?_⟩
      refine ⟨some (.int z), rfl, same_put s2 nl, at_ne ep npl, ?_⟩
      rw [upd_same, take_succ_fold down c hz, map_setI]
      rfl
    · rintro σ H5 ⟨y, rfl, s5, _, el⟩
      rw [show ([m.1, m.2.1] : List Int).take (([m.1, m.2.1] : List Int).map V.int).length = [m.1, m.2.1] from rfl] at el
      have el : H5 l = some (.lst ((down (down c m.1) m.2.1).map V.int)) := el
      have hl2 : (down (down c m.1) m.2.1).length = r.rooms := by rw [down_len, down_len]; exact hc.len
      have hr1 := ho.r1
      have etk : (nums r).take (i + 1) = (nums r).take i ++ [p] := by rw [List.take_add_one, hp]; rfl
      refine ⟨_, rfl, l, _, rfl, SqL.of el, by omega, fun mn hm1 hm2 => ⟨_, _, rfl, rfl, _, rfl, ?_⟩⟩
      have hmin : 0 ≤ mn ↔ mayBe c m = true := by
        rw [two_may hc i1 i2]
        exact ⟨fun h x hx => Int.le_trans h (hm2 x hx), fun h => h mn hm1⟩
      refine ite2 (fun z => ?_) (fun z => ?_)
      · have hmb := hmin.mp (of_decide_eq_true z)
        refine ⟨_, rfl, 2, rfl, am, _, rfl, SqT.of (s5 _ _ (s3 _ _ ham)), (fun z => absurd (show HT.sIx 4 0 (some 2) = 0 from z.1) (by decide)), fun p2 np2 => ?_⟩
        have ecut2 : cutV [V.int m.1, .int m.2.1, .int m.2.2.1, .int m.2.2.2] (some 2) none = ([m.2.2.1, m.2.2.2] : List Int).map V.int := rfl
        rw [ecut2]
        refine ⟨p2, rfl, ⟨_, SqT.of upd_same⟩, ?_⟩
        have npl2 : p2 ≠ l := (ne_of_none el np2).symm
        refine for_it (walk_tup (K := K) (a := p2) (xs := ([m.2.2.1, m.2.2.2] : List Int).map V.int)) (fun j σ H' => ∃ y, σ = [some (.ref a), some (.ref vc), some (.ref D), some (.int (i : Nat)), some (.ref am), some (.ref l), y] ∧ Same H3 H' ∧ H' p2 = some (.tup (([m.2.2.1, m.2.2.2] : List Int).map V.int)) ∧ H' l = some (.lst (((([m.2.2.1, m.2.2.2] : List Int).take j).foldl up (down (down c m.1) m.2.1)).map V.int)))
          ⟨_, rfl, s5.trans (same_new np2), upd_same, at_ne el (Ne.symm npl2)⟩ (fun i σ H' _ ⟨_, _, _, h, _⟩ => SqT.of h) ?_ ?_
        · rintro j x σ H' _ hi ⟨y, rfl, s2, ep, el⟩ ⟨rfl, hx⟩
          rw [List.getElem?_map] at hx
          obtain ⟨z, hz, rfl⟩ := Option.map_eq_some_iff.mp hx
          have hin : InR r.rooms z := by
            have := List.mem_of_getElem? hz
            rcases List.mem_cons.mp this with e | this
            · rw [e]; exact i3
            · rw [List.mem_singleton.mp this]; exact i4
          have hl : (((([m.2.2.1, m.2.2.2] : List Int).take j).foldl up (down (down c m.1) m.2.1))).length = r.rooms := fold_len up_len _ hl2
          refine ⟨_, rfl, _, rfl, l, _, z, _, rfl, rfl, SqL.of el, at_cr hl hin, _, _, rfl, rfl, _, rfl, _, rfl, l, _, z, _, rfl, rfl, el, by rw [List.length_map, hl]; exact ixN_in hin, ?_⟩
          refine ⟨some (.int z), rfl, same_put s2 nl, at_ne ep npl2, ?_⟩
          rw [upd_same, take_succ_fold up _ hz, map_setI]
          rfl
        · rintro σ H6 ⟨y, rfl, s6, _, el6⟩
          rw [show ([m.2.2.1, m.2.2.2] : List Int).take (([m.2.2.1, m.2.2.2] : List Int).map V.int).length = [m.2.2.1, m.2.2.2] from rfl] at el6
          have el6 : H6 l = some (.lst ((behind c m).map V.int)) := el6
          have eD6 := s6 _ _ (sT _ _ eD)
          refine ⟨_, rfl, .inl ⟨rfl, _, SqL.of eD6⟩, _, rfl, _, rfl, l, _, rfl, .inl ⟨SqL.of el6, fun t nt => ⟨by show 2 ≤ sizeLine; decide, fun T2 nT2 => ?_⟩⟩⟩
          obtain ⟨n2t, nT26⟩ := upd_none nT2
          have hDt : D ≠ t := ne_of_none eD6 nt
          have eD7 := at_ne (o := .tup [.int (i : Nat), .ref t]) (at_ne (o := .tup ((behind c m).map V.int)) eD6 hDt) (ne_of_none eD6 nT26)
          have hvl : vs.length ≤ 1000 := by
            rw [Paired.length pD]
            refine Nat.le_trans (List.length_filterMap_le ..) ?_
            rw [List.length_take]; omega
          refine ⟨D, vs, _, rfl, rfl, eD7, small1000 hvl, ?_⟩
          have k7 : Tk H6 (upd (upd H6 t (.tup ((behind c m).map V.int))) T2 (.tup [.int (i : Nat), .ref t])) := (Tk.new nt).trans (Tk.new nT2)
          have k8 := Tk.mutL (o := .lst (vs ++ [.ref T2])) eD7
          have k1 : Tk H1 H6 := Tk.same (sT.trans s6)
          refine ⟨vs ++ [.ref T2], _, _, _, _, rfl, same_put (((s3.trans s6).trans (same_new nt)).trans (same_new nT2)) nD, upd_same, ?_⟩
          rw [etk, List.filterMap_append]
          have ef : [p].filterMap (fun p => if mayBe c p.2 = true then some (p.1, behind c p.2) else none) = [(p.1, behind c m)] := by
            rw [List.filterMap_cons, hm, if_pos hmb]; rfl
          rw [ef]
          refine (prs_tk ((k1.trans k7).trans k8) pD).snoc ⟨T2, .ref t, rfl, ?_, t, rfl, ?_⟩
          · rw [q1]; exact k8 _ _ upd_same
          · exact k8 _ _ (at_ne upd_same (Ne.symm n2t))
      · have hmb : ¬ mayBe c m = true := fun h => z (decide_eq_true (hmin.mpr h))
        refine ⟨vs, _, _, _, _, rfl, s3.trans s5, s5 _ _ (sT _ _ eD), ?_⟩
        rw [etk, List.filterMap_append]
        have ef : [p].filterMap (fun p => if mayBe c p.2 = true then some (p.1, behind c p.2) else none) = [] := by
          rw [List.filterMap_cons, hm, if_neg hmb]; rfl
        rw [ef, List.append_nil]
        exact prs_tk (Tk.same (sT.trans s5)) pD
  · rintro σ H1 ⟨vs, y3, y4, y5, y6, rfl, s1, eD, pD⟩
    refine ⟨_, rfl, q H1 D vs s1 nD eD ?_⟩
    rw [List.take_of_length_le (by rw [nums_len]; omega)] at pD
    exact pD
end
end Pb
set_option Elab.async false
set_option linter.all false
set_option maxRecDepth 100000
set_option maxHeartbeats 4000000
namespace Pb
open PySem PySem.Spec PyProof.Rows L2
open C8 (Cal pe_c)
section
variable {P : Program} {w : World} {K : PySem.W.Frag} {mg : Str → Option Value} {base : Heap}
/-! ### lists of crowds as data -/
theorem eqvAll_crs : ∀ a b : List Cr, PyData.eqvAll (a.map cd) (b.map cd) = decide (a = b)
  | [], [] => by simp [PyData.eqvAll]
  | [], _ :: _ => by simp [PyData.eqvAll]
  | _ :: _, [] => by simp [PyData.eqvAll]
  | n :: r, k :: q => by
    simp only [List.map_cons, PyData.eqvAll, eqvAll_crs r q, eqv_cd]
    by_cases h : n = k <;> simp [h]
theorem eqv_ld (a b : List Cr) : PyData.eqv (ld a) (ld b) = decide (a = b) := by
  unfold ld
  rw [← eqvAll_crs a b]
  simp only [PyData.eqv]
theorem lay_crs : ∀ a : List Cr, PyData.canLayAll0 (a.map cd) = true
  | [] => by simp [PyData.canLayAll0]
  | c :: a => by
    have h1 := PySem.W.canLayAll0_ints c
    simp only [List.map_cons, PyData.canLayAll0, PyData.canLay0, cd, lay_crs a, h1]
    rfl
theorem shaped_ld (a : List Cr) : SeqAt.shaped (ld a) = true := by
  have h1 := depth_crs a
  have h2 : PyData.depth (.list (a.map cd)) ≤ 64 := by simp only [PyData.depth]; omega
  show (PyData.canLay0 (.list (a.map cd)) && decide (PyData.depth (.list (a.map cd)) ≤ 64)) = true
  rw [Bool.and_eq_true]
  exact ⟨by simp only [PyData.canLay0]; exact lay_crs a, decide_eq_true h2⟩
theorem dp_ld {H : Hp} {a : Addr} {vs : List V} {cs : List Cr} (e : H a = some (.lst vs)) (p : Paired (CrAt H) vs cs) : Dp K H (.ref a) (ld cs) := .lst (SqL.of e) (dpAll_crs p)
/-! ### _law_all -/
structure Dfa (S : Cr → List (Int × Cr)) (c0 : Cr) (L St : List Cr) : Prop where
  nd : L.Nodup
  re : ∀ c ∈ L, Reach S c0 c
  rs : ∀ c ∈ St, Reach S c0 c
  cl : ∀ c ∈ L, ∀ p ∈ S c, p.2 ∈ L ∨ p.2 ∈ St
  c0 : c0 ∈ L ∨ c0 ∈ St
theorem Dfa.start (S : Cr → List (Int × Cr)) (c0 : Cr) : Dfa S c0 [] [c0] := ⟨List.nodup_nil, (fun c h => nomatch h), (fun c h => by rw [List.mem_singleton.mp h]; exact .refl _), (fun c h => nomatch h), .inr (List.mem_singleton.mpr rfl)⟩
theorem Dfa.old {S : Cr → List (Int × Cr)} {c0 c : Cr} {L St : List Cr} (d : Dfa S c0 L (St ++ [c])) (h : c ∈ L) : Dfa S c0 L St := by
  have hm : ∀ x, x ∈ L ∨ x ∈ St ++ [c] → x ∈ L ∨ x ∈ St := fun x hx => by
    rcases hx with hx | hx
    · exact .inl hx
    · rcases List.mem_append.mp hx with hx | hx
      · exact .inr hx
      · rw [List.mem_singleton.mp hx]; exact .inl h
  exact ⟨d.nd, d.re, fun x hx => d.rs x (List.mem_append_left _ hx), fun x hx p hp => hm _ (d.cl x hx p hp), hm _ d.c0⟩
theorem Dfa.new {S : Cr → List (Int × Cr)} {c0 c : Cr} {L St : List Cr} (d : Dfa S c0 L (St ++ [c])) (h : c ∉ L) : Dfa S c0 (L ++ [c]) (St ++ (S c).map (·.2)) := by
  have hc : Reach S c0 c := d.rs c (List.mem_append_right _ (List.mem_singleton.mpr rfl))
  have hm : ∀ x, x ∈ L ∨ x ∈ St ++ [c] → x ∈ L ++ [c] ∨ x ∈ St ++ (S c).map (·.2) := fun x hx => by
    rcases hx with hx | hx
    · exact .inl (List.mem_append_left _ hx)
    · rcases List.mem_append.mp hx with hx | hx
      · exact .inr (List.mem_append_left _ hx)
      · exact .inl (List.mem_append_right _ hx)
  refine ⟨List.nodup_append.mpr ⟨d.nd, nd1 _, fun x hx y hy e => h (by rw [List.mem_singleton.mp hy] at e; exact e ▸ hx)⟩, fun x hx => ?_, fun x hx => ?_, fun x hx p hp => ?_, hm _ d.c0⟩
  · rcases List.mem_append.mp hx with hx | hx
    · exact d.re x hx
    · rw [List.mem_singleton.mp hx]; exact hc
  · rcases List.mem_append.mp hx with hx | hx
    · exact d.rs x (List.mem_append_left _ hx)
    · obtain ⟨p, hp, rfl⟩ := List.mem_map.mp hx
      exact hc.tail ⟨p.1, hp⟩
  · rcases List.mem_append.mp hx with hx | hx
    · exact hm _ (d.cl x hx p hp)
    · rw [List.mem_singleton.mp hx] at hp
      exact .inr (List.mem_append_right _ (List.mem_map.mpr ⟨p, hp, rfl⟩))
theorem Dfa.done {S : Cr → List (Int × Cr)} {c0 : Cr} {L : List Cr} (d : Dfa S c0 L []) : ∀ c, c ∈ L ↔ Reach S c0 c := fun c => by
  have h0 : c0 ∈ L := by
    rcases d.c0 with h | h
    · exact h
    · exact nomatch h
  exact ⟨d.re c, fun h => h.closed (P := fun c => c ∈ L) (fun x y hx ⟨n, hy⟩ => (d.cl x hx (n, y) hy).elim id (fun z => nomatch z)) h0⟩
theorem sc_law_all : FnScope ["_law_rule_here", "_law_crowd", "_law_found", "_law_line", "_law_here", "_law_number", "_law_later"] ["_law_rule_here", "_law_crowd"] (defScope s_law_all) := ⟨rfl, rfl, rfl, by decide +kernel, rfl, by decide +kernel, by decide +kernel⟩
def spAll : Sp := fun vs H Q _ => ∃ (r : Rl) (u v : V) (c : Cr) (h : Nat), vs = [u, v] ∧ RlAt H u r ∧ RlOk r ∧ CrAt H v c ∧ CrOk r h c ∧ h ≤ 4 ∧
  ∀ H' g L, Same H H' → H g = none → GrD H' g (succ r) L → L.Nodup → (∀ c', c' ∈ L ↔ Reach (succ r) c c') → L.length ≤ 70 → Q (.ref g) H'
theorem ok_law_all (T : Tx mg) (D : DefAt K mg "_law_all" s_law_all []) (C1 : Cal P w K mg base 1 "_law_steps" spSteps []) : Cal P w K mg base 2 "_law_all" spAll [] := by
  refine cal0 D sc_law_all (fun _ _ _ _ _ _ us hl => match us, hl with | [_, _], _ => rfl) (fun vs H Q E ⟨_, _, _, _, _, e, _⟩ => by rw [e]; rfl) fun f cdv A outer s H0 vs Q E hr hsp => ?_
  obtain ⟨r, u, v, c0, h, rfl, hR, ho, ⟨a0, rfl, ha0⟩, hc, h4, q⟩ := hsp
  have hu := hu_of hr
  have hu64 := hu64_of hr
  refine ⟨_, (pss_cons (ps_set (i := 2) sc_law_all.nd rfl (.inl rfl) pe_dnewT)
    (pss_cons (ps_set (i := 3) sc_law_all.nd rfl (.inl rfl) (pe_lst (pa_cons (pv 1) pa_nil)))
    (pss_cons (ps_while PassesOwn.never (pt_cmpR (op_neD hu64) (pv 3) (pe_lst pa_nil) (nomark _))
      (pss_cons (ps_set (i := 4) sc_law_all.nd rfl (.inl rfl) (pe_bm0 PySem.F.plainAttrs_list PySem.F.slot_list_pop PySem.F.type_list_pop mt_pop (pv 3)))
      (pss_one (ps_if (pt_cmp (pc_dnotin hu (pv 4) (pv 2)))
        (pss_cons (ps_dput hu (pv 2) (pv 4) (pe_c C1 hr (by omega) rfl (pa_cons (pv 0) (pa_cons (pv 4) pa_nil))) rfl)
        (pss_one (ps_expr (pe_bm PySem.F.plainAttrs_list PySem.F.slot_list_extend PySem.F.type_list_extend mt_extend (pv 3) (pa_cons (pe_lc (own := [("_law_number", 5), ("_law_later", 6)]) (g := (gTup K 2 (gCons (gName 5) (gCons (gName 6) gNil)))) (tt := tYes) (te := (tVar 6)) rfl sc_law_all.nd (pi_list (pe_dget hu (pv 2) (pv 4) (fun _ _ => rfl))) (blkOk_by (N := ["_law_rule_here", "_law_crowd", "_law_found", "_law_line", "_law_here", "_law_number", "_law_later"]) (sc := defScope s_law_all) (by decide +kernel)) (fun _ _ _ _ _ => (pg_tup rfl (pgs_cons (pg_name (i := 5) sc_law_all.nd rfl (.inl rfl)) (pgs_cons (pg_name (i := 6) sc_law_all.nd rfl (.inl rfl)) pgs_nil)))) (fun _ _ _ _ _ => pts_nil) (fun _ _ _ _ _ => (pv 6))) pa_nil))))) pss_nil))))
    (pss_one (ps_ret (pv 2)))))), ?_⟩
  refine fun g ng => ⟨_, rfl, (by show 1 ≤ sizeLine; decide), fun ln nln => ?_⟩
  obtain ⟨nlg, nln0⟩ := upd_none nln
  obtain ⟨H1, hH1⟩ : ∃ x, x = upd (upd H0 g (.dT [])) ln (.lst [.ref a0]) := ⟨_, rfl⟩
  rw [← hH1]
  have s1 : Same H0 H1 := by rw [hH1]; exact same_put (same_new ng) nln0
  have eg1 : H1 g = some (.dT []) := by rw [hH1]; exact at_ne upd_same (Ne.symm nlg)
  have el1 : H1 ln = some (.lst [.ref a0]) := by rw [hH1]; exact upd_same
  clear hH1 nln
  have hLl : ∀ {L St : List Cr}, Dfa (succ r) c0 L St → L.length ≤ 70 := fun d => few ho h4 d.nd fun c hc' => reach_ok ho hc (d.re c hc')
  refine ⟨fun m σ H => ∃ (L St : List Cr) (vs : List V) (kf : List (List Key × V)) (y4 y5 y6 : Option V), m = 102 * (71 - L.length) + St.length ∧ σ = [some u, some (.ref a0), some (.ref g), some (.ref ln), y4, y5, y6] ∧ Same H0 H ∧
      H g = some (.dT kf) ∧ H ln = some (.lst vs) ∧ Paired (fun kv c => kv.1 = ck c ∧ LsNe H ln kv.2 (succ r c)) kf L ∧ Paired (CrAt H) vs St ∧ Dfa (succ r) c0 L St ∧ St.length + 100 * (71 - L.length) ≤ 7101,
    ⟨_, [], [c0], [.ref a0], [], none, none, none, rfl, rfl, s1, eg1, el1, .nil, .cons ⟨a0, rfl, s1 _ _ ha0⟩ .nil, Dfa.start _ _, by show 1 + 100 * (71 - 0) ≤ 7101; omega⟩, ?_⟩
  rintro m σ H ⟨L, St, vs, kf, y4, y5, y6, rfl, rfl, s2, eg, el, pf, pl, df, hst⟩
  refine ⟨_, rfl, by show 0 ≤ sizeLine; decide, fun pe npe => ?_⟩
  have sE : Same H (upd H pe (.lst [])) := same_new npe
  obtain ⟨HE, hHE⟩ : ∃ x, x = upd H pe (.lst []) := ⟨_, rfl⟩
  rw [← hHE] at sE ⊢
  have eE : HE pe = some (.lst []) := by rw [hHE]; exact upd_same
  have npe0 : H0 pe = none := s2.free npe
  clear hHE
  refine ⟨ld St, ld [], dp_ld (sE _ _ el) (crs_tk (Tk.same sE) pl), dp_ld eE .nil, shaped_ld _, shaped_ld _, _, rfl, ?_⟩
  rw [eqv_ld]
  have s2E := s2.trans sE
  have el := sE _ _ el
  have eg := sE _ _ eg
  have pl := crs_tk (Tk.same sE) pl
  have pf : Paired (fun (kv : List Key × V) c => kv.1 = ck c ∧ LsNe HE ln kv.2 (succ r c)) kf L := pf.mono fun kv c ⟨h1, l, vs, h2, h3, h4, h5⟩ => ⟨h1, l, vs, h2, h3, sE _ _ h4, prs_tk (Tk.same sE) h5⟩
  rcases List.eq_nil_or_concat St with rfl | ⟨St0, c, rfl⟩
  · refine ite2 (fun z => by simp at z) (fun _ => ?_)
    exact ⟨_, rfl, q HE g L s2E ng ⟨kf, eg, pf.mono fun kv c ⟨h1, l, vs, h2, h3, h4, h5⟩ => ⟨h1, l, vs, h2, h4, h5⟩⟩ df.nd df.done (hLl df)⟩
  · rw [List.concat_eq_append] at *
    refine ite2 (fun _ => ?_) (fun z => absurd (by simp) z)
    obtain ⟨vs0, _, rfl, pl0, a, rfl, ha⟩ := paired_last pl
    refine ⟨fun σ' H' => ∃ m', m' < 102 * (71 - L.length) + (St0 ++ [c]).length ∧ ∃ (L St : List Cr) (vs : List V) (kf : List (List Key × V)) (y4 y5 y6 : Option V), m' = 102 * (71 - L.length) + St.length ∧ σ' = [some u, some (.ref a0), some (.ref g), some (.ref ln), y4, y5, y6] ∧ Same H0 H' ∧
      H' g = some (.dT kf) ∧ H' ln = some (.lst vs) ∧ Paired (fun kv c => kv.1 = ck c ∧ LsNe H' ln kv.2 (succ r c)) kf L ∧ Paired (CrAt H') vs St ∧ Dfa (succ r) c0 L St ∧ St.length + 100 * (71 - L.length) ≤ 7101, fun σ' H' ⟨m', h1, h2⟩ => ⟨m', h1, h2⟩, ?_⟩
    -- here = line.pop()
    refine ⟨_, rfl, .inl ⟨rfl, _, SqL.of el⟩, ln, _, .ref a, rfl, rfl, el, by rw [List.length_append]; show (_ ++ [V.ref a])[_ + 1 - 1]? = _; rw [Nat.add_sub_cancel, List.getElem?_append_right (Nat.le_refl _), Nat.sub_self]; rfl, ?_⟩
    rw [List.dropLast_concat]
    have k3 := Tk.mutL (o := .lst vs0) el
    have s3 : Same H0 (upd HE ln (.lst vs0)) := same_put s2E nln0
    have eg3 := at_ne (o := .lst vs0) eg (Ne.symm nlg)
    have el3 : upd HE ln (.lst vs0) ln = some (.lst vs0) := upd_same
    have pf3 : Paired (fun (kv : List Key × V) c => kv.1 = ck c ∧ LsNe (upd HE ln (.lst vs0)) ln kv.2 (succ r c)) kf L := pf.mono fun kv c ⟨h1, l, vs, h2, h3, h4, h5⟩ => ⟨h1, l, vs, h2, h3, at_ne h4 h3, prs_tk k3 h5⟩
    have pl3 := crs_tk k3 pl0
    have ha3 := k3 _ _ ha
    generalize upd HE ln (.lst vs0) = H3 at *
    rw [List.length_append] at hst
    have hc1 : ([c] : List Cr).length = 1 := rfl
    have hLL := hLl df
    have hmem := dk_isSome (F := fun v c => LsNe H3 ln v (succ r c)) pf3 c
    refine ⟨_, rfl, _, rfl, g, _, rfl, dget_at (.inl eg3) ha3, _, rfl, ?_⟩
    rw [hmem]
    by_cases hin : c ∈ L
    · rw [decide_eq_true hin]
      refine iteF ⟨_, ?_, L, St0, vs0, kf, _, _, _, rfl, rfl, s3, eg3, el3, pf3, pl3, df.old hin, by omega⟩
      rw [List.length_append]; omega
    · rw [decide_eq_false hin]
      have hcr : Reach (succ r) c0 c := df.rs c (List.mem_append_right _ (List.mem_singleton.mpr rfl))
      have hco := reach_ok ho hc hcr
      -- found[here] = steps
      refine iteT ⟨_, rfl, _, rfl, r, u, .ref a, c, h, rfl, hR.tk (Tk.same s3), ho, ⟨a, rfl, ha3⟩, hco, fun H4 D ws s4 nD eD pD => ?_⟩
      have s04 := s3.trans s4
      have eg4 := s4 _ _ eg3
      have el4 := s4 _ _ el3
      have ha4 := s4 _ _ ha3
      have hDl : D ≠ ln := (ne_of_none el3 nD).symm
      have hDg : D ≠ g := (ne_of_none eg3 nD).symm
      have pf4 : Paired (fun (kv : List Key × V) c => kv.1 = ck c ∧ LsNe H4 ln kv.2 (succ r c)) kf L := pf3.mono fun kv c ⟨h1, l, vs, h2, h3, h4, h5⟩ => ⟨h1, l, vs, h2, h3, s4 _ _ h4, prs_tk (Tk.same s4) h5⟩
      have pf5 := dk_put (F := fun v c => LsNe H4 ln v (succ r c)) pf4 hin (v := .ref D) ⟨D, ws, rfl, hDl, eD, pD⟩
      refine ⟨_, rfl, _, rfl, g, _, rfl, DPut.t (k := ck c) eg4 (by rw [ck_kV]; exact ha4) (small1000 (by rw [Paired.length pf4]; omega)), ?_⟩
      obtain ⟨H5, hH5⟩ : ∃ x, x = upd H4 g (.dT (putK kf (ck c) (.ref D))) := ⟨_, rfl⟩
      rw [← hH5]
      have b5 : But g H4 H5 := by rw [hH5]; exact but_upd
      have eg5 : H5 g = some (.dT (putK kf (ck c) (.ref D))) := by rw [hH5]; exact upd_same
      have s05 : Same H0 H5 := by rw [hH5]; exact same_put s04 ng
      clear hH5
      have k5 : Tk H4 H5 := Tk.butD eg4 b5
      have el5 := b5 _ _ nlg el4
      have eD5 := b5 _ _ hDg eD
      have hDv : valV (putK kf (ck c) (.ref D)) (ck c) = some (.ref D) := by rw [valV_put, if_pos rfl]
      have pf6 : Paired (fun (kv : List Key × V) c => kv.1 = ck c ∧ LsNe H5 ln kv.2 (succ r c)) (putK kf (ck c) (.ref D)) (L ++ [c]) := pf5.mono fun kv c ⟨h1, l, vs, h2, h3, h4, h5⟩ => ⟨h1, l, vs, h2, h3, b5 _ _ (ne_of h4 eg4 (by intro z; cases z)) h4, prs_tk k5 h5⟩
      have pw := prs_tk k5 pD
      have hwl := Paired.length pw
      have hsl := succ_len ho c
      -- line.extend([later ..])
      refine ⟨_, rfl, .inl ⟨rfl, _, SqL.of el5⟩, _, rfl, _, rfl, g, .ref D, rfl, by rw [← hDv]; exact dget_at (.inl eg5) (k5 _ _ ha4), D, rfl, ⟨_, SqL.of eD5⟩, fun E nE => ?_⟩
      refine lc_same (walk_list (K := K) (a := D) (xs := ws)) (succ r c) (fun p => some p.2) CrAt hwl (by rw [hwl]; exact big _ (by omega)) nE (fun H1 s => SqL.of (s _ _ eD5)) (fun H1 H2 y b acc _ e k h => h.tk (Tk.butL e k)) ?_ (fun H6 acc s6 e6 p6 => ?_)
      · intro i p x H6 H7 Kt Kf kt kf hp s6 _ hy
        obtain ⟨rfl, hx⟩ := hy
        obtain ⟨x', hx', ta, tu, rfl, hta, htu⟩ := Paired.getR pw hp
        obtain rfl : x = .ref ta := Option.some.inj (hx.symm.trans hx')
        refine ⟨ta, _, rfl, SqT.of (s6 _ _ hta), rfl, _, _, rfl, _, _, rfl, rfl, rfl, iteT (B := Kf H7) ⟨_, rfl, kt _ _ p.2 (Same.refl _) rfl (htu.tk (Tk.same s6))⟩⟩
      · rw [List.filterMap_eq_map'] at p6
        have el6 := s6 _ _ el5
        have hvs0 : vs0.length = St0.length := Paired.length pl3
        have hacc : acc.length = (succ r c).length := by rw [Paired.length p6, List.length_map]
        have hm1 : (succ r c).length ≤ 100 := hsl
        refine ⟨ln, E, vs0, acc, rfl, rfl, el6, e6, Nat.le_of_lt (big _ (by omega)), ?_⟩
        have k7 := Tk.mutL (o := .lst (vs0 ++ acc)) el6
        have k67 := ((k5.trans (Tk.same s6)).trans k7)
        have hLn := hLl (df.new hin)
        rw [List.length_append] at hLn
        refine ⟨_, ?_, L ++ [c], St0 ++ (succ r c).map (·.2), vs0 ++ acc, _, _, _, _, rfl, rfl, same_put (s05.trans s6) nln0, at_ne (s6 _ _ eg5) (Ne.symm nlg), upd_same, ?_, ?_, df.new hin, ?_⟩
        · rw [List.length_append, List.length_append, List.length_append, List.length_map]; omega
        · exact pf6.mono fun kv c ⟨h1, l, vs, h2, h3, h4, h5⟩ => ⟨h1, l, vs, h2, h3, at_ne (s6 _ _ h4) h3, prs_tk ((Tk.same s6).trans k7) h5⟩
        · exact Paired.app (crs_tk ((Tk.same s4).trans k67) pl3) (crs_tk k7 p6)
        · rw [List.length_append, List.length_append, List.length_map]; omega
end
end Pb
set_option Elab.async false
set_option linter.all false
set_option maxRecDepth 100000
set_option maxHeartbeats 4000000
namespace Pb
open PySem PySem.Spec PyProof.Rows L2
open C8 (Cal pe_c)
section
variable {P : Program} {w : World} {K : PySem.W.Frag} {mg : Str → Option Value} {base : Heap}
/-! ### _law_from -/
structure Frm (S : Cr → List (Int × Cr)) (c0 : Cr) (L St : List Cr) : Prop where
  nd : L.Nodup
  re : ∀ c ∈ L, Reach S c0 c
  sb : ∀ c ∈ St, c ∈ L
  cl : ∀ c ∈ L, c ∈ St ∨ ∀ p ∈ S c, p.2 ∈ L
  c0 : c0 ∈ L
theorem Frm.step {S : Cr → List (Int × Cr)} {c0 c : Cr} {L St E : List Cr} (d : Frm S c0 L (St ++ [c])) (h : addNew L (S c) = L ++ E) : Frm S c0 (L ++ E) (St ++ E) := by
  have hcL : c ∈ L := d.sb c (List.mem_append_right _ (List.mem_singleton.mpr rfl))
  refine ⟨by rw [← h]; exact addNew_nodup _ d.nd, fun x hx => ?_, fun x hx => ?_, fun x hx => ?_, List.mem_append_left _ d.c0⟩
  · rw [← h] at hx
    rcases (addNew_mem _).mp hx with hx | ⟨p, h1, rfl⟩
    · exact d.re x hx
    · exact (d.re c hcL).tail ⟨p.1, h1⟩
  · rcases List.mem_append.mp hx with hx | hx
    · exact List.mem_append_left _ (d.sb x (List.mem_append_left _ hx))
    · exact List.mem_append_right _ hx
  · rcases List.mem_append.mp hx with hx | hx
    · rcases d.cl x hx with g | g
      · rcases List.mem_append.mp g with g | g
        · exact .inl (List.mem_append_left _ g)
        · rw [List.mem_singleton.mp g]
          refine .inr fun p hp => ?_
          rw [← h]
          exact (addNew_mem _).mpr (.inr ⟨p, hp, rfl⟩)
      · exact .inr fun p hp => List.mem_append_left _ (g p hp)
    · exact .inl (List.mem_append_right _ hx)
theorem Frm.done {S : Cr → List (Int × Cr)} {c0 : Cr} {L : List Cr} (d : Frm S c0 L []) : ∀ c, c ∈ L ↔ Reach S c0 c := fun c =>
  ⟨d.re c, fun h => h.closed (P := fun c => c ∈ L) (fun x y hx ⟨n, hy⟩ => (d.cl x hx).elim (fun z => nomatch z) (fun g => g (n, y) hy)) d.c0⟩
theorem sc_law_from : FnScope ["_law_found", "_law_crowd", "_law_seen", "_law_line", "_law_here", "_law_number", "_law_later"] ["_law_found", "_law_crowd"] (defScope s_law_from) := ⟨rfl, rfl, rfl, by decide +kernel, rfl, by decide +kernel, by decide +kernel⟩
def spFrom : Sp := fun vs H Q _ => ∃ (S : Cr → List (Int × Cr)) (g : Addr) (v : V) (c0 : Cr) (ks : List Cr), vs = [.ref g, v] ∧ GrAt H g S ks ∧ (∀ c ∈ ks, ∀ p ∈ S c, p.2 ∈ ks) ∧ ks.length ≤ 100 ∧ (∀ c, (S c).length ≤ 100) ∧ CrAt H v c0 ∧ c0 ∈ ks ∧ (∀ c ∈ ks, c ≠ []) ∧
  ∀ H' l ws e, Same H H' → H l = none → H' l = some (.lst ws) → Paired (CrAt H') ws e → e = srtC e → e.Nodup → (∀ y, y ∈ e ↔ Reach S c0 y) → e.length ≤ 100 → Q (.ref l) H'
theorem ok_law_from (T : Tx mg) (D : DefAt K mg "_law_from" s_law_from []) : Cal P w K mg base 1 "_law_from" spFrom [] := by
  refine cal0 D sc_law_from (fun _ _ _ _ _ _ us hl => match us, hl with | [_, _], _ => rfl) (fun vs H Q E ⟨_, _, _, _, _, e, _⟩ => by rw [e]; rfl) fun f cdv A outer s H0 vs Q E hr hsp => ?_
  obtain ⟨S, g, _, c0, ks, rfl, hG, hcl, hkl, hS, ⟨a0, rfl, ha0⟩, hc0, hne, q⟩ := hsp
  have hu := hu_of hr
  have hu64 := hu64_of hr
  refine ⟨_, (pss_cons (ps_set (i := 2) sc_law_from.nd rfl (.inl rfl) (pe_disp1T hu (pv 1) pe_bl))
    (pss_cons (ps_set (i := 3) sc_law_from.nd rfl (.inl rfl) (pe_lst (pa_cons (pv 1) pa_nil)))
    (pss_cons (ps_while PassesOwn.never (pt_cmpR (op_neD hu64) (pv 3) (pe_lst pa_nil) (nomark _))
      (pss_cons (ps_set (i := 4) sc_law_from.nd rfl (.inl rfl) (pe_bm0 PySem.F.plainAttrs_list PySem.F.slot_list_pop PySem.F.type_list_pop mt_pop (pv 3)))
      (pss_one (ps_for PassesOwn.never rfl (pi_list (pe_dget hu (pv 0) (pv 4) (fun _ _ => rfl))) (pg_tup rfl (pgs_cons (pg_name (i := 5) sc_law_from.nd rfl (.inl rfl)) (pgs_cons (pg_name (i := 6) sc_law_from.nd rfl (.inl rfl)) pgs_nil)))
        (pss_one (ps_if (pt_cmp (pc_dnotin hu (pv 6) (pv 2)))
          (pss_cons (ps_dput hu (pv 2) (pv 6) pe_bl rfl)
          (pss_one (ps_expr (pe_bm PySem.F.plainAttrs_list PySem.F.slot_list_append PySem.F.type_list_append mt_append (pv 3) (pa_cons (pv 6) pa_nil))))) pss_nil))))))
    (pss_one (ps_ret (pe_callB (cr_sortKT rfl hu64) (by rfl) T.sorted boot_sorted (pa_cons (pv 2) pa_nil))))))), ?_⟩
  refine fun sn nsn => ⟨_, rfl, upd_same, a0, ck c0, rfl, (by rw [ck_kV]; exact at_ne ha0 (ne_of_none ha0 nsn)), ?_⟩
  rw [upd_upd]
  refine ⟨_, rfl, (by show 1 ≤ sizeLine; decide), fun ln nln => ?_⟩
  obtain ⟨nls, nln0⟩ := upd_none nln
  obtain ⟨H1, hH1⟩ : ∃ x, x = upd (upd H0 sn (.dT [(ck c0, .bl true)])) ln (.lst [.ref a0]) := ⟨_, rfl⟩
  rw [← hH1]
  have s1 : Same H0 H1 := by rw [hH1]; exact same_put (same_new nsn) nln0
  have es1 : H1 sn = some (.dT [(ck c0, .bl true)]) := by rw [hH1]; exact at_ne upd_same (Ne.symm nls)
  have el1 : H1 ln = some (.lst [.ref a0]) := by rw [hH1]; exact upd_same
  clear hH1 nln
  have hin : ∀ {c : Cr}, Reach S c0 c → c ∈ ks := fun h => h.closed (P := fun c => c ∈ ks) (fun x y hx ⟨n, hy⟩ => hcl x hx (n, y) hy) hc0
  have hLl : ∀ {L St : List Cr}, Frm S c0 L St → L.length ≤ 100 := fun d => Nat.le_trans (nodup_len d.nd fun c hc => hin (d.re c hc)) hkl
  refine ⟨fun m σ H => ∃ (L St : List Cr) (vs : List V) (kf : List (List Key × V)) (y4 y5 y6 : Option V), m = 2 * (101 - L.length) + St.length ∧ σ = [some (.ref g), some (.ref a0), some (.ref sn), some (.ref ln), y4, y5, y6] ∧ Same H0 H ∧
      H sn = some (.dT kf) ∧ H ln = some (.lst vs) ∧ Paired (fun (kv : List Key × V) c => kv.1 = ck c ∧ True) kf L ∧ Paired (CrAt H) vs St ∧ Frm S c0 L St ∧ St.length ≤ L.length,
    ⟨_, [c0], [c0], [.ref a0], [(ck c0, .bl true)], none, none, none, rfl, rfl, s1, es1, el1, .cons ⟨rfl, trivial⟩ .nil, .cons ⟨a0, rfl, s1 _ _ ha0⟩ .nil, ⟨nd1 _, fun c h => by rw [List.mem_singleton.mp h]; exact .refl _, fun c h => h, fun c h => .inl h, List.mem_singleton.mpr rfl⟩, Nat.le_refl _⟩, ?_⟩
  rintro m σ H ⟨L, St, vs, kf, y4, y5, y6, rfl, rfl, s2, es, el, pf, pl, df, hst⟩
  refine ⟨_, rfl, by show 0 ≤ sizeLine; decide, fun pe npe => ?_⟩
  have sE : Same H (upd H pe (.lst [])) := same_new npe
  obtain ⟨HE, hHE⟩ : ∃ x, x = upd H pe (.lst []) := ⟨_, rfl⟩
  rw [← hHE] at sE ⊢
  have eE : HE pe = some (.lst []) := by rw [hHE]; exact upd_same
  clear hHE
  refine ⟨ld St, ld [], dp_ld (sE _ _ el) (crs_tk (Tk.same sE) pl), dp_ld eE .nil, shaped_ld _, shaped_ld _, _, rfl, ?_⟩
  rw [eqv_ld]
  have s2E := s2.trans sE
  have el := sE _ _ el
  have es := sE _ _ es
  have pl := crs_tk (Tk.same sE) pl
  have hLL := hLl df
  rcases List.eq_nil_or_concat St with rfl | ⟨St0, c, rfl⟩
  · refine ite2 (fun z => by simp at z) (fun _ => ?_)
    refine ⟨_, rfl, sn, kf, L, rfl, .inl es, keys_ck (F := fun _ _ => True) pf, fun d hd e => hne d (hin (df.re d hd)) e, fun p bs np hb1 hb2 => ?_⟩
    exact q _ p _ (srtC L) (s2E.trans (same_new np)) (s2E.free np) upd_same (crs_tk (Tk.new np) (srt_crs hb1 hb2)) (srtC_eq (srtC_perm L)).symm (srtC_nd df.nd) (fun y => by rw [mem_srtC]; exact df.done y) (by rw [srtC_len]; exact hLL)
  · rw [List.concat_eq_append] at *
    refine ite2 (fun _ => ?_) (fun z => absurd (by simp) z)
    obtain ⟨vs0, _, rfl, pl0, a, rfl, ha⟩ := paired_last pl
    refine ⟨fun σ' H' => ∃ m', m' < 2 * (101 - L.length) + (St0 ++ [c]).length ∧ ∃ (L St : List Cr) (vs : List V) (kf : List (List Key × V)) (y4 y5 y6 : Option V), m' = 2 * (101 - L.length) + St.length ∧ σ' = [some (.ref g), some (.ref a0), some (.ref sn), some (.ref ln), y4, y5, y6] ∧ Same H0 H' ∧
      H' sn = some (.dT kf) ∧ H' ln = some (.lst vs) ∧ Paired (fun (kv : List Key × V) c => kv.1 = ck c ∧ True) kf L ∧ Paired (CrAt H') vs St ∧ Frm S c0 L St ∧ St.length ≤ L.length, fun σ' H' ⟨m', h1, h2⟩ => ⟨m', h1, h2⟩, ?_⟩
    refine ⟨_, rfl, .inl ⟨rfl, _, SqL.of el⟩, ln, _, .ref a, rfl, rfl, el, by rw [List.length_append]; show (_ ++ [V.ref a])[_ + 1 - 1]? = _; rw [Nat.add_sub_cancel, List.getElem?_append_right (Nat.le_refl _), Nat.sub_self]; rfl, ?_⟩
    rw [List.dropLast_concat]
    have k3 := Tk.mutL (o := .lst vs0) el
    have s3 : Same H0 (upd HE ln (.lst vs0)) := same_put s2E nln0
    have es3 := at_ne (o := .lst vs0) es (Ne.symm nls)
    have el3 : upd HE ln (.lst vs0) ln = some (.lst vs0) := upd_same
    have pl3 := crs_tk k3 pl0
    have ha3 := k3 _ _ ha
    generalize upd HE ln (.lst vs0) = H3 at *
    have hc1 : ([c] : List Cr).length = 1 := rfl
    have hcr : Reach S c0 c := df.re c (df.sb c (List.mem_append_right _ (List.mem_singleton.mpr rfl)))
    obtain ⟨kvs, rG, pG⟩ := id hG
    obtain ⟨vg, hvg, lg, ws, rfl, elg, pw⟩ := dk_some (F := fun v c => LsAt H0 v (S c)) pG (hin hcr)
    have pw3 : Paired (PrAt H3) ws (S c) := prs_tk (Tk.same s3) pw
    refine ⟨_, rfl, _, rfl, g, .ref lg, rfl, by rw [← hvg]; exact dget_at (rd_same s3 rG) ha3, lg, rfl, ⟨_, SqL.of (s3 _ _ elg)⟩, ?_⟩
    refine for_it (walk_list (K := K) (a := lg) (xs := ws)) (fun i σ H' => ∃ (E : List Cr) (vs : List V) (kf : List (List Key × V)) (y5 y6 : Option V), σ = [some (.ref g), some (.ref a0), some (.ref sn), some (.ref ln), some (.ref a), y5, y6] ∧ Same H0 H' ∧ Tk H3 H' ∧
        H' sn = some (.dT kf) ∧ H' ln = some (.lst vs) ∧ addNew L ((S c).take i) = L ++ E ∧ Paired (fun (kv : List Key × V) c => kv.1 = ck c ∧ True) kf (L ++ E) ∧ Paired (CrAt H') vs (St0 ++ E))
      ⟨[], vs0, kf, y5, y6, rfl, s3, Tk.refl _, es3, el3, by rw [List.take_zero, List.append_nil]; rfl, by rw [List.append_nil]; exact pf, by rw [List.append_nil]; exact pl3⟩ (fun i σ H' _ ⟨_, _, _, _, _, _, h, _⟩ => SqL.of (h _ _ elg)) ?_ ?_
    · rintro i x σ H5 H6 hi ⟨E, vs, kf, y5, y6, rfl, s5, k5, es5, el5, hE, pf5, pl5⟩ ⟨rfl, hx⟩
      obtain ⟨p, hp, ta, tu, rfl, hta, b6, rfl, hb6⟩ := paired_get pw3 hx
      have hta := k5 _ _ hta
      have hb6 := k5 _ _ hb6
      have et : (S c).take (i + 1) = (S c).take i ++ [p] := by rw [List.take_add_one, hp]; rfl
      have hlen : (L ++ E).length ≤ 100 := by
        rw [← hE]
        refine Nat.le_trans (nodup_len (addNew_nodup _ df.nd) fun d hd => ?_) hkl
        rcases (addNew_mem _).mp hd with hd | ⟨p, h1, rfl⟩
        · exact hin (df.re d hd)
        · exact hcl c (hin hcr) p (List.mem_of_mem_take h1)
      have hlen2 := hlen
      rw [List.length_append] at hlen2
      refine ⟨ta, _, rfl, SqT.of hta, rfl, _, _, rfl, _, _, rfl, rfl, ?_⟩
      have hmem := dk_isSome (F := fun _ _ => True) pf5 p.2
      refine ⟨_, rfl, _, rfl, sn, _, rfl, dget_at (.inl es5) hb6, _, rfl, ?_⟩
      rw [hmem]
      by_cases hin5 : p.2 ∈ L ++ E
      · rw [decide_eq_true hin5]
        exact iteF ⟨E, vs, kf, _, _, rfl, s5, k5, es5, el5, by rw [et, addNew_snoc, hE, if_pos hin5], pf5, pl5⟩
      · rw [decide_eq_false hin5]
        refine iteT ⟨_, rfl, _, rfl, sn, _, rfl, DPut.t (k := ck p.2) es5 (by rw [ck_kV]; exact hb6) (small1000 (by rw [Paired.length pf5]; omega)), ?_⟩
        have el6 := at_ne (o := .dT (putK kf (ck p.2) (.bl true))) el5 nls
        have hvl := Paired.length pl5
        rw [List.length_append] at hvl
        rw [List.length_append] at hst
        refine ⟨_, rfl, .inl ⟨rfl, _, SqL.of el6⟩, _, rfl, ln, vs, _, rfl, rfl, el6, small1000 (by omega), ?_⟩
        have k6 := (Tk.mutD (o := .dT (putK kf (ck p.2) (.bl true))) es5).trans (Tk.mutL (o := .lst (vs ++ [.ref b6])) el6)
        refine ⟨E ++ [p.2], vs ++ [.ref b6], _, _, _, rfl, same_put (same_put s5 nsn) nln0, k5.trans k6, at_ne upd_same (Ne.symm nls), upd_same, by rw [et, addNew_snoc, hE, if_neg hin5, List.append_assoc], ?_, ?_⟩
        · rw [← List.append_assoc]
          exact dk_put (F := fun _ _ => True) pf5 hin5 trivial
        · rw [← List.append_assoc]
          exact (crs_tk k6 pl5).snoc ⟨b6, rfl, k6 _ _ hb6⟩
    · rintro σ H5 ⟨E, vs, kf, y5, y6, rfl, s5, k5, es5, el5, hE, pf5, pl5⟩
      rw [Paired.length pw3, List.take_length] at hE
      have hn := df.step hE
      have hl := hLl hn
      rw [List.length_append] at hl hst
      refine ⟨_, ?_, L ++ E, St0 ++ E, vs, kf, _, _, _, rfl, rfl, s5, es5, el5, pf5, pl5, hn, by rw [List.length_append, List.length_append]; omega⟩
      rw [List.length_append, List.length_append, List.length_append]
      omega
end
end Pb
set_option Elab.async false
set_option linter.all false
set_option maxRecDepth 100000
set_option maxHeartbeats 4000000
namespace Pb
open PySem PySem.Spec PyProof.Rows L2
open C8 (Cal pe_c)
section
variable {P : Program} {w : World} {K : PySem.W.Frag} {mg : Str → Option Value} {base : Heap}
theorem dict_pairs {F : V → Cr → Prop} {H : Hp} {D : Addr} {acc : List V} {cs : List Cr} {Q : V → Hp → Prop} (hD : H D = some (.lst acc)) (hp : Paired (fun y c => ∃ t b v, y = V.ref t ∧ H t = some (.tup [.ref b, v]) ∧ H b = some (.tup (c.map V.int)) ∧ F v c) acc cs) (hn : cs.Nodup)
    (q : ∀ p kvs, H p = none → Paired (fun (kv : List Key × V) c => kv.1 = ck c ∧ F kv.2 c) kvs cs → Q (.ref p) (upd H p (.dT kvs))) : rDictPT K [.ref D] H Q := by
  have aux : ∀ {acc : List V} {cs : List Cr}, Paired (fun y c => ∃ t b v, y = V.ref t ∧ H t = some (.tup [.ref b, v]) ∧ H b = some (.tup (c.map V.int)) ∧ F v c) acc cs → ∃ (ps : List Addr) (kvs : List (List Key × V)), ps.map V.ref = acc ∧ Paired (fun p (kv : List Key × V) => ∃ b, SqT K H p [.ref b, kv.2] ∧ H b = some (.tup (kv.1.map kV))) ps kvs ∧ Paired (fun (kv : List Key × V) c => kv.1 = ck c ∧ F kv.2 c) kvs cs := by
    intro acc cs h
    induction h with
    | nil => exact ⟨[], [], rfl, .nil, .nil⟩
    | @cons y c acc cs h _ ih =>
      obtain ⟨t, b, v, rfl, h1, h2, h3⟩ := h
      obtain ⟨ps, kvs, e, p, p2⟩ := ih
      exact ⟨t :: ps, (ck c, v) :: kvs, by rw [List.map_cons, e], .cons ⟨b, SqT.of h1, by rw [ck_kV]; exact h2⟩ p, .cons ⟨rfl, h3⟩ p2⟩
  obtain ⟨ps, kvs, e, p, p2⟩ := aux hp
  refine ⟨D, ps, kvs, rfl, by rw [e]; exact SqL.of hD, p, fun a na => ?_⟩
  have hm : mergeT [] kvs = kvs := by
    refine merge_nodup (kvs := []) ?_
    rw [List.nil_append, keys_ck p2]
    exact List.Pairwise.map ck (fun a b h e => h (ck_inj e)) hn
  rw [hm]
  exact q a kvs na p2
/-! ### _law_ends -/
open Classical in
noncomputable def rL (S : Cr → List (Int × Cr)) (L : List Cr) (c : Cr) : List Cr := srtC (L.filter fun y => decide (Reach S c y))
section
variable {S : Cr → List (Int × Cr)} {L : List Cr} {c0 : Cr} (hn : L.Nodup) (hm : ∀ c, c ∈ L ↔ Reach S c0 c)
include hm
open Classical in
theorem rL_mem {c : Cr} (hc : c ∈ L) (y : Cr) : y ∈ rL S L c ↔ Reach S c y := by
  unfold rL
  rw [mem_srtC, List.mem_filter, decide_eq_true_iff]
  exact ⟨fun h => h.2, fun h => ⟨(hm y).mpr (((hm c).mp hc).trans h), h⟩⟩
omit hm in
include hn in
theorem rL_nd (c : Cr) : (rL S L c).Nodup := srtC_nd (hn.filter _)
omit hm in
theorem rL_so (c : Cr) : rL S L c = srtC (rL S L c) := (srtC_eq (srtC_perm _)).symm
include hn in
theorem rL_eq {c : Cr} (hc : c ∈ L) {e : List Cr} (h1 : e = srtC e) (h2 : e.Nodup) (h3 : ∀ y, y ∈ e ↔ Reach S c y) : e = rL S L c := by
  have hp : e.Perm (rL S L c) := (List.perm_ext_iff_of_nodup h2 (rL_nd hn c)).mpr fun y => by rw [h3 y, rL_mem hm hc]
  rw [h1, rL_so c]
  exact srtC_eq hp
include hn in
theorem isEnd_rL (e : List Cr) : IsEnd S c0 e ↔ ∃ c ∈ L, e = rL S L c ∧ ∀ y ∈ rL S L c, rL S L y = rL S L c := by
  constructor
  · intro h
    obtain ⟨x, h1, h2, h3⟩ := h.x
    have hx : x ∈ L := (hm x).mpr h1
    have he := rL_eq hn hm hx h.so h.nd h3
    refine ⟨x, hx, he, fun y hy => ?_⟩
    rw [← he] at hy ⊢
    have hyL : y ∈ L := (hm y).mpr (h1.trans ((h3 y).mp hy))
    exact (rL_eq hn hm hyL h.so h.nd (h.mem y hy)).symm
  · rintro ⟨c, hc, rfl, h⟩
    refine ⟨rL_nd hn c, rL_so c, c, (hm c).mp hc, fun y hy => ?_, rL_mem hm hc⟩
    have hy' := (rL_mem hm hc y).mpr hy
    have hyL : y ∈ L := (hm y).mpr (((hm c).mp hc).trans hy)
    have e := h y hy'
    have : c ∈ rL S L y := by rw [e]; exact (rL_mem hm hc c).mpr (.refl _)
    exact (rL_mem hm hyL c).mp this
end
theorem eqvAny_ld (es : List (List Cr)) (e : List Cr) : ((es.map ld).any fun z => PyData.eqv z (ld e)) = decide (e ∈ es) := by
  induction es with
  | nil => simp
  | cons x es ih =>
    rw [List.map_cons, List.any_cons, ih, eqv_ld]
    by_cases h : x = e
    · subst h; simp
    · have : ¬ e = x := fun z => h z.symm
      simp [h, this]
theorem lay_lds : ∀ a : List (List Cr), PyData.canLayAll0 (a.map ld) = true
  | [] => by simp [PyData.canLayAll0]
  | c :: a => by
    have h1 := lay_crs c
    simp only [List.map_cons, PyData.canLayAll0, PyData.canLay0, ld, lay_lds a, h1]
    rfl
theorem depth_lds : ∀ a : List (List Cr), PyData.depthAll (a.map ld) ≤ 2
  | [] => by simp [PyData.depthAll]
  | x :: a => by
    have := depth_lds a
    have h1 := depth_crs x
    simp only [List.map_cons, PyData.depthAll, PyData.depth, ld] at *
    omega
theorem shaped_lds (a : List (List Cr)) : SeqAt.shaped (.list (a.map ld)) = true := by
  have h1 := depth_lds a
  have h2 : PyData.depth (.list (a.map ld)) ≤ 64 := by simp only [PyData.depth]; omega
  show (PyData.canLay0 (.list (a.map ld)) && decide (PyData.depth (.list (a.map ld)) ≤ 64)) = true
  rw [Bool.and_eq_true]
  exact ⟨by simp only [PyData.canLay0]; exact lay_lds a, decide_eq_true h2⟩
theorem dpAll_lds {H : Hp} : ∀ {vs : List V} {es : List (List Cr)}, Paired (LcAt H) vs es → DpAll K H vs (es.map ld)
  | _, _, .nil => .nil
  | _, _, .cons ⟨l, ws, h1, h2, h3⟩ t => by
    rw [List.map_cons, h1]
    exact .cons (dp_ld h2 h3) (dpAll_lds t)
theorem sc_law_ends : FnScope ["_law_rule_here", "_law_crowd", "_law_found", "_law_reach", "_law_ends_here", "_law_here", "_law_one"] ["_law_rule_here", "_law_crowd"] (defScope s_law_ends) := ⟨rfl, rfl, rfl, by decide +kernel, rfl, by decide +kernel, by decide +kernel⟩
def spLawEnds : Sp := fun vs H Q _ => ∃ (r : Rl) (u v : V) (c : Cr) (h : Nat), vs = [u, v] ∧ RlAt H u r ∧ RlOk r ∧ CrAt H v c ∧ CrOk r h c ∧ h ≤ 4 ∧
  ∀ H' l vs es, Same H H' → H l = none → H' l = some (.lst vs) → Paired (LcAt H') vs es → es.Nodup → (∀ e, e ∈ es ↔ IsEnd (succ r) c e) → es.length ≤ 100 → (∃ L : List Cr, L.Nodup ∧ ∀ c', c' ∈ L ↔ Reach (succ r) c c') → Q (.ref l) H'
/-- a crowd's reach in the heap -/
def RvAt (S : Cr → List (Int × Cr)) (L : List Cr) (H : Hp) (v : V) (c : Cr) : Prop := LcAt H v (rL S L c)
theorem ok_law_ends (T : Tx mg) (D : DefAt K mg "_law_ends" s_law_ends []) (C1 : Cal P w K mg base 2 "_law_all" spAll []) (C2 : Cal P w K mg base 1 "_law_from" spFrom []) : Cal P w K mg base 3 "_law_ends" spLawEnds [] := by
  refine cal0 D sc_law_ends (fun _ _ _ _ _ _ us hl => match us, hl with | [_, _], _ => rfl) (fun vs H Q E ⟨_, _, _, _, _, e, _⟩ => by rw [e]; rfl) fun f cdv A outer s H0 vs Q E hr hsp => ?_
  obtain ⟨r, u, v, c0, h, rfl, hR, ho, hv, hc, h4, q⟩ := hsp
  have hu := hu_of hr
  have hu64 := hu64_of hr
  have hu65 := hu65_of hr
  refine ⟨_, (pss_cons (ps_set (i := 2) sc_law_ends.nd rfl (.inr rfl) (pe_c C1 hr (by omega) rfl (pa_cons (pv 0) (pa_cons (pv 1) pa_nil))))
    (pss_cons (ps_set (i := 3) sc_law_ends.nd rfl (.inr rfl) (pe_callTy (call_dictPTn rfl hu64) (by rfl) T.dict boot_dict (pa_cons (pe_lock (pe_lc (own := [("_law_here", 5)]) (g := (gName 5)) (tt := tYes) (te := (tTup (tCons (tVar 5) (tCons (tCall spFrom [] E0 (tCons (tVar 2) (tCons (tVar 5) tNil))) tNil)))) rfl sc_law_ends.nd (pi_keys (pv 2)) (blkOk_by (N := ["_law_rule_here", "_law_crowd", "_law_found", "_law_reach", "_law_ends_here", "_law_here", "_law_one"]) (sc := defScope s_law_ends) (by decide +kernel)) (fun _ _ _ _ _ => (pg_name (i := 5) sc_law_ends.nd rfl (.inl rfl))) (fun _ _ _ _ _ => pts_nil) (fun _ _ _ _ _ => (pe_tup (pa_cons (pv 5) (pa_cons (pe_c C2 hr (by omega) rfl (pa_cons (pv 2) (pa_cons (pv 5) pa_nil))) pa_nil)))))) pa_nil)))
    (pss_cons (ps_set (i := 4) sc_law_ends.nd rfl (.inl rfl) (pe_lst pa_nil))
    (pss_cons (ps_lock (ps_for PassesOwn.never rfl (pi_keys (pv 2)) (pg_name (i := 5) sc_law_ends.nd rfl (.inr rfl))
      (pss_one (ps_if (PW.pt (pw_and (pt_cmpR (op_notInD hu65) (pe_dget hu (pv 3) (pv 5) (fun _ _ => rfl)) (pv 4) (by rfl)) (pw_and1 (pt_cmpR op_notIn_seq pe_bl (pe_lc (own := [("_law_one", 6)]) (g := (gName 6)) (tt := tYes) (te := (tOp (rEqD K) (tDGet (tVar 3) (tVar 6)) (tDGet (tVar 3) (tVar 5)))) rfl sc_law_ends.nd (pi_list (pe_dget hu (pv 3) (pv 5) (fun _ _ => rfl))) (blkOk_by (N := ["_law_rule_here", "_law_crowd", "_law_found", "_law_reach", "_law_ends_here", "_law_here", "_law_one"]) (sc := defScope s_law_ends) (by decide +kernel)) (fun _ _ _ _ _ => (pg_name (i := 6) sc_law_ends.nd rfl (.inl rfl))) (fun _ _ _ _ _ => pts_nil) (fun _ _ _ _ _ => (pe_cmpR (op_eqD hu64) (pe_dget hu (pv 3) (pv 6) (fun _ _ => rfl)) (pe_dget hu (pv 3) (pv 5) (fun _ _ => rfl)) (nomark _)))) (by rfl)))))
        (pss_one (ps_expr (pe_bm PySem.F.plainAttrs_list PySem.F.slot_list_append PySem.F.type_list_append mt_append (pv 4) (pa_cons (pe_dget hu (pv 3) (pv 5) (fun _ _ => rfl)) pa_nil)))) pss_nil))))
    (pss_one (ps_ret (pe_callB (cr_sortDt hu64) (by rfl) T.sorted boot_sorted (pa_cons (pv 4) pa_nil)))))))), ?_⟩
  refine ⟨_, rfl, _, rfl, r, u, v, c0, h, rfl, hR, ho, hv, hc, h4, fun H1 g L s1 n1 hg hn hm hLl => ?_⟩
  obtain ⟨kvs, eg, pg⟩ := id hg
  have hk := keys_ck (F := fun v c => LsAt H1 v (succ r c)) pg
  have hcl : ∀ c ∈ L, ∀ p ∈ succ r c, p.2 ∈ L := fun c hc p hp => (hm p.2).mpr (((hm c).mp hc).tail ⟨p.1, hp⟩)
  have hLne : ∀ c ∈ L, c ≠ [] := fun x hx e => by
    have o := reach_ok ho hc ((hm x).mp hx)
    rw [e] at o
    have o2 := o.len
    have o3 := ho.r1
    simp at o2
    omega
  refine lcK some (fun D H y c => ∃ t b l, y = V.ref t ∧ H t = some (.tup [.ref b, .ref l]) ∧ H b = some (.tup (c.map V.int)) ∧ l ≠ D ∧ LcAt H (.ref l) (rL (succ r) L c)) (i0 := 2) rfl eg hk (by omega) ?_ ?_ ?_
  · rintro D H2 H3 y c acc e k ⟨t, b, l, rfl, h1, h2, h3, l', ws, h4, h5, h6⟩
    cases h4
    have kk : Tk H2 H3 := Tk.butL e k
    exact ⟨t, b, l, rfl, kk _ _ h1, kk _ _ h2, h3, l, ws, rfl, k _ _ h3 h5, crs_tk kk h6⟩
  · intro od D i c b H2 Kt Kf kt kf hc' hb bu eg2 ⟨acc, hacc⟩ nD
    have hcL := List.mem_of_getElem? hc'
    have hgr : GrAt H2 g (succ r) L := by
      refine ⟨kvs, .inr ⟨od, eg2⟩, pg.mono fun kv c ⟨h1, l, vs, h2, h3, h4⟩ => ⟨h1, l, vs, h2, bu _ _ (ne_of h3 eg (by intro z; cases z)) h3, prs_tk (Tk.butD eg bu) h4⟩⟩
    refine ⟨rfl, iteT (B := Kf H2) ⟨_, rfl, _, rfl, _, rfl, succ r, g, .ref b, c, L, rfl, hgr, hcl, by omega, succ_len ho, ⟨b, rfl, hb⟩, hcL, hLne, fun H3 l ws e s3 nl el pe so nd me le => ?_⟩⟩
    refine ⟨by show 2 ≤ sizeLine; decide, fun t nt => kt _ _ c (s3.trans (same_new nt)) rfl ⟨t, b, l, rfl, upd_same, at_ne (s3 _ _ hb) (ne_of_none (s3 _ _ hb) nt), (ne_of_none hacc nl).symm, l, ws, rfl, at_ne el (ne_of_none el nt), ?_⟩⟩
    rw [← rL_eq hn hm hcL so nd me]
    exact crs_tk (Tk.new nt) pe
  intro H2 H3 D1 acc1 s3 b23 nD1 eD1 p1 eD1' nDg eg3 ⟨od, eg2⟩
  rw [List.filterMap_some] at p1
  have k23 : Tk H2 H3 := fun t xs e => b23 _ _ (ne_of e eg2 (by intro z; cases z)) e
  refine (dict_pairs (K := K) (F := RvAt (succ r) L H3) eD1 (p1.mono fun y c ⟨t, b, l, h1, h2, h3, h4, l', ws, h5, h6, h7⟩ => ⟨t, b, .ref l, h1, k23 _ _ h2, k23 _ _ h3, l', ws, h5, b23 _ _ (ne_of h6 eg2 (by intro z; cases z)) h6, crs_tk k23 h7⟩) hn fun rd krv nrd prd => ?_)
  have s4 := same_new (o := .dT krv) nrd
  obtain ⟨H4, hH4⟩ : ∃ x, x = upd H3 rd (.dT krv) := ⟨_, rfl⟩
  rw [← hH4] at s4 ⊢
  have erd : H4 rd = some (.dT krv) := by rw [hH4]; exact upd_same
  clear hH4
  have s14 := s3.trans s4
  have prd4 : Paired (fun (kv : List Key × V) c => kv.1 = ck c ∧ RvAt (succ r) L H4 kv.2 c) krv L := prd.mono fun kv c h => ⟨h.1, h.2.same s4⟩
  have grd : g ≠ rd := ne_of_none eg3 nrd
  refine ⟨by show 0 ≤ sizeLine; decide, fun en nen => ?_⟩
  have s5 := same_new (o := .lst []) nen
  obtain ⟨H5, hH5⟩ : ∃ x, x = upd H4 en (.lst []) := ⟨_, rfl⟩
  rw [← hH5] at s5 ⊢
  have een : H5 en = some (.lst []) := by rw [hH5]; exact upd_same
  clear hH5
  have eg5 := s5 _ _ (s14 _ _ eg)
  have engg : en ≠ g := (ne_of_none (s14 _ _ eg) nen).symm
  have enrd : en ≠ rd := (ne_of_none erd nen).symm
  have k45 : ∀ {H' : Hp}, (∀ a o, a ≠ g → a ≠ en → H5 a = some o → H' a = some o) → ∀ {v : V} {c : Cr}, RvAt (succ r) L H4 v c → LcNe H' en v (rL (succ r) L c) := fun k v c ⟨l, ws, h1, h2, h3⟩ =>
    ⟨l, ws, h1, ne_of_none h2 nen, k _ _ (ne_of h2 (s14 _ _ eg) (by intro z; cases z)) (ne_of_none h2 nen) (s5 _ _ h2), crs_tk (fun t xs e => k _ _ (ne_of e (s14 _ _ eg) (by intro z; cases z)) (ne_of_none e nen) (s5 _ _ e)) h3⟩
  refine forK (fun od i σ H' => ∃ (es : List (List Cr)) (vs : List V) (y5 y6 : Option V), σ = [some u, some v, some (.ref g), some (.ref rd), some (.ref en), y5, y6] ∧ (∀ a o, a ≠ g → a ≠ en → H5 a = some o → H' a = some o) ∧ H' g = some (.frz od (.dT kvs)) ∧ H' en = some (.lst vs) ∧ Paired (LcNe H' en) vs es ∧
      es.Nodup ∧ (∀ e ∈ es, ∃ c ∈ L, e = rL (succ r) L c ∧ ∀ y ∈ rL (succ r) L c, rL (succ r) L y = rL (succ r) L c) ∧ (∀ c ∈ L.take i, (∀ y ∈ rL (succ r) L c, rL (succ r) L y = rL (succ r) L c) → rL (succ r) L c ∈ es) ∧ es.length ≤ i) (i0 := 2) rfl eg5 hk
    (fun od => ⟨[], [], none, none, rfl, fun a o h1 h2 e => at_ne e h1, upd_same, at_ne een engg, .nil, List.nodup_nil, (fun e h => nomatch h), (fun c h => by simp at h), Nat.le_refl _⟩) (fun od i σ H' _ ⟨_, _, _, _, _, _, h, _⟩ => h) ?_ ?_
  · rintro od i c b σ H6 Drt Dbk hc' hb ⟨es, vs, y5, y6, rfl, k6, eg6, een6, pes, nes, ses, ces, les⟩
    have hcL : c ∈ L := List.mem_of_getElem? hc'
    have hil := (List.getElem?_eq_some_iff.mp hc').1
    obtain ⟨vr, hvr, hrv⟩ := dk_some (F := fun v c => RvAt (succ r) L H4 v c) prd4 hcL
    obtain ⟨l, ws, rfl, hle, hl6, pl6⟩ := k45 k6 hrv
    have erd6 := k6 _ _ (Ne.symm grd) (Ne.symm enrd) (s5 _ _ erd)
    have etk : L.take (i + 1) = L.take i ++ [c] := by rw [List.take_add_one, hc']; rfl
    -- the next turn, nothing added
    have stay : ∀ (y6' : Option V) (H' : Hp), Same H6 H' → ¬ (rL (succ r) L c ∉ es ∧ ∀ y ∈ rL (succ r) L c, rL (succ r) L y = rL (succ r) L c) → ∃ (es : List (List Cr)) (vs : List V) (y5 y6 : Option V), ([some u, some v, some (.ref g), some (.ref rd), some (.ref en), some (.ref b), y6'] : L2.St) = [some u, some v, some (.ref g), some (.ref rd), some (.ref en), y5, y6] ∧ (∀ a o, a ≠ g → a ≠ en → H5 a = some o → H' a = some o) ∧ H' g = some (.frz od (.dT kvs)) ∧ H' en = some (.lst vs) ∧ Paired (LcNe H' en) vs es ∧
        es.Nodup ∧ (∀ e ∈ es, ∃ c ∈ L, e = rL (succ r) L c ∧ ∀ y ∈ rL (succ r) L c, rL (succ r) L y = rL (succ r) L c) ∧ (∀ c ∈ L.take (i + 1), (∀ y ∈ rL (succ r) L c, rL (succ r) L y = rL (succ r) L c) → rL (succ r) L c ∈ es) ∧ es.length ≤ i + 1 := by
      intro y6' H' s hno
      refine ⟨es, vs, _, _, rfl, fun a o h1 h2 e => s _ _ (k6 a o h1 h2 e), s _ _ eg6, s _ _ een6, pes.mono fun y e h => h.keep (Tk.same s) fun l ws _ e => s _ _ e, nes, ses, fun x hx hy => ?_, by omega⟩
      rw [etk] at hx
      rcases List.mem_append.mp hx with hx | hx
      · exact ces x hx hy
      · rw [List.mem_singleton.mp hx] at hy ⊢
        exact Classical.byContradiction fun h => hno ⟨h, hy⟩
    refine ⟨_, rfl, _, rfl, rd, .ref l, rfl, by rw [← hvr]; exact dget_at (.inl erd6) hb, _, rfl, ld (rL (succ r) L c), es.map ld, dp_ld hl6 pl6, .lst (SqL.of een6) (dpAll_lds (pes.mono fun y e ⟨l, ws, h1, _, h3, h4⟩ => ⟨l, ws, h1, h3, h4⟩)), shaped_ld _, shaped_lds _, _, rfl, ?_⟩
    rw [eqvAny_ld]
    refine ite2 (fun z => ?_) (fun z => ?_)
    · have hnew : rL (succ r) L c ∉ es := by simpa using z
      refine ⟨_, rfl, _, rfl, rd, .ref l, rfl, by rw [← hvr]; exact dget_at (.inl erd6) hb, l, rfl, ⟨_, SqL.of hl6⟩, fun D8 nD8 => ?_⟩
      have hlen6 : (rL (succ r) L c).length ≤ 100 := Nat.le_trans (nodup_len (rL_nd hn c) fun y hy => (hm y).mpr (((hm c).mp hcL).trans ((rL_mem hm hcL y).mp hy))) (by omega)
      refine lc_same (walk_list (K := K) (a := l) (xs := ws)) (rL (succ r) L c) (fun y => some (decide (rL (succ r) L y = rL (succ r) L c))) BlIs (Paired.length pl6) (by rw [Paired.length pl6]; exact big _ (by omega)) nD8 (fun H1 s => SqL.of (s _ _ hl6)) (fun _ _ _ _ _ _ _ _ h => h) ?_ (fun H9 acc9 s9 e9 p9 => ?_)
      · intro j y x H8 H9 Kt Kf kt kf hp s8 _ hy
        obtain ⟨rfl, hx⟩ := hy
        obtain ⟨x', hx', by6, rfl, hby⟩ := Paired.getR pl6 hp
        obtain rfl : x = .ref by6 := Option.some.inj (hx.symm.trans hx')
        have hyL : y ∈ L := (hm y).mpr (((hm c).mp hcL).trans ((rL_mem hm hcL y).mp (List.mem_of_getElem? hp)))
        obtain ⟨vy, hvy, hry⟩ := dk_some (F := fun v c => RvAt (succ r) L H4 v c) prd4 hyL
        obtain ⟨l2, ws2, rfl, _, hl2, pl2⟩ := k45 k6 hry
        refine ⟨rfl, iteT (B := Kf H9) ⟨_, rfl, _, rfl, rd, .ref l2, rfl, by rw [← hvy]; exact dget_at (.inl (s8 _ _ erd6)) (s8 _ _ hby), _, rfl, _, rfl, rd, .ref l, rfl, by rw [← hvr]; exact dget_at (.inl (s8 _ _ erd6)) (s8 _ _ hb), ld (rL (succ r) L y), ld (rL (succ r) L c), dp_ld (s8 _ _ hl2) (crs_tk (Tk.same s8) pl2), dp_ld (s8 _ _ hl6) (crs_tk (Tk.same s8) pl6), shaped_ld _, shaped_ld _, ?_⟩⟩
        refine kt _ _ _ (Same.refl _) rfl ?_
        show V.bl _ = V.bl _
        rw [eqv_ld]
      · rw [List.filterMap_eq_map'] at p9
        have ew := bls_of p9
        refine ⟨D8, _, rfl, .inl (SqL.of e9), rfl, by rw [ew]; exact flat_bls _, _, rfl, ?_⟩
        rw [ew, in_bls]
        have hall : (if true = true then !decide (false ∈ (rL (succ r) L c).map fun y => decide (rL (succ r) L y = rL (succ r) L c)) else decide (false ∈ (rL (succ r) L c).map fun y => decide (rL (succ r) L y = rL (succ r) L c))) = true ↔ ∀ y ∈ rL (succ r) L c, rL (succ r) L y = rL (succ r) L c := by
          rw [if_pos rfl]
          simp
        refine ite2 (fun z => ?_) (fun z => ?_)
        · have hal := hall.mp z
          have een9 := s9 _ _ een6
          refine ⟨_, rfl, .inl ⟨rfl, _, SqL.of een9⟩, _, rfl, _, rfl, rd, .ref l, rfl, by rw [← hvr]; exact dget_at (.inl (s9 _ _ erd6)) (s9 _ _ hb), en, vs, _, rfl, rfl, een9, small1000 (by rw [Paired.length pes]; omega), ?_⟩
          have kk := Tk.mutL (o := .lst (vs ++ [.ref l])) een9
          have k69 := (Tk.same s9).trans kk
          refine ⟨es ++ [rL (succ r) L c], vs ++ [.ref l], _, _, rfl, fun a o h1 h2 e => at_ne (s9 _ _ (k6 a o h1 h2 e)) h2, at_ne (s9 _ _ eg6) (Ne.symm engg), upd_same, ?_, ?_, ?_, ?_, ?_⟩
          · refine Paired.snoc (pes.mono fun y e h => h.keep k69 fun l ws h1 e => at_ne (s9 _ _ e) h1) ⟨l, ws, rfl, hle, at_ne (s9 _ _ hl6) hle, crs_tk k69 pl6⟩
          · refine List.nodup_append.mpr ⟨nes, List.nodup_cons.mpr ⟨by simp, List.nodup_nil⟩, fun x hx y hy e => ?_⟩
            rw [List.mem_singleton.mp hy] at e
            exact hnew (e ▸ hx)
          · intro e he
            rcases List.mem_append.mp he with he | he
            · exact ses e he
            · exact ⟨c, hcL, List.mem_singleton.mp he, hal⟩
          · intro x hx hy
            rw [etk] at hx
            rcases List.mem_append.mp hx with hx | hx
            · exact List.mem_append_left _ (ces x hx hy)
            · rw [List.mem_singleton.mp hx]; exact List.mem_append_right _ (List.mem_singleton.mpr rfl)
          · rw [List.length_append]; show _ + 1 ≤ _; omega
        · exact stay _ _ s9 fun ⟨_, h2⟩ => z (hall.mpr h2)
    · exact stay _ _ (Same.refl _) fun ⟨h1, _⟩ => z (by simpa using h1)
  · rintro od σ H6 ⟨es, vs, y5, y6, rfl, k6, eg6, een6, pes, nes, ses, ces, les⟩
    rw [List.take_length] at ces
    have b7 : But g H6 (upd H6 g (.dT kvs)) := but_upd
    have k7 : Tk H6 (upd H6 g (.dT kvs)) := fun t xs e => b7 _ _ (ne_of e eg6 (by intro z; cases z)) e
    have een7 := b7 _ _ engg een6
    have pes7 : Paired (LcAt (upd H6 g (.dT kvs))) vs es := pes.mono fun y e ⟨l, ws, h1, _, h3, h4⟩ => ⟨l, ws, h1, b7 _ _ (ne_of h3 eg6 (by intro z; cases z)) h3, crs_tk k7 h4⟩
    refine ⟨_, rfl, nilI (sort_lcs (K := K) een7 pes7 fun t ws es' nt hp pe => ?_)⟩
    have s05 : Same H0 H5 := (s1.trans s14).trans s5
    have sF : Same H0 (upd H6 g (.dT kvs)) := fun a o e => b7 _ _ (ne_of_none e n1) (k6 _ _ (ne_of_none e n1) (ne_of_none e ((s1.trans s14).free nen)) (s05 _ _ e))
    have s8 := same_new (o := .lst ws) nt
    refine q _ t ws es' (sF.trans s8) (sF.free nt) upd_same (pe.mono fun y e h => h.same s8) (hp.symm.nodup nes) (fun e => ?_) (by rw [hp.length_eq]; omega) ⟨L, hn, hm⟩
    rw [hp.mem_iff, isEnd_rL hn hm]
    constructor
    · exact ses e
    · rintro ⟨c, hc, rfl, h⟩
      exact ces c hc h
end
end Pb
set_option Elab.async false
set_option linter.all false
set_option maxRecDepth 100000
set_option maxHeartbeats 4000000
namespace Pb
open PySem PySem.Spec PyProof.Rows L2
open C8 (Cal pe_c)
section
variable {P : Program} {w : World} {K : PySem.W.Frag} {mg : Str → Option Value} {base : Heap}
/-! ### _law_holds -/
theorem sum_at {σ : L2.St} {H : Hp} {Q : V → Hp → Prop} {i j : Nat} {q b t : Addr} {xs : List V} {ss cs : List Int} (h0 : σ[0]? = some (some (.ref q))) (h1 : σ[1]? = some (some (.ref t))) (hi : 2 ≤ i) (hil : i < σ.length)
    (hq : H q = some (.tup xs)) (hx : xs[j]? = some (.ref b)) (hb : H b = some (.tup (ss.map V.int))) (ht : H t = some (.tup (cs.map V.int))) (hin : ∀ i ∈ ss, InR cs.length i) (hz : ss.length ≤ 1000)
    (k : ∀ H', Same H H' → Q (.int (sumOf ss cs)) H') : tCB (rSum K) (tCons (tLc (iTup K (tOp (rIxT K) (tVar 0) (tC (.int j)))) (gName i) tYes (tOp (rIxT K) (tVar 1) (tVar i)) [i]) tNil) σ H Q := by
  refine ⟨_, h0, q, xs, _, .ref b, rfl, rfl, SqT.of hq, atI_nat hx, b, rfl, ⟨_, SqT.of hb⟩, fun l nl => ?_⟩
  refine lc_same (walk_tup (K := K) (a := b) (xs := ss.map V.int)) ss (fun i => some (gt cs i)) IntIs (by simp) (by rw [List.length_map]; exact small1000 hz) nl (fun H1 s => SqT.of (s _ _ hb))
    (fun _ _ _ _ _ _ _ _ h => h) ?_ (fun H1 acc s1 e1 p1 => ?_)
  · intro j p x H1 H2 Kt Kf kt kf hp s1 _ hy
    obtain ⟨rfl, hx⟩ := hy
    rw [List.getElem?_map, hp] at hx
    obtain rfl : V.int p = x := Option.some.inj hx
    have g1 : ((σ.set i none).set i (some (V.int p)))[1]? = some (some (.ref t)) := by rw [List.getElem?_set_ne (by omega), List.getElem?_set_ne (by omega)]; exact h1
    have g2 : ((σ.set i none).set i (some (V.int p)))[i]? = some (some (.int p)) := by rw [List.getElem?_set_self]; rw [List.length_set]; exact hil
    refine ⟨?_, iteT (B := Kf H2) ⟨_, g1, _, g2, t, _, _, _, rfl, rfl, SqT.of (s1 _ _ ht), at_in (hin p (List.mem_of_getElem? hp)), ?_⟩⟩
    · show ((σ.set i none).set i _).set i none = σ.set i none
      rw [List.set_set, List.set_set]
    · exact kt _ _ _ (Same.refl _) rfl rfl
  · rw [List.filterMap_eq_map'] at p1
    refine ⟨l, ss.map (gt cs), rfl, ?_, k H1 s1⟩
    rw [← ints_of p1]
    exact SqL.of e1
theorem dec_eqI (a b : Int) : decide (V.int a = V.int b) = decide (a = b) := by
  by_cases h : a = b
  · rw [decide_eq_true h, decide_eq_true (congrArg V.int h)]
  · rw [decide_eq_false h, decide_eq_false (fun z => h (V.int.inj z))]
theorem sc_law_holds : FnScope ["_law_question_here", "_law_counts_here", "_law_many", "_law_sort"] ["_law_question_here", "_law_counts_here"] (defScope s_law_holds) := ⟨rfl, rfl, rfl, by decide +kernel, rfl, by decide +kernel, by decide +kernel⟩
theorem ok_law_holds0 (T : Tx mg) (D : DefAt K mg "_law_holds" s_law_holds []) : Cal P w K mg base 1 "_law_holds" (spHolds 0) [] := by
  refine cal0 D sc_law_holds (fun _ _ _ _ _ _ us hl => match us, hl with | [_, _], _ => rfl) (fun vs H Q E ⟨_, _, _, _, e, _⟩ => by rw [e]; rfl) fun f cdv A outer s H vs Q E hr h => ?_
  obtain ⟨_, _, q, cs, rfl, hq, hd, hok, hlen, ⟨t, rfl, ht⟩, k⟩ := h
  refine ⟨_, (pss_cons (ps_if (pt_cmpR op_eq (pe_ix ix_tup (pv 0) pe_int (fun _ _ => rfl)) pe_str (nomark _)) (pss_one ps_never) pss_nil)
    (pss_cons (ps_set (i := 2) sc_law_holds.nd rfl (.inl rfl) (pe_callB (cr_sum rfl) (by rfl) T.sum boot_sum (pa_cons (pe_lc (own := [("_law_sort", 3)]) (g := (gName 3)) (tt := tYes) (te := (tOp (rIxT K) (tVar 1) (tVar 3))) rfl sc_law_holds.nd (pi_tup (pe_ix ix_tup (pv 0) pe_int (fun _ _ => rfl))) (blkOk_by (N := ["_law_question_here", "_law_counts_here", "_law_many", "_law_sort"]) (sc := defScope s_law_holds) (by decide +kernel)) (fun _ _ _ _ _ => (pg_name (i := 3) sc_law_holds.nd rfl (.inl rfl))) (fun _ _ _ _ _ => pts_nil) (fun _ _ _ _ _ => (pe_ix ix_tup (pv 1) (pv 3) (fun _ _ => rfl)))) pa_nil)))
    (pss_cons (ps_if (pt_cmpR op_eq (pe_ix ix_tup (pv 0) pe_int (fun _ _ => rfl)) pe_str (nomark _))
      (pss_one (ps_ret (pe_cmpR op_ge (pv 2) (pe_ix ix_tup (pv 0) pe_int (fun _ _ => rfl)) (nomark _)))) pss_nil)
    (pss_cons (ps_if (pt_cmpR op_eq (pe_ix ix_tup (pv 0) pe_int (fun _ _ => rfl)) pe_str (nomark _))
      (pss_one (ps_ret (pe_cmpR op_gt (pv 2) (pe_callB (cr_sum rfl) (by rfl) T.sum boot_sum (pa_cons (pe_lc (own := [("_law_sort", 3)]) (g := (gName 3)) (tt := tYes) (te := (tOp (rIxT K) (tVar 1) (tVar 3))) rfl sc_law_holds.nd (pi_tup (pe_ix ix_tup (pv 0) pe_int (fun _ _ => rfl))) (blkOk_by (N := ["_law_question_here", "_law_counts_here", "_law_many", "_law_sort"]) (sc := defScope s_law_holds) (by decide +kernel)) (fun _ _ _ _ _ => (pg_name (i := 3) sc_law_holds.nd rfl (.inl rfl))) (fun _ _ _ _ _ => pts_nil) (fun _ _ _ _ _ => (pe_ix ix_tup (pv 1) (pv 3) (fun _ _ => rfl)))) pa_nil)) (nomark _)))) pss_nil)
    (pss_one (ps_ret (pe_cmpR op_eq (pe_op op_mod (pv 2) (pe_ix ix_tup (pv 0) pe_int (fun _ _ => rfl))) (pe_ix ix_tup (pv 0) pe_int (fun _ _ => rfl)) (nomark _)))))))), ?_⟩
  cases q with
  | not q => exact absurd hd (by show ¬ q.depth + 1 ≤ 0; omega)
  | least ss n =>
    obtain ⟨a, b, rfl, ha, hb⟩ := hq
    refine ⟨_, rfl, _, _, _, _, rfl, rfl, SqT.of ha, atI_nat (j := 0) rfl, rfl, _, rfl, strF (by decide) ?_⟩
    refine seqI (asgI (sum_at (K := K) (i := 3) (j := 1) (b := b) rfl rfl (by omega) (by show 3 < 4; omega) ha rfl hb ht hok hlen fun H1 s1 => ?_))
    refine ⟨_, rfl, _, _, _, _, rfl, rfl, SqT.of (s1 _ _ ha), atI_nat (j := 0) rfl, rfl, _, rfl, strT rfl ?_⟩
    exact ⟨_, rfl, _, rfl, _, _, _, _, rfl, rfl, SqT.of (s1 _ _ ha), atI_nat (j := 2) rfl, _, _, rfl, rfl, k _ s1⟩
  | more ss os =>
    obtain ⟨a, b, d, rfl, ha, hb, hd⟩ := hq
    refine ⟨_, rfl, _, _, _, _, rfl, rfl, SqT.of ha, atI_nat (j := 0) rfl, rfl, _, rfl, strF (by decide) ?_⟩
    refine seqI (asgI (sum_at (K := K) (i := 3) (j := 1) (b := b) rfl rfl (by omega) (by show 3 < 4; omega) ha rfl hb ht hok.1 hlen.1 fun H1 s1 => ?_))
    refine ⟨_, rfl, _, _, _, _, rfl, rfl, SqT.of (s1 _ _ ha), atI_nat (j := 0) rfl, rfl, _, rfl, strF (by decide) ?_⟩
    refine ⟨_, rfl, _, _, _, _, rfl, rfl, SqT.of (s1 _ _ ha), atI_nat (j := 0) rfl, rfl, _, rfl, strT rfl ?_⟩
    refine ⟨_, rfl, ?_⟩
    refine sum_at (K := K) (i := 3) (j := 2) (b := d) rfl rfl (by omega) (by show 3 < 4; omega) (s1 _ _ ha) rfl (s1 _ _ hd) (s1 _ _ ht) hok.2 hlen.2 fun H2 s2 => ?_
    exact ⟨_, _, rfl, rfl, k _ (s1.trans s2)⟩
  | rest ss m r =>
    obtain ⟨a, b, rfl, ha, hb⟩ := hq
    refine ⟨_, rfl, _, _, _, _, rfl, rfl, SqT.of ha, atI_nat (j := 0) rfl, rfl, _, rfl, strF (by decide) ?_⟩
    refine seqI (asgI (sum_at (K := K) (i := 3) (j := 1) (b := b) rfl rfl (by omega) (by show 3 < 4; omega) ha rfl hb ht hok.1 hlen fun H1 s1 => ?_))
    refine ⟨_, rfl, _, _, _, _, rfl, rfl, SqT.of (s1 _ _ ha), atI_nat (j := 0) rfl, rfl, _, rfl, strF (by decide) ?_⟩
    refine ⟨_, rfl, _, _, _, _, rfl, rfl, SqT.of (s1 _ _ ha), atI_nat (j := 0) rfl, rfl, _, rfl, strF (by decide) ?_⟩
    refine ⟨_, rfl, _, rfl, _, _, _, _, rfl, rfl, SqT.of (s1 _ _ ha), atI_nat (j := 2) rfl, _, _, rfl, rfl, hok.2, _, rfl, _, _, _, _, rfl, rfl, SqT.of (s1 _ _ ha), atI_nat (j := 3) rfl, rfl, ?_⟩
    rw [dec_eqI]
    exact k _ s1
theorem ok_law_holds1 (T : Tx mg) (D : DefAt K mg "_law_holds" s_law_holds []) (C0 : Cal P w K mg base 1 "_law_holds" (spHolds 0) []) : Cal P w K mg base 2 "_law_holds" (spHolds 1) [] := by
  refine cal0 D sc_law_holds (fun _ _ _ _ _ _ us hl => match us, hl with | [_, _], _ => rfl) (fun vs H Q E ⟨_, _, _, _, e, _⟩ => by rw [e]; rfl) fun f cdv A outer s H vs Q E hr h => ?_
  obtain ⟨_, _, q, cs, rfl, hq, hd, hok, hlen, ⟨t, rfl, ht⟩, k⟩ := h
  refine ⟨_, (pss_cons (ps_if (pt_cmpR op_eq (pe_ix ix_tup (pv 0) pe_int (fun _ _ => rfl)) pe_str (nomark _))
      (pss_one (ps_ret (pe_not (pe_c C0 hr (by omega) rfl (pa_cons (pe_ix ix_tup (pv 0) pe_int (fun _ _ => rfl)) (pa_cons (pv 1) pa_nil)))))) pss_nil)
    (pss_cons (ps_set (i := 2) sc_law_holds.nd rfl (.inl rfl) (pe_callB (cr_sum rfl) (by rfl) T.sum boot_sum (pa_cons (pe_lc (own := [("_law_sort", 3)]) (g := (gName 3)) (tt := tYes) (te := (tOp (rIxT K) (tVar 1) (tVar 3))) rfl sc_law_holds.nd (pi_tup (pe_ix ix_tup (pv 0) pe_int (fun _ _ => rfl))) (blkOk_by (N := ["_law_question_here", "_law_counts_here", "_law_many", "_law_sort"]) (sc := defScope s_law_holds) (by decide +kernel)) (fun _ _ _ _ _ => (pg_name (i := 3) sc_law_holds.nd rfl (.inl rfl))) (fun _ _ _ _ _ => pts_nil) (fun _ _ _ _ _ => (pe_ix ix_tup (pv 1) (pv 3) (fun _ _ => rfl)))) pa_nil)))
    (pss_cons (ps_if (pt_cmpR op_eq (pe_ix ix_tup (pv 0) pe_int (fun _ _ => rfl)) pe_str (nomark _))
      (pss_one (ps_ret (pe_cmpR op_ge (pv 2) (pe_ix ix_tup (pv 0) pe_int (fun _ _ => rfl)) (nomark _)))) pss_nil)
    (pss_cons (ps_if (pt_cmpR op_eq (pe_ix ix_tup (pv 0) pe_int (fun _ _ => rfl)) pe_str (nomark _))
      (pss_one (ps_ret (pe_cmpR op_gt (pv 2) (pe_callB (cr_sum rfl) (by rfl) T.sum boot_sum (pa_cons (pe_lc (own := [("_law_sort", 3)]) (g := (gName 3)) (tt := tYes) (te := (tOp (rIxT K) (tVar 1) (tVar 3))) rfl sc_law_holds.nd (pi_tup (pe_ix ix_tup (pv 0) pe_int (fun _ _ => rfl))) (blkOk_by (N := ["_law_question_here", "_law_counts_here", "_law_many", "_law_sort"]) (sc := defScope s_law_holds) (by decide +kernel)) (fun _ _ _ _ _ => (pg_name (i := 3) sc_law_holds.nd rfl (.inl rfl))) (fun _ _ _ _ _ => pts_nil) (fun _ _ _ _ _ => (pe_ix ix_tup (pv 1) (pv 3) (fun _ _ => rfl)))) pa_nil)) (nomark _)))) pss_nil)
    (pss_one (ps_ret (pe_cmpR op_eq (pe_op op_mod (pv 2) (pe_ix ix_tup (pv 0) pe_int (fun _ _ => rfl))) (pe_ix ix_tup (pv 0) pe_int (fun _ _ => rfl)) (nomark _)))))))), ?_⟩
  cases q with
  | not q =>
    obtain ⟨a, u, rfl, ha, hu⟩ := hq
    refine ⟨_, rfl, _, _, _, _, rfl, rfl, SqT.of ha, atI_nat (j := 0) rfl, rfl, _, rfl, strT rfl ?_⟩
    refine ⟨_, rfl, _, _, _, _, rfl, rfl, SqT.of ha, atI_nat (j := 1) rfl, _, rfl, u, _, q, cs, rfl, hu, Nat.le_of_succ_le_succ hd, hok, hlen, ⟨t, rfl, ht⟩, fun H1 s1 => ⟨_, rfl, k _ s1⟩⟩
  | least ss n =>
    obtain ⟨a, b, rfl, ha, hb⟩ := hq
    refine ⟨_, rfl, _, _, _, _, rfl, rfl, SqT.of ha, atI_nat (j := 0) rfl, rfl, _, rfl, strF (by decide) ?_⟩
    refine seqI (asgI (sum_at (K := K) (i := 3) (j := 1) (b := b) rfl rfl (by omega) (by show 3 < 4; omega) ha rfl hb ht hok hlen fun H1 s1 => ?_))
    refine ⟨_, rfl, _, _, _, _, rfl, rfl, SqT.of (s1 _ _ ha), atI_nat (j := 0) rfl, rfl, _, rfl, strT rfl ?_⟩
    exact ⟨_, rfl, _, rfl, _, _, _, _, rfl, rfl, SqT.of (s1 _ _ ha), atI_nat (j := 2) rfl, _, _, rfl, rfl, k _ s1⟩
  | more ss os =>
    obtain ⟨a, b, d, rfl, ha, hb, hd⟩ := hq
    refine ⟨_, rfl, _, _, _, _, rfl, rfl, SqT.of ha, atI_nat (j := 0) rfl, rfl, _, rfl, strF (by decide) ?_⟩
    refine seqI (asgI (sum_at (K := K) (i := 3) (j := 1) (b := b) rfl rfl (by omega) (by show 3 < 4; omega) ha rfl hb ht hok.1 hlen.1 fun H1 s1 => ?_))
    refine ⟨_, rfl, _, _, _, _, rfl, rfl, SqT.of (s1 _ _ ha), atI_nat (j := 0) rfl, rfl, _, rfl, strF (by decide) ?_⟩
    refine ⟨_, rfl, _, _, _, _, rfl, rfl, SqT.of (s1 _ _ ha), atI_nat (j := 0) rfl, rfl, _, rfl, strT rfl ?_⟩
    refine ⟨_, rfl, ?_⟩
    refine sum_at (K := K) (i := 3) (j := 2) (b := d) rfl rfl (by omega) (by show 3 < 4; omega) (s1 _ _ ha) rfl (s1 _ _ hd) (s1 _ _ ht) hok.2 hlen.2 fun H2 s2 => ?_
    exact ⟨_, _, rfl, rfl, k _ (s1.trans s2)⟩
  | rest ss m r =>
    obtain ⟨a, b, rfl, ha, hb⟩ := hq
    refine ⟨_, rfl, _, _, _, _, rfl, rfl, SqT.of ha, atI_nat (j := 0) rfl, rfl, _, rfl, strF (by decide) ?_⟩
    refine seqI (asgI (sum_at (K := K) (i := 3) (j := 1) (b := b) rfl rfl (by omega) (by show 3 < 4; omega) ha rfl hb ht hok.1 hlen fun H1 s1 => ?_))
    refine ⟨_, rfl, _, _, _, _, rfl, rfl, SqT.of (s1 _ _ ha), atI_nat (j := 0) rfl, rfl, _, rfl, strF (by decide) ?_⟩
    refine ⟨_, rfl, _, _, _, _, rfl, rfl, SqT.of (s1 _ _ ha), atI_nat (j := 0) rfl, rfl, _, rfl, strF (by decide) ?_⟩
    refine ⟨_, rfl, _, rfl, _, _, _, _, rfl, rfl, SqT.of (s1 _ _ ha), atI_nat (j := 2) rfl, _, _, rfl, rfl, hok.2, _, rfl, _, _, _, _, rfl, rfl, SqT.of (s1 _ _ ha), atI_nat (j := 3) rfl, rfl, ?_⟩
    rw [dec_eqI]
    exact k _ s1
end
end Pb
set_option Elab.async false
set_option linter.all false
set_option maxRecDepth 100000
set_option maxHeartbeats 4000000
namespace Pb
open PySem PySem.Spec PyProof.Rows L2
open C8 (Cal pe_c)
section
variable {P : Program} {w : World} {K : PySem.W.Frag} {mg : Str → Option Value} {base : Heap}
/-! ### _law_question -/
/-- a question as the law draws it -/
def QnMk (n : Nat) : Qn → Prop
  | .least s k => (∀ i ∈ s, InR n i) ∧ s.length ≤ 10 ∧ 1 ≤ k ∧ k ≤ 3
  | .more s o => (∀ i ∈ s, InR n i) ∧ (∀ i ∈ o, InR n i) ∧ s.length ≤ 10 ∧ o.length ≤ 10
  | .rest s m r => (∀ i ∈ s, InR n i) ∧ s.length ≤ 10 ∧ 2 ≤ m ∧ m ≤ 3 ∧ 0 ≤ r ∧ r < m
  | .not q => QnMk n q
theorem QnMk.ok {n : Nat} : ∀ {q : Qn}, QnMk n q → QnOk n q
  | .least _ _, h => h.1
  | .more _ _, h => ⟨h.1, h.2.1⟩
  | .rest _ m _, h => ⟨h.1, by have := h.2.2.1; omega⟩
  | .not q, h => QnMk.ok (q := q) h
theorem QnMk.len {n : Nat} : ∀ {q : Qn}, QnMk n q → QnLen q
  | .least s _, h => by have := h.2.1; show s.length ≤ 1000; omega
  | .more s o, h => by have h1 := h.2.2.1; have h2 := h.2.2.2; exact ⟨by omega, by omega⟩
  | .rest s m _, h => by have := h.2.1; show s.length ≤ 1000; omega
  | .not q, h => QnMk.len (q := q) h
theorem sc_law_question : FnScope ["_law_feed_here", "_law_sorts", "_law_deep", "_law_some", "_law_way", "_law_others", "_law_m", "_law_sort"] ["_law_feed_here", "_law_sorts", "_law_deep"] (defScope s_law_question) := ⟨rfl, rfl, rfl, by decide +kernel, rfl, by decide +kernel, by decide +kernel⟩
def spQuest (n : Nat) : Sp := fun vs H Q _ => ∃ (f : Addr) (so k : Nat), vs = [.ref f, .int so, .int (n : Nat)] ∧ FeedAt H f k ∧ k + 20 * (n + 1) ≤ 1000 ∧ 1 ≤ so ∧ so ≤ 4 ∧
  ∀ H' v q, But f H H' → FeedAt H' f (k + 20 * (n + 1)) → QnAt H' v q → q.depth ≤ n → QnMk so q → Q v H'
theorem drop_mem {α : Type} {l : List α} {k : Nat} {x : α} (h : x ∈ l.drop k) : x ∈ l := List.mem_of_mem_drop h
theorem FeedAt.ne_tup {H : Hp} {f p : Addr} {n : Nat} {xs : List V} (h : FeedAt H f n) (e : H p = some (.tup xs)) : p ≠ f := let ⟨c, l, t, e', _⟩ := h; ne_of e e' (by intro z; cases z)
theorem FeedAt.ne_lst' {H H' H1 : Hp} {f p : Addr} {n m : Nat} {xs : List V} (h : FeedAt H f n) (np : H1 p = none) (b : But f H1 H') (h1 : FeedAt H1 f m) (e : H' p = some (.lst xs)) : p ≠ f := fun z => by
  obtain ⟨c, l, t, e', _⟩ := h1
  rw [z, e'] at np
  cases np
theorem ok_law_question0 (T : Tx mg) (D : DefAt K mg "_law_question" s_law_question []) (C1 : Cal P w K mg base 1 "_law_draw" spDraw []) : Cal P w K mg base 2 "_law_question" (spQuest 0) [] := by
  refine cal0 D sc_law_question (fun _ _ _ _ _ _ us hl => match us, hl with | [_, _, _], _ => rfl) (fun vs H Q E ⟨_, _, _, e, _⟩ => by rw [e]; rfl) fun f cdv A outer s H0 vs Q E hr hsp => ?_
  obtain ⟨fd, so, k, rfl, fe, hk, h1, h4, q⟩ := hsp
  have hu64 := hu64_of hr
  refine ⟨_, (pss_cons (ps_set (i := 3) sc_law_question.nd rfl (.inr rfl) (pe_callTy call_tuple_of (by rfl) T.tuple boot_tuple (pa_cons (pe_lc (own := [("_law_sort", 7)]) (g := (gName 7)) (tt := (tTest (tOp rEq (tCall spDraw [] E0 (tCons (tVar 0) (tCons (tC (.int 2)) tNil))) (tC (.int 0))))) (te := (tVar 7)) rfl sc_law_question.nd (pi_range1 (by rfl) T.range (pa_cons (pv 1) pa_nil)) (blkOk_by (N := ["_law_feed_here", "_law_sorts", "_law_deep", "_law_some", "_law_way", "_law_others", "_law_m", "_law_sort"]) (sc := defScope s_law_question) (by decide +kernel)) (fun _ _ _ _ _ => (pg_name (i := 7) sc_law_question.nd rfl (.inl rfl))) (fun _ _ _ _ _ => (pts_one (pt_cmpR op_eq (pe_c C1 hr (by omega) rfl (pa_cons (pv 0) (pa_cons pe_int pa_nil))) pe_int (nomark _)))) (fun _ _ _ _ _ => (pv 7))) pa_nil)))
    (pss_cons (ps_set (i := 3) sc_law_question.nd rfl (.inr rfl) (pe_ifExp (pt_cmpR (op_neD hu64) (pv 3) (pe_tup pa_nil) (nomark _)) (pv 3) (pe_tup (pa_cons (pe_c C1 hr (by omega) rfl (pa_cons (pv 0) (pa_cons (pv 1) pa_nil))) pa_nil))))
    (pss_cons (ps_set (i := 4) sc_law_question.nd rfl (.inl rfl) (pe_c C1 hr (by omega) rfl (pa_cons (pv 0) (pa_cons pe_int pa_nil))))
    (pss_cons (ps_if (PW.pt (pw_and (pt_cmpR op_eq (pv 4) pe_int (nomark _)) (pw_and1 (pt_cmpR op_gt (pv 2) pe_int (nomark _))))) (pss_one ps_never) pss_nil)
    (pss_cons (ps_if (pt_cmpR op_eq (pv 4) pe_int (nomark _))
      (pss_cons (ps_setLc (i := 5) (own := [("_law_sort", 7)]) (g := (gName 7)) (tt := (tTest (tOp (rIn K true) (tVar 7) (tVar 3)))) (te := (tVar 7)) rfl sc_law_question.nd rfl rfl (sw_true rfl rfl rfl (by decide +kernel)) (pi_range1 (by rfl) T.range (pa_cons (pv 1) pa_nil)) (blkOk_by (N := ["_law_feed_here", "_law_sorts", "_law_deep", "_law_some", "_law_way", "_law_others", "_law_m", "_law_sort"]) (sc := defScope s_law_question) (by decide +kernel)) (fun _ _ _ _ _ => (pg_name (i := 7) sc_law_question.nd rfl (.inl rfl))) (fun _ _ _ _ _ => (pts_one (pt_cmpR op_notIn_seq (pv 7) (pv 3) (by rfl)))) (fun _ _ _ _ _ => (pv 7)))
      (pss_one (ps_ret (pe_tup (pa_cons pe_str (pa_cons (pv 3) (pa_cons (pe_callTy call_tuple_of (by rfl) T.tuple boot_tuple (pa_cons (pe_slice sl_list (pv 5) (po_some (pe_c C1 hr (by omega) rfl (pa_cons (pv 0) (pa_cons pe_int pa_nil)))) po_none) pa_nil)) pa_nil))))))) pss_nil)
    (pss_cons (ps_if (pt_cmpR op_eq (pv 4) pe_int (nomark _))
      (pss_cons (ps_set (i := 6) sc_law_question.nd rfl (.inl rfl) (pe_op op_add pe_int (pe_c C1 hr (by omega) rfl (pa_cons (pv 0) (pa_cons pe_int pa_nil)))))
      (pss_one (ps_ret (pe_tup (pa_cons pe_str (pa_cons (pv 3) (pa_cons (pv 6) (pa_cons (pe_c C1 hr (by omega) rfl (pa_cons (pv 0) (pa_cons (pv 6) pa_nil))) pa_nil)))))))) pss_nil)
    (pss_one (ps_ret (pe_tup (pa_cons pe_str (pa_cons (pv 3) (pa_cons (pe_op op_add pe_int (pe_c C1 hr (by omega) rfl (pa_cons (pv 0) (pa_cons pe_int pa_nil)))) pa_nil)))))))))))), ?_⟩
  -- some
  refine ⟨_, rfl, _, rfl, by omega, by omega, fun D1 nD1 => ?_⟩
  have hso : ((so : Int)).toNat = so := by omega
  rw [hso]
  refine lc_feed k 1 (fun i acc => ∃ ss : List Int, acc = ss.map V.int ∧ ∀ s ∈ ss, InR so s) (big _ (by omega)) nD1 fe ⟨[], rfl, fun _ h => nomatch h⟩ ?_ (fun H1 acc b1 e1 fe1 i1 l1 => ?_)
  · intro i H acc Kt Kf kt kf hi b fe ⟨ss, ea, hs⟩ la
    refine ⟨rfl, _, rfl, fd, 2, _, rfl, fe, by omega, by decide, by decide, fun H4 x b4 f4 x0 x1 => ⟨rfl, _, rfl, ?_⟩⟩
    have f4 : FeedAt H4 fd (k + (i + 1) * 1) := f4.mono (by omega)
    refine ite2 (fun z => ⟨_, rfl, kt _ _ b4 f4 ⟨ss ++ [0 + (i : Int)], by rw [ea, List.map_append]; rfl, fun s hs' => ?_⟩⟩) (fun z => kf _ b4 f4 ⟨ss, ea, hs⟩)
    rcases List.mem_append.mp hs' with h | h
    · exact hs s h
    · rw [List.mem_singleton.mp h]; exact ⟨by omega, by omega⟩
  obtain ⟨ss, rfl, hss⟩ := i1
  rw [List.length_map] at l1
  rw [Nat.mul_one] at fe1
  refine ⟨D1, _, rfl, .inl ⟨SqL.of e1, fun st nst => ?_⟩⟩
  have s2 := same_new (o := .tup (ss.map V.int)) nst
  have est : upd H1 st (.tup (ss.map V.int)) st = some (.tup (ss.map V.int)) := upd_same
  have fe2 := fe1.same s2
  have b2 : But fd H0 (upd H1 st (.tup (ss.map V.int))) := b1.trans (But.same s2)
  generalize upd H1 st (.tup (ss.map V.int)) = H2 at *
  -- some if some != () else ..
  refine ⟨_, rfl, by show 0 ≤ sizeLine; decide, fun et net => ?_⟩
  have s3 := same_new (o := .tup []) net
  have eet : upd H2 et (.tup []) et = some (.tup (([] : List Int).map V.int)) := upd_same
  have est3 := s3 _ _ est
  have fe3 := fe2.same s3
  have b3 : But fd H0 (upd H2 et (.tup [])) := b2.trans (But.same s3)
  generalize upd H2 et (.tup []) = H3 at *
  refine ⟨cd ss, cd [], dp_tupI est3, dp_tupI eet, shaped_cd _, shaped_cd _, _, rfl, ?_⟩
  refine ite2 (fun _ => ?gA) (fun _ => ?gB)
  case' gA =>
    refine ⟨_, rfl, ?_⟩
    have good : ∃ ss : List Int, H3 st = some (.tup (ss.map V.int)) ∧ (∀ s ∈ ss, InR so s) ∧ ss.length ≤ 10 ∧ FeedAt H3 fd (k + so + 1) ∧ But fd H0 H3 := ⟨ss, est3, hss, by omega, fe3.mono (by omega), b3⟩
    clear hss l1 est3 est eet e1 fe1 fe2 fe3 b1 b2 b3 s2 s3 nst net
    obtain ⟨H4, rfl⟩ : ∃ x, x = H3 := ⟨_, rfl⟩
    obtain ⟨st4, rfl⟩ : ∃ x, x = st := ⟨_, rfl⟩
  case' gB =>
    refine ⟨_, rfl, _, rfl, fd, so, _, rfl, fe3, by omega, by omega, by omega, fun H5 x b5 f5 x0 x1 => ⟨by show 1 ≤ sizeLine; decide, fun st4 nst4 => ?_⟩⟩
    have s5 := same_new (o := .tup [.int x]) nst4
    have good : ∃ ss : List Int, upd H5 st4 (.tup [.int x]) st4 = some (.tup (ss.map V.int)) ∧ (∀ s ∈ ss, InR so s) ∧ ss.length ≤ 10 ∧ FeedAt (upd H5 st4 (.tup [.int x])) fd (k + so + 1) ∧ But fd H0 (upd H5 st4 (.tup [.int x])) := ⟨[x], upd_same, fun s h => by rw [List.mem_singleton.mp h]; exact ⟨x0, x1⟩, by show 1 ≤ 10; omega, f5.same s5, (b3.trans b5).trans (But.same s5)⟩
    clear hss l1 est3 est eet e1 fe1 fe2 fe3 b1 b2 b3 s2 s3 nst net s5 nst4
    obtain ⟨H4, hH4⟩ : ∃ y, y = upd H5 st4 (.tup [.int x]) := ⟨_, rfl⟩
    rw [← hH4] at good ⊢
    clear hH4
  all_goals (
    obtain ⟨ss, es4, hss, lss, f4, b4⟩ := good
    -- way
    refine ⟨_, rfl, fd, 4, _, rfl, f4, by omega, by decide, by decide, fun H6 way b6 f6 w0 w1 => ?_⟩
    have es6 := b6 _ _ (f4.ne_tup es4) es4
    have b06 := b4.trans b6
    clear b4 b6 es4 f4
    refine ⟨_, rfl, rfl, _, rfl, ?_⟩
    refine ite2 (fun _ => ⟨_, rfl, _, _, rfl, rfl, _, rfl, ite2 (fun z => absurd (of_decide_eq_true z) (by show ¬ ((0 : Int) < 0); decide)) (fun _ => ?_)⟩) (fun _ => ?_)
    all_goals (
      refine ⟨_, rfl, rfl, _, rfl, ite2 (fun _ => ?_) (fun _ => ?_)⟩
      · -- more
        refine ⟨_, rfl, _, rfl, by omega, by omega, fun D7 nD7 => ?_⟩
        rw [hso]
        refine lc_feed (k + so + 1 + 1) 0 (fun i acc => ∃ ss : List Int, acc = ss.map V.int ∧ ∀ s ∈ ss, InR so s) (big _ (by omega)) nD7 f6 ⟨[], rfl, fun _ h => nomatch h⟩ ?_ (fun H8 acc b8 e8 f8 i8 l8 => ?_)
        · intro i H acc Kt Kf kt kf hi b fe ⟨ss', ea, hs⟩ la
          refine ⟨rfl, _, rfl, _, rfl, st4, _, rfl, .inr (SqT.of (b _ _ (f6.ne_tup es6) es6)), rfl, flat_ints _, _, rfl, ?_⟩
          refine ite2 (fun z => ⟨_, rfl, kt _ _ (But.refl _ _) fe ⟨ss' ++ [0 + (i : Int)], by rw [ea, List.map_append]; rfl, fun s hs' => ?_⟩⟩) (fun z => kf _ (But.refl _ _) fe ⟨ss', ea, hs⟩)
          rcases List.mem_append.mp hs' with h | h
          · exact hs s h
          · rw [List.mem_singleton.mp h]; exact ⟨by omega, by omega⟩
        obtain ⟨os, rfl, hos⟩ := i8
        rw [List.length_map] at l8
        rw [Nat.mul_zero, Nat.add_zero] at f8
        have es8 := b8 _ _ (f6.ne_tup es6) es6
        refine ⟨_, rfl, _, rfl, _, rfl, fd, 2, _, rfl, f8, by omega, by decide, by decide, fun H9 x b9 f9 x0 x1 => ⟨x, rfl, D7, _, rfl, SqL.of (b9 _ _ (f8.ne_lst' nD7 b8 f6 e8) e8), fun p np => ?_⟩⟩
        have hcut : ∃ o2 : List Int, cutV (os.map V.int) (some x) none = o2.map V.int ∧ (∀ s ∈ o2, s ∈ os) ∧ o2.length ≤ os.length := by
          refine ⟨(os.drop (HT.sIx (os.map V.int).length 0 (some x))).take (HT.sIx (os.map V.int).length (os.map V.int).length none - HT.sIx (os.map V.int).length 0 (some x)), ?_, fun s h => List.mem_of_mem_drop (List.mem_of_mem_take h), ?_⟩
          · unfold cutV; rw [List.map_take, List.map_drop]
          · rw [List.length_take, List.length_drop]; omega
        obtain ⟨o2, ecut, ho2, lo2⟩ := hcut
        rw [ecut]
        have s10 := same_new (o := .lst (o2.map V.int)) np
        refine ⟨p, _, rfl, .inl ⟨SqL.of upd_same, fun t2 nt2 => ⟨by show 3 ≤ sizeLine; decide, fun t3 nt3 => ?_⟩⟩⟩
        obtain ⟨n32, nt3'⟩ := upd_none nt3
        have s11 := same_new (o := .tup (o2.map V.int)) nt2
        have s12 := same_new (o := .tup [.str "more", .ref st4, .ref t2]) nt3
        have sA := (s10.trans s11).trans s12
        refine q _ (.ref t3) (.more ss o2) ((b06.trans b8).trans (b9.trans (But.same sA))) ((f9.mono (by omega)).same sA) ⟨t3, st4, t2, rfl, upd_same, sA _ _ (b9 _ _ (f8.ne_tup es8) es8), at_ne upd_same (Ne.symm n32)⟩ (Nat.zero_le _) ⟨hss, fun i hi => hos i (ho2 i hi), lss, by omega⟩
      · refine ⟨_, rfl, rfl, _, rfl, ite2 (fun _ => ?_) (fun _ => ?_)⟩
        · -- rest
          refine ⟨_, rfl, fd, 2, _, rfl, f6, by omega, by decide, by decide, fun H7 x b7 f7 x0 x1 => ⟨_, _, rfl, rfl, ?_⟩⟩
          have es7 := b7 _ _ (f6.ne_tup es6) es6
          refine ⟨_, rfl, _, rfl, _, rfl, _, rfl, fd, _, _, rfl, f7, by omega, by omega, by omega, fun H8 y b8 f8 y0 y1 => ⟨by show 4 ≤ sizeLine; decide, fun t3 nt3 => ?_⟩⟩
          have s12 := same_new (o := .tup [.str "rest", .ref st4, .int (2 + x), .int y]) nt3
          refine q _ (.ref t3) (.rest ss (2 + x) y) (b06.trans (b7.trans (b8.trans (But.same s12)))) ((f8.mono (by omega)).same s12) ⟨t3, st4, rfl, upd_same, s12 _ _ (b8 _ _ (f7.ne_tup es7) es7)⟩ (Nat.zero_le _) ⟨hss, lss, by omega, by omega, y0, y1⟩
        · -- least
          refine ⟨_, rfl, _, rfl, fd, 3, _, rfl, f6, by omega, by decide, by decide, fun H7 x b7 f7 x0 x1 => ⟨_, _, rfl, rfl, by show 3 ≤ sizeLine; decide, fun t3 nt3 => ?_⟩⟩
          have s12 := same_new (o := .tup [.str "least", .ref st4, .int (1 + x)]) nt3
          refine q _ (.ref t3) (.least ss (1 + x)) (b06.trans (b7.trans (But.same s12))) ((f7.mono (by omega)).same s12) ⟨t3, st4, rfl, upd_same, s12 _ _ (b7 _ _ (f6.ne_tup es6) es6)⟩ (Nat.zero_le _) ⟨hss, lss, by omega, by omega⟩))
theorem ok_law_question1 (T : Tx mg) (D : DefAt K mg "_law_question" s_law_question []) (C1 : Cal P w K mg base 1 "_law_draw" spDraw []) (C0 : Cal P w K mg base 2 "_law_question" (spQuest 0) []) : Cal P w K mg base 3 "_law_question" (spQuest 1) [] := by
  refine cal0 D sc_law_question (fun _ _ _ _ _ _ us hl => match us, hl with | [_, _, _], _ => rfl) (fun vs H Q E ⟨_, _, _, e, _⟩ => by rw [e]; rfl) fun f cdv A outer s H0 vs Q E hr hsp => ?_
  obtain ⟨fd, so, k, rfl, fe, hk, h1, h4, q⟩ := hsp
  have hu64 := hu64_of hr
  refine ⟨_, (pss_cons (ps_set (i := 3) sc_law_question.nd rfl (.inr rfl) (pe_callTy call_tuple_of (by rfl) T.tuple boot_tuple (pa_cons (pe_lc (own := [("_law_sort", 7)]) (g := (gName 7)) (tt := (tTest (tOp rEq (tCall spDraw [] E0 (tCons (tVar 0) (tCons (tC (.int 2)) tNil))) (tC (.int 0))))) (te := (tVar 7)) rfl sc_law_question.nd (pi_range1 (by rfl) T.range (pa_cons (pv 1) pa_nil)) (blkOk_by (N := ["_law_feed_here", "_law_sorts", "_law_deep", "_law_some", "_law_way", "_law_others", "_law_m", "_law_sort"]) (sc := defScope s_law_question) (by decide +kernel)) (fun _ _ _ _ _ => (pg_name (i := 7) sc_law_question.nd rfl (.inl rfl))) (fun _ _ _ _ _ => (pts_one (pt_cmpR op_eq (pe_c C1 hr (by omega) rfl (pa_cons (pv 0) (pa_cons pe_int pa_nil))) pe_int (nomark _)))) (fun _ _ _ _ _ => (pv 7))) pa_nil)))
    (pss_cons (ps_set (i := 3) sc_law_question.nd rfl (.inr rfl) (pe_ifExp (pt_cmpR (op_neD hu64) (pv 3) (pe_tup pa_nil) (nomark _)) (pv 3) (pe_tup (pa_cons (pe_c C1 hr (by omega) rfl (pa_cons (pv 0) (pa_cons (pv 1) pa_nil))) pa_nil))))
    (pss_cons (ps_set (i := 4) sc_law_question.nd rfl (.inl rfl) (pe_c C1 hr (by omega) rfl (pa_cons (pv 0) (pa_cons pe_int pa_nil))))
    (pss_cons (ps_if (PW.pt (pw_and (pt_cmpR op_eq (pv 4) pe_int (nomark _)) (pw_and1 (pt_cmpR op_gt (pv 2) pe_int (nomark _)))))
      (pss_one (ps_ret (pe_tup (pa_cons pe_str (pa_cons (pe_c C0 hr (by omega) rfl (pa_cons (pv 0) (pa_cons (pv 1) (pa_cons pe_int pa_nil)))) pa_nil))))) pss_nil)
    (pss_cons (ps_if (pt_cmpR op_eq (pv 4) pe_int (nomark _))
      (pss_cons (ps_setLc (i := 5) (own := [("_law_sort", 7)]) (g := (gName 7)) (tt := (tTest (tOp (rIn K true) (tVar 7) (tVar 3)))) (te := (tVar 7)) rfl sc_law_question.nd rfl rfl (sw_true rfl rfl rfl (by decide +kernel)) (pi_range1 (by rfl) T.range (pa_cons (pv 1) pa_nil)) (blkOk_by (N := ["_law_feed_here", "_law_sorts", "_law_deep", "_law_some", "_law_way", "_law_others", "_law_m", "_law_sort"]) (sc := defScope s_law_question) (by decide +kernel)) (fun _ _ _ _ _ => (pg_name (i := 7) sc_law_question.nd rfl (.inl rfl))) (fun _ _ _ _ _ => (pts_one (pt_cmpR op_notIn_seq (pv 7) (pv 3) (by rfl)))) (fun _ _ _ _ _ => (pv 7)))
      (pss_one (ps_ret (pe_tup (pa_cons pe_str (pa_cons (pv 3) (pa_cons (pe_callTy call_tuple_of (by rfl) T.tuple boot_tuple (pa_cons (pe_slice sl_list (pv 5) (po_some (pe_c C1 hr (by omega) rfl (pa_cons (pv 0) (pa_cons pe_int pa_nil)))) po_none) pa_nil)) pa_nil))))))) pss_nil)
    (pss_cons (ps_if (pt_cmpR op_eq (pv 4) pe_int (nomark _))
      (pss_cons (ps_set (i := 6) sc_law_question.nd rfl (.inl rfl) (pe_op op_add pe_int (pe_c C1 hr (by omega) rfl (pa_cons (pv 0) (pa_cons pe_int pa_nil)))))
      (pss_one (ps_ret (pe_tup (pa_cons pe_str (pa_cons (pv 3) (pa_cons (pv 6) (pa_cons (pe_c C1 hr (by omega) rfl (pa_cons (pv 0) (pa_cons (pv 6) pa_nil))) pa_nil)))))))) pss_nil)
    (pss_one (ps_ret (pe_tup (pa_cons pe_str (pa_cons (pv 3) (pa_cons (pe_op op_add pe_int (pe_c C1 hr (by omega) rfl (pa_cons (pv 0) (pa_cons pe_int pa_nil)))) pa_nil)))))))))))), ?_⟩
  -- some
  refine ⟨_, rfl, _, rfl, by omega, by omega, fun D1 nD1 => ?_⟩
  have hso : ((so : Int)).toNat = so := by omega
  rw [hso]
  refine lc_feed k 1 (fun i acc => ∃ ss : List Int, acc = ss.map V.int ∧ ∀ s ∈ ss, InR so s) (big _ (by omega)) nD1 fe ⟨[], rfl, fun _ h => nomatch h⟩ ?_ (fun H1 acc b1 e1 fe1 i1 l1 => ?_)
  · intro i H acc Kt Kf kt kf hi b fe ⟨ss, ea, hs⟩ la
    refine ⟨rfl, _, rfl, fd, 2, _, rfl, fe, by omega, by decide, by decide, fun H4 x b4 f4 x0 x1 => ⟨rfl, _, rfl, ?_⟩⟩
    have f4 : FeedAt H4 fd (k + (i + 1) * 1) := f4.mono (by omega)
    refine ite2 (fun z => ⟨_, rfl, kt _ _ b4 f4 ⟨ss ++ [0 + (i : Int)], by rw [ea, List.map_append]; rfl, fun s hs' => ?_⟩⟩) (fun z => kf _ b4 f4 ⟨ss, ea, hs⟩)
    rcases List.mem_append.mp hs' with h | h
    · exact hs s h
    · rw [List.mem_singleton.mp h]; exact ⟨by omega, by omega⟩
  obtain ⟨ss, rfl, hss⟩ := i1
  rw [List.length_map] at l1
  rw [Nat.mul_one] at fe1
  refine ⟨D1, _, rfl, .inl ⟨SqL.of e1, fun st nst => ?_⟩⟩
  have s2 := same_new (o := .tup (ss.map V.int)) nst
  have est : upd H1 st (.tup (ss.map V.int)) st = some (.tup (ss.map V.int)) := upd_same
  have fe2 := fe1.same s2
  have b2 : But fd H0 (upd H1 st (.tup (ss.map V.int))) := b1.trans (But.same s2)
  generalize upd H1 st (.tup (ss.map V.int)) = H2 at *
  -- some if some != () else ..
  refine ⟨_, rfl, by show 0 ≤ sizeLine; decide, fun et net => ?_⟩
  have s3 := same_new (o := .tup []) net
  have eet : upd H2 et (.tup []) et = some (.tup (([] : List Int).map V.int)) := upd_same
  have est3 := s3 _ _ est
  have fe3 := fe2.same s3
  have b3 : But fd H0 (upd H2 et (.tup [])) := b2.trans (But.same s3)
  generalize upd H2 et (.tup []) = H3 at *
  refine ⟨cd ss, cd [], dp_tupI est3, dp_tupI eet, shaped_cd _, shaped_cd _, _, rfl, ?_⟩
  refine ite2 (fun _ => ?gA) (fun _ => ?gB)
  case' gA =>
    refine ⟨_, rfl, ?_⟩
    have good : ∃ ss : List Int, H3 st = some (.tup (ss.map V.int)) ∧ (∀ s ∈ ss, InR so s) ∧ ss.length ≤ 10 ∧ FeedAt H3 fd (k + so + 1) ∧ But fd H0 H3 := ⟨ss, est3, hss, by omega, fe3.mono (by omega), b3⟩
    clear hss l1 est3 est eet e1 fe1 fe2 fe3 b1 b2 b3 s2 s3 nst net
    obtain ⟨H4, rfl⟩ : ∃ x, x = H3 := ⟨_, rfl⟩
    obtain ⟨st4, rfl⟩ : ∃ x, x = st := ⟨_, rfl⟩
  case' gB =>
    refine ⟨_, rfl, _, rfl, fd, so, _, rfl, fe3, by omega, by omega, by omega, fun H5 x b5 f5 x0 x1 => ⟨by show 1 ≤ sizeLine; decide, fun st4 nst4 => ?_⟩⟩
    have s5 := same_new (o := .tup [.int x]) nst4
    have good : ∃ ss : List Int, upd H5 st4 (.tup [.int x]) st4 = some (.tup (ss.map V.int)) ∧ (∀ s ∈ ss, InR so s) ∧ ss.length ≤ 10 ∧ FeedAt (upd H5 st4 (.tup [.int x])) fd (k + so + 1) ∧ But fd H0 (upd H5 st4 (.tup [.int x])) := ⟨[x], upd_same, fun s h => by rw [List.mem_singleton.mp h]; exact ⟨x0, x1⟩, by show 1 ≤ 10; omega, f5.same s5, (b3.trans b5).trans (But.same s5)⟩
    clear hss l1 est3 est eet e1 fe1 fe2 fe3 b1 b2 b3 s2 s3 nst net s5 nst4
    obtain ⟨H4, hH4⟩ : ∃ y, y = upd H5 st4 (.tup [.int x]) := ⟨_, rfl⟩
    rw [← hH4] at good ⊢
    clear hH4
  all_goals (
    obtain ⟨ss, es4, hss, lss, f4, b4⟩ := good
    -- way
    refine ⟨_, rfl, fd, 4, _, rfl, f4, by omega, by decide, by decide, fun H6 way b6 f6 w0 w1 => ?_⟩
    have es6 := b6 _ _ (f4.ne_tup es4) es4
    have b06 := b4.trans b6
    clear b4 b6 es4 f4
    refine ⟨_, rfl, rfl, _, rfl, ?_⟩
    refine ite2 (fun _ => ⟨_, rfl, _, _, rfl, rfl, _, rfl, ite2 (fun _ => ?_) (fun z => absurd (decide_eq_true (by show (0 : Int) < 1; decide)) z)⟩) (fun _ => ?_)
    · refine ⟨_, rfl, _, rfl, fd, so, _, rfl, f6, by omega, h1, h4, fun H7 v' q' b7 f7 hq hd hm => ⟨by show 2 ≤ sizeLine; decide, fun t3 nt3 => ?_⟩⟩
      have s12 := same_new (o := .tup [.str "not", v']) nt3
      refine q _ (.ref t3) (.not q') (b06.trans (b7.trans (But.same s12))) ((f7.mono (by omega)).same s12) ⟨t3, v', rfl, upd_same, hq.tk (Tk.same s12)⟩ (by show q'.depth + 1 ≤ 1; omega) hm
    all_goals (
      refine ⟨_, rfl, rfl, _, rfl, ite2 (fun _ => ?_) (fun _ => ?_)⟩
      · -- more
        refine ⟨_, rfl, _, rfl, by omega, by omega, fun D7 nD7 => ?_⟩
        rw [hso]
        refine lc_feed (k + so + 1 + 1) 0 (fun i acc => ∃ ss : List Int, acc = ss.map V.int ∧ ∀ s ∈ ss, InR so s) (big _ (by omega)) nD7 f6 ⟨[], rfl, fun _ h => nomatch h⟩ ?_ (fun H8 acc b8 e8 f8 i8 l8 => ?_)
        · intro i H acc Kt Kf kt kf hi b fe ⟨ss', ea, hs⟩ la
          refine ⟨rfl, _, rfl, _, rfl, st4, _, rfl, .inr (SqT.of (b _ _ (f6.ne_tup es6) es6)), rfl, flat_ints _, _, rfl, ?_⟩
          refine ite2 (fun z => ⟨_, rfl, kt _ _ (But.refl _ _) fe ⟨ss' ++ [0 + (i : Int)], by rw [ea, List.map_append]; rfl, fun s hs' => ?_⟩⟩) (fun z => kf _ (But.refl _ _) fe ⟨ss', ea, hs⟩)
          rcases List.mem_append.mp hs' with h | h
          · exact hs s h
          · rw [List.mem_singleton.mp h]; exact ⟨by omega, by omega⟩
        obtain ⟨os, rfl, hos⟩ := i8
        rw [List.length_map] at l8
        rw [Nat.mul_zero, Nat.add_zero] at f8
        have es8 := b8 _ _ (f6.ne_tup es6) es6
        refine ⟨_, rfl, _, rfl, _, rfl, fd, 2, _, rfl, f8, by omega, by decide, by decide, fun H9 x b9 f9 x0 x1 => ⟨x, rfl, D7, _, rfl, SqL.of (b9 _ _ (f8.ne_lst' nD7 b8 f6 e8) e8), fun p np => ?_⟩⟩
        have hcut : ∃ o2 : List Int, cutV (os.map V.int) (some x) none = o2.map V.int ∧ (∀ s ∈ o2, s ∈ os) ∧ o2.length ≤ os.length := by
          refine ⟨(os.drop (HT.sIx (os.map V.int).length 0 (some x))).take (HT.sIx (os.map V.int).length (os.map V.int).length none - HT.sIx (os.map V.int).length 0 (some x)), ?_, fun s h => List.mem_of_mem_drop (List.mem_of_mem_take h), ?_⟩
          · unfold cutV; rw [List.map_take, List.map_drop]
          · rw [List.length_take, List.length_drop]; omega
        obtain ⟨o2, ecut, ho2, lo2⟩ := hcut
        rw [ecut]
        have s10 := same_new (o := .lst (o2.map V.int)) np
        refine ⟨p, _, rfl, .inl ⟨SqL.of upd_same, fun t2 nt2 => ⟨by show 3 ≤ sizeLine; decide, fun t3 nt3 => ?_⟩⟩⟩
        obtain ⟨n32, nt3'⟩ := upd_none nt3
        have s11 := same_new (o := .tup (o2.map V.int)) nt2
        have s12 := same_new (o := .tup [.str "more", .ref st4, .ref t2]) nt3
        have sA := (s10.trans s11).trans s12
        refine q _ (.ref t3) (.more ss o2) ((b06.trans b8).trans (b9.trans (But.same sA))) ((f9.mono (by omega)).same sA) ⟨t3, st4, t2, rfl, upd_same, sA _ _ (b9 _ _ (f8.ne_tup es8) es8), at_ne upd_same (Ne.symm n32)⟩ (Nat.zero_le _) ⟨hss, fun i hi => hos i (ho2 i hi), lss, by omega⟩
      · refine ⟨_, rfl, rfl, _, rfl, ite2 (fun _ => ?_) (fun _ => ?_)⟩
        · -- rest
          refine ⟨_, rfl, fd, 2, _, rfl, f6, by omega, by decide, by decide, fun H7 x b7 f7 x0 x1 => ⟨_, _, rfl, rfl, ?_⟩⟩
          have es7 := b7 _ _ (f6.ne_tup es6) es6
          refine ⟨_, rfl, _, rfl, _, rfl, _, rfl, fd, _, _, rfl, f7, by omega, by omega, by omega, fun H8 y b8 f8 y0 y1 => ⟨by show 4 ≤ sizeLine; decide, fun t3 nt3 => ?_⟩⟩
          have s12 := same_new (o := .tup [.str "rest", .ref st4, .int (2 + x), .int y]) nt3
          refine q _ (.ref t3) (.rest ss (2 + x) y) (b06.trans (b7.trans (b8.trans (But.same s12)))) ((f8.mono (by omega)).same s12) ⟨t3, st4, rfl, upd_same, s12 _ _ (b8 _ _ (f7.ne_tup es7) es7)⟩ (Nat.zero_le _) ⟨hss, lss, by omega, by omega, y0, y1⟩
        · -- least
          refine ⟨_, rfl, _, rfl, fd, 3, _, rfl, f6, by omega, by decide, by decide, fun H7 x b7 f7 x0 x1 => ⟨_, _, rfl, rfl, by show 3 ≤ sizeLine; decide, fun t3 nt3 => ?_⟩⟩
          have s12 := same_new (o := .tup [.str "least", .ref st4, .int (1 + x)]) nt3
          refine q _ (.ref t3) (.least ss (1 + x)) (b06.trans (b7.trans (But.same s12))) ((f7.mono (by omega)).same s12) ⟨t3, st4, rfl, upd_same, s12 _ _ (b7 _ _ (f6.ne_tup es6) es6)⟩ (Nat.zero_le _) ⟨hss, lss, by omega, by omega⟩))
end
end Pb
set_option Elab.async false
set_option linter.all false
set_option maxRecDepth 100000
set_option maxHeartbeats 4000000
namespace Pb
open PySem PySem.Spec PyProof.Rows L2
open C8 (Cal pe_c)
section
variable {P : Program} {w : World} {K : PySem.W.Frag} {mg : Str → Option Value} {base : Heap}
/-! ### _law_rule -/
theorem sc_law_rule : FnScope ["_law_feed_here", "_law_most", "_law_rooms", "_law_sorts", "_law_starts", "_law_says", "_law_often", "_law_meets", "_law_a", "_law_b", "_law_c", "_law_d", "_law_sort", "_law_room"] ["_law_feed_here", "_law_most"] (defScope s_law_rule) := ⟨rfl, rfl, rfl, by decide +kernel, rfl, by decide +kernel, by decide +kernel⟩
def spRule : Sp := fun vs H Q _ => ∃ (f : Addr) (k : Nat), vs = [.ref f, .int 4] ∧ FeedAt H f k ∧ k + 100 ≤ 1000 ∧ ∀ H' v r, But f H H' → FeedAt H' f (k + 100) → RlAt H' v r → RlOk r → Q v H'
theorem five {x : Int} (h0 : 0 ≤ x) (h1 : x < 5) : ∃ so : Nat, atI [V.int 1, .int 2, .int 2, .int 3, .int 4] x = some (.int so) ∧ 1 ≤ so ∧ so ≤ 4 := by
  have : x = 0 ∨ x = 1 ∨ x = 2 ∨ x = 3 ∨ x = 4 := by omega
  rcases this with rfl | rfl | rfl | rfl | rfl
  · exact ⟨1, atI_nat (j := 0) rfl, by decide, by decide⟩
  · exact ⟨2, atI_nat (j := 1) rfl, by decide, by decide⟩
  · exact ⟨2, atI_nat (j := 2) rfl, by decide, by decide⟩
  · exact ⟨3, atI_nat (j := 3) rfl, by decide, by decide⟩
  · exact ⟨4, atI_nat (j := 4) rfl, by decide, by decide⟩
theorem dp_lstI {H : Hp} {a : Addr} {ns : List Int} (e : H a = some (.lst (ns.map V.int))) : Dp K H (.ref a) (.list (ns.map .int)) := .lst (SqL.of e) (dpAll_ints K H ns)
theorem ok_law_rule (T : Tx mg) (D : DefAt K mg "_law_rule" s_law_rule []) (C1 : Cal P w K mg base 1 "_law_draw" spDraw []) : Cal P w K mg base 2 "_law_rule" spRule [] := by
  refine cal0 D sc_law_rule (fun _ _ _ _ _ _ us hl => match us, hl with | [_, _], _ => rfl) (fun vs H Q E ⟨_, _, e, _⟩ => by rw [e]; rfl) fun f cdv A outer s H0 vs Q E hr hsp => ?_
  obtain ⟨fd, k, rfl, fe, hk, q⟩ := hsp
  have hu64 := hu64_of hr
  refine ⟨_, (pss_cons (ps_set (i := 2) sc_law_rule.nd rfl (.inr rfl) (pe_op op_add pe_int (pe_c C1 hr (by omega) rfl (pa_cons (pv 0) (pa_cons (pv 1) pa_nil)))))
    (pss_cons (ps_set (i := 3) sc_law_rule.nd rfl (.inl rfl) (pe_ix ix_list (pe_lst (pa_cons pe_int (pa_cons pe_int (pa_cons pe_int (pa_cons pe_int (pa_cons pe_int pa_nil)))))) (pe_c C1 hr (by omega) rfl (pa_cons (pv 0) (pa_cons pe_int pa_nil))) (fun _ _ => rfl)))
    (pss_cons (ps_set (i := 4) sc_law_rule.nd rfl (.inl rfl) (pe_callTy call_tuple_of (by rfl) T.tuple boot_tuple (pa_cons (pe_lc (own := [("_law_sort", 12)]) (g := (gName 12)) (tt := tYes) (te := (tCall spDraw [] E0 (tCons (tVar 0) (tCons (tVar 2) tNil)))) rfl sc_law_rule.nd (pi_range1 (by rfl) T.range (pa_cons (pv 3) pa_nil)) (blkOk_by (N := ["_law_feed_here", "_law_most", "_law_rooms", "_law_sorts", "_law_starts", "_law_says", "_law_often", "_law_meets", "_law_a", "_law_b", "_law_c", "_law_d", "_law_sort", "_law_room"]) (sc := defScope s_law_rule) (by decide +kernel)) (fun _ _ _ _ _ => (pg_name (i := 12) sc_law_rule.nd rfl (.inl rfl))) (fun _ _ _ _ _ => pts_nil) (fun _ _ _ _ _ => (pe_c C1 hr (by omega) rfl (pa_cons (pv 0) (pa_cons (pv 2) pa_nil))))) pa_nil)))
    (pss_cons (ps_set (i := 5) sc_law_rule.nd rfl (.inl rfl) (pe_callTy call_tuple_of (by rfl) T.tuple boot_tuple (pa_cons (pe_lc (own := [("_law_room", 13)]) (g := (gName 13)) (tt := tYes) (te := (tOp rEq (tCall spDraw [] E0 (tCons (tVar 0) (tCons (tC (.int 2)) tNil))) (tC (.int 1)))) rfl sc_law_rule.nd (pi_range1 (by rfl) T.range (pa_cons (pv 2) pa_nil)) (blkOk_by (N := ["_law_feed_here", "_law_most", "_law_rooms", "_law_sorts", "_law_starts", "_law_says", "_law_often", "_law_meets", "_law_a", "_law_b", "_law_c", "_law_d", "_law_sort", "_law_room"]) (sc := defScope s_law_rule) (by decide +kernel)) (fun _ _ _ _ _ => (pg_name (i := 13) sc_law_rule.nd rfl (.inl rfl))) (fun _ _ _ _ _ => pts_nil) (fun _ _ _ _ _ => (pe_cmpR op_eq (pe_c C1 hr (by omega) rfl (pa_cons (pv 0) (pa_cons pe_int pa_nil))) pe_int (nomark _)))) pa_nil)))
    (pss_cons (ps_set (i := 6) sc_law_rule.nd rfl (.inl rfl) (pe_op op_add pe_int (pe_c C1 hr (by omega) rfl (pa_cons (pv 0) (pa_cons pe_int pa_nil)))))
    (pss_cons (ps_set (i := 7) sc_law_rule.nd rfl (.inl rfl) (pe_lst pa_nil))
    (pss_cons (ps_for PassesOwn.never rfl (pi_range1 (by rfl) T.range (pa_cons (pv 2) pa_nil)) (pg_name (i := 8) sc_law_rule.nd rfl (.inl rfl))
      (pss_one (ps_for PassesOwn.never rfl (pi_range2 (by rfl) T.range (pa_cons (pv 8) (pa_cons (pv 2) pa_nil))) (pg_name (i := 9) sc_law_rule.nd rfl (.inl rfl))
        (pss_cons (ps_set (i := 10) sc_law_rule.nd rfl (.inl rfl) (pe_c C1 hr (by omega) rfl (pa_cons (pv 0) (pa_cons (pv 2) pa_nil))))
        (pss_cons (ps_set (i := 11) sc_law_rule.nd rfl (.inl rfl) (pe_c C1 hr (by omega) rfl (pa_cons (pv 0) (pa_cons (pv 2) pa_nil))))
        (pss_one (ps_if (PW.pt (pw_and (pt_cmpR op_eq (pe_c C1 hr (by omega) rfl (pa_cons (pv 0) (pa_cons (pv 6) pa_nil))) pe_int (nomark _)) (pw_and1 (pt_cmpR (op_neD hu64) (pe_callB cr_sortedI (by rfl) T.sorted boot_sorted (pa_cons (pe_lst (pa_cons (pv 10) (pa_cons (pv 11) pa_nil))) pa_nil)) (pe_lst (pa_cons (pv 8) (pa_cons (pv 9) pa_nil))) (nomark _)))))
          (pss_one (ps_expr (pe_bm PySem.F.plainAttrs_list PySem.F.slot_list_append PySem.F.type_list_append mt_append (pv 7) (pa_cons (pe_tup (pa_cons (pv 8) (pa_cons (pv 9) (pa_cons (pv 10) (pa_cons (pv 11) pa_nil))))) pa_nil)))) pss_nil)))))))
    (pss_one (ps_ret (pe_tup (pa_cons (pv 2) (pa_cons (pv 4) (pa_cons (pe_callTy call_tuple_of (by rfl) T.tuple boot_tuple (pa_cons (pv 7) pa_nil)) (pa_cons (pv 5) pa_nil)))))))))))))), ?_⟩
  -- rooms
  refine ⟨_, rfl, _, rfl, fd, 4, _, rfl, fe, by omega, by decide, by decide, fun H1 x b1 f1 x0 x1 => ⟨_, _, rfl, rfl, ?_⟩⟩
  obtain ⟨rooms, hrooms, hr1, hr4⟩ : ∃ n : Nat, 1 + x = (n : Int) ∧ 1 ≤ n ∧ n ≤ 4 := ⟨(1 + x).toNat, by omega, by omega, by omega⟩
  show gName 2 (V.int (1 + x)) _ _ _
  rw [hrooms]
  -- sorts
  refine ⟨by show 5 ≤ sizeLine; decide, fun p np => ?_⟩
  have s2 := same_new (o := .lst [.int 1, .int 2, .int 2, .int 3, .int 4]) np
  refine ⟨_, rfl, fd, 5, _, rfl, f1.same s2, by omega, by decide, by decide, fun H3 y b3 f3 y0 y1 => ?_⟩
  obtain ⟨so, hat, hso1, hso4⟩ := five y0 y1
  have fp : p ≠ fd := Ne.symm (f1.ne np)
  refine ⟨p, _, y, _, rfl, rfl, SqL.of (b3 _ _ fp upd_same), hat, ?_⟩
  have b03 : But fd H0 H3 := b1.trans ((But.same s2).trans b3)
  clear b1 s2 b3 f1 fe
  -- starts
  refine ⟨_, rfl, _, rfl, by omega, by omega, fun D4 nD4 => ?_⟩
  have hsoT : ((so : Int)).toNat = so := by omega
  rw [hsoT]
  refine lc_feed _ 1 (fun i acc => ∃ ss : List Int, acc = ss.map V.int ∧ (∀ s ∈ ss, InR rooms s) ∧ ss.length = i) (big _ (by omega)) nD4 f3 ⟨[], rfl, (fun _ h => nomatch h), rfl⟩ ?_ (fun H4 acc b4 e4 f4 i4 l4 => ?_)
  · intro i H acc Kt Kf kt kf hi b fe ⟨ss, ea, hs, hl⟩ la
    refine ⟨rfl, iteT (B := Kf H) ⟨_, rfl, _, rfl, fd, rooms, _, rfl, fe, by omega, by omega, by omega, fun H5 z b5 f5 z0 z1 => kt _ _ b5 (f5.mono (by omega)) ⟨ss ++ [z], by rw [ea, List.map_append]; rfl, fun s h => ?_, by rw [List.length_append, hl]; rfl⟩⟩⟩
    rcases List.mem_append.mp h with h | h
    · exact hs s h
    · rw [List.mem_singleton.mp h]; exact ⟨z0, z1⟩
  obtain ⟨ss, rfl, hss, hsl⟩ := i4
  refine ⟨D4, _, rfl, .inl ⟨SqL.of e4, fun st nst => ?_⟩⟩
  have s5 := same_new (o := .tup (ss.map V.int)) nst
  have est : upd H4 st (.tup (ss.map V.int)) st = some (.tup (ss.map V.int)) := upd_same
  have f5 := f4.same s5
  have b05 := b03.trans (b4.trans (But.same s5))
  generalize upd H4 st (.tup (ss.map V.int)) = H5 at *
  clear b03 b4 s5 f4 f3 nst e4
  -- says
  refine ⟨_, rfl, _, rfl, by omega, by omega, fun D6 nD6 => ?_⟩
  have hroT : ((rooms : Int)).toNat = rooms := by omega
  rw [hroT]
  refine lc_feed _ 1 (fun i acc => ∃ bs : List Bool, acc = bs.map V.bl ∧ bs.length = i) (big _ (by omega)) nD6 f5 ⟨[], rfl, rfl⟩ ?_ (fun H6 acc b6 e6 f6 i6 l6 => ?_)
  · intro i H acc Kt Kf kt kf hi b fe ⟨bs, ea, hl⟩ la
    exact ⟨rfl, iteT (B := Kf H) ⟨_, rfl, fd, 2, _, rfl, fe, by omega, by decide, by decide, fun H5 z b5 f5 z0 z1 => ⟨rfl, kt _ _ b5 (f5.mono (by omega)) ⟨bs ++ [decide (V.int z = V.int 1)], by rw [ea, List.map_append]; rfl, by rw [List.length_append, hl]; rfl⟩⟩⟩⟩
  obtain ⟨bs, rfl, hbl⟩ := i6
  have est6 := b6 _ _ (f5.ne_tup est) est
  refine ⟨D6, _, rfl, .inl ⟨SqL.of e6, fun sy nsy => ?_⟩⟩
  have s7 := same_new (o := .tup (bs.map V.bl)) nsy
  have esy : upd H6 sy (.tup (bs.map V.bl)) sy = some (.tup (bs.map V.bl)) := upd_same
  have est7 := s7 _ _ est6
  have f7 := f6.same s7
  have b07 := b05.trans (b6.trans (But.same s7))
  generalize upd H6 sy (.tup (bs.map V.bl)) = H7 at *
  clear b05 b6 s7 f6 f5 nsy e6 est est6
  -- often
  refine ⟨_, rfl, fd, 3, _, rfl, f7, by omega, by decide, by decide, fun H8 z b8 f8 z0 z1 => ⟨_, _, rfl, rfl, ?_⟩⟩
  have est8 := b8 _ _ (f7.ne_tup est7) est7
  have esy8 := b8 _ _ (f7.ne_tup esy) esy
  have b08 := b07.trans b8
  clear b07 b8 f7 est7 esy
  -- meets
  refine ⟨by show 0 ≤ sizeLine; decide, fun mn nmn => ?_⟩
  have s9 := same_new (o := .lst []) nmn
  have emn : upd H8 mn (.lst []) mn = some (.lst []) := upd_same
  have f9 := f8.same s9
  have est9 := s9 _ _ est8
  have esy9 := s9 _ _ esy8
  have b09 := b08.trans (But.same s9)
  have mnf : mn ≠ fd := Ne.symm (f8.ne nmn)
  have nmn0 : H0 mn = none := by
    cases ez : H0 mn with
    | none => rfl
    | some o => rw [b08 _ _ mnf ez] at nmn; cases nmn
  generalize upd H8 mn (.lst []) = H9 at *
  clear b08 s9 f8 est8 esy8 nmn
  refine ⟨_, rfl, _, rfl, by omega, by omega, ?_⟩
  rw [hroT]
  refine for_it (walk_range (lo := 0) (n := rooms)) (fun i σ H' => ∃ (ms : List Mt) (vs : List V) (y8 y9 y10 y11 : Option V), σ = [some (.ref fd), some (.int 4), some (.int rooms), some (.int so), some (.ref st), some (.ref sy), some (.int (1 + z)), some (.ref mn), y8, y9, y10, y11] ++ [none, none] ∧ But fd H0 H' ∧ FeedAt H' fd (k + 20 + 12 * i) ∧ H' st = some (.tup (ss.map V.int)) ∧ H' sy = some (.tup (bs.map V.bl)) ∧ H' mn = some (.lst vs) ∧
      Paired (MtAt H') vs ms ∧ (∀ m ∈ ms, InR rooms m.1 ∧ InR rooms m.2.1 ∧ InR rooms m.2.2.1 ∧ InR rooms m.2.2.2) ∧ ms.length ≤ 4 * i)
    ⟨[], [], none, none, none, none, rfl, b09, f9.mono (by omega), est9, esy9, emn, .nil, (fun m h => nomatch h), Nat.zero_le _⟩ (fun _ _ _ _ _ => trivial) ?_ ?_
  · rintro i xx σ H10 H11 hi ⟨ms, vs, y8, y9, y10, y11, rfl, b10, f10, est10, esy10, emn10, pm10, hm10, hl10⟩ ⟨rfl, rfl⟩
    have hin : (rooms : Int) - (0 + (i : Int)) = ((rooms - i : Nat) : Int) := by omega
    refine ⟨_, rfl, _, rfl, _, _, rfl, ⟨by omega, by omega, by omega, by omega⟩, ?_⟩
    rw [hin, Int.toNat_natCast]
    refine for_it (walk_range (lo := 0 + (i : Int)) (n := rooms - i)) (fun j σ H' => ∃ (ms : List Mt) (vs : List V) (y9 y10 y11 : Option V), σ = [some (.ref fd), some (.int 4), some (.int rooms), some (.int so), some (.ref st), some (.ref sy), some (.int (1 + z)), some (.ref mn), some (.int (0 + (i : Int))), y9, y10, y11] ++ [none, none] ∧ But fd H0 H' ∧ FeedAt H' fd (k + 20 + 12 * i + 3 * j) ∧ H' st = some (.tup (ss.map V.int)) ∧ H' sy = some (.tup (bs.map V.bl)) ∧ H' mn = some (.lst vs) ∧
        Paired (MtAt H') vs ms ∧ (∀ m ∈ ms, InR rooms m.1 ∧ InR rooms m.2.1 ∧ InR rooms m.2.2.1 ∧ InR rooms m.2.2.2) ∧ ms.length ≤ 4 * i + j)
      ⟨ms, vs, y9, y10, y11, rfl, b10, f10, est10, esy10, emn10, pm10, hm10, hl10⟩ (fun _ _ _ _ _ => trivial) ?_ ?_
    · rintro j xx σ H12 H13 hj ⟨ms, vs, y9, y10, y11, rfl, b12, f12, est12, esy12, emn12, pm12, hm12, hl12⟩ ⟨rfl, rfl⟩
      refine ⟨_, rfl, _, rfl, fd, rooms, _, rfl, f12, by omega, by omega, by omega, fun H14 c b14 f14 c0 c1 => ?_⟩
      refine ⟨_, rfl, _, rfl, fd, rooms, _, rfl, f14, by omega, by omega, by omega, fun H15 d b15 f15 d0 d1 => ?_⟩
      have b1215 := b14.trans b15
      have t15 := f12.tk b1215
      have est15 := t15 _ _ est12
      have esy15 := t15 _ _ esy12
      have emn15 := b1215 _ _ mnf emn12
      have pm15 : Paired (MtAt H15) vs ms := pm12.mono fun _ _ h => h.tk t15
      -- the test
      refine ⟨_, rfl, _, rfl, fd, _, _, rfl, f15, by omega, by omega, by omega, fun H16 e b16 f16 e0 e1 => ⟨rfl, _, rfl, ?_⟩⟩
      have t16 := f15.tk b16
      have est16 := t16 _ _ est15
      have esy16 := t16 _ _ esy15
      have emn16 := b16 _ _ mnf emn15
      have pm16 : Paired (MtAt H16) vs ms := pm15.mono fun _ _ h => h.tk t16
      have b016 := b12.trans (b1215.trans b16)
      refine ite2 (fun _ => ?_) (fun _ => ?_)
      · refine ⟨_, rfl, _, rfl, by show 2 ≤ sizeLine; decide, fun p1 np1 => ?_⟩
        refine ⟨p1, [c, d], rfl, SqL.of upd_same, fun ns' p2 _ _ np2 => ?_⟩
        refine ⟨_, rfl, _, rfl, by show 2 ≤ sizeLine; decide, fun p3 np3 => ?_⟩
        obtain ⟨n32, np3'⟩ := upd_none np3
        have s17 := same_new (o := .lst [.int c, .int d]) np1
        have s18 := same_new (o := .lst (ns'.map V.int)) np2
        have s19 := same_new (o := .lst [.int (0 + (i : Int)), .int (0 + (i : Int) + (j : Int))]) np3
        have sA := s17.trans (s18.trans s19)
        refine ⟨.list (ns'.map .int), .list (([0 + (i : Int), 0 + (i : Int) + (j : Int)] : List Int).map .int), dp_lstI (at_ne upd_same (Ne.symm n32)), dp_lstI upd_same, PySem.W.shaped_ints _, PySem.W.shaped_ints _, _, rfl, ?_⟩
        have est17 := sA _ _ est16
        have esy17 := sA _ _ esy16
        have emn17 := sA _ _ emn16
        have pm17 := pm16.mono fun _ _ h => MtAt.tk (Tk.same sA) h
        have f17 := f16.same sA
        have b017 := b016.trans (But.same sA)
        generalize upd (upd (upd H16 p1 _) p2 _) p3 _ = H17 at *
        refine ite2 (fun _ => ?_) (fun _ => ?_)
        · refine ⟨_, rfl, .inl ⟨rfl, _, SqL.of emn17⟩, _, rfl, _, rfl, _, rfl, _, rfl, by show 4 ≤ sizeLine; decide, fun p4 np4 => ?_⟩
          have s20 := same_new (o := .tup [.int (0 + (i : Int)), .int (0 + (i : Int) + (j : Int)), .int c, .int d]) np4
          have emn18 := s20 _ _ emn17
          refine ⟨mn, vs, _, rfl, rfl, emn18, small1000 (by rw [Paired.length pm17]; omega), ?_⟩
          have kk := Tk.mutL (o := .lst (vs ++ [.ref p4])) emn18
          refine ⟨ms ++ [(0 + (i : Int), 0 + (i : Int) + (j : Int), c, d)], vs ++ [.ref p4], _, _, _, rfl, (b017.trans (But.same s20)).put nmn0, ((f17.mono (by omega)).same s20).at_ne (Ne.symm mnf), kk _ _ (s20 _ _ est17), kk _ _ (s20 _ _ esy17), upd_same, ?_, fun m hm => ?_, by rw [List.length_append]; show _ + 1 ≤ _; omega⟩
          · exact (pm17.mono fun _ _ h => MtAt.tk ((Tk.same s20).trans kk) h).snoc ⟨p4, rfl, kk _ _ upd_same⟩
          · rcases List.mem_append.mp hm with h | h
            · exact hm12 m h
            · rw [List.mem_singleton.mp h]
              exact ⟨⟨by show (0 : Int) ≤ 0 + (i : Int); omega, by show 0 + (i : Int) < rooms; omega⟩, ⟨by show (0 : Int) ≤ 0 + (i : Int) + (j : Int); omega, by show 0 + (i : Int) + (j : Int) < rooms; omega⟩, ⟨c0, c1⟩, ⟨d0, d1⟩⟩
        · exact ⟨ms, vs, _, _, _, rfl, b017, f17.mono (by omega), est17, esy17, emn17, pm17, hm12, by omega⟩
      · exact ⟨ms, vs, _, _, _, rfl, b016, f16.mono (by omega), est16, esy16, emn16, pm16, hm12, by omega⟩
    · rintro σ H12 ⟨ms, vs, y9, y10, y11, rfl, b12, f12, est12, esy12, emn12, pm12, hm12, hl12⟩
      exact ⟨ms, vs, _, _, _, _, rfl, b12, f12.mono (by omega), est12, esy12, emn12, pm12, hm12, by omega⟩
  · rintro σ H10 ⟨ms, vs, y8, y9, y10, y11, rfl, b10, f10, est10, esy10, emn10, pm10, hm10, hl10⟩
    refine ⟨_, rfl, _, rfl, _, rfl, mn, _, rfl, .inl ⟨SqL.of emn10, fun mt nmt => ⟨_, rfl, by show 4 ≤ sizeLine; decide, fun t nt => ?_⟩⟩⟩
    obtain ⟨ntm, nt'⟩ := upd_none nt
    have s11 := same_new (o := .tup vs) nmt
    have s12 := same_new (o := .tup [.int rooms, .ref st, .ref mt, .ref sy]) nt
    have sA := s11.trans s12
    refine q _ (.ref t) ⟨rooms, ss, ms, bs⟩ (b10.trans (But.same sA)) ((f10.mono (by omega)).same sA) ⟨t, st, mt, sy, vs, rfl, upd_same, sA _ _ est10, at_ne upd_same (Ne.symm ntm), pm10.mono fun _ _ h => MtAt.tk (Tk.same sA) h, sA _ _ esy10⟩ ⟨hr1, by show rooms ≤ 5; omega, hss, by show 1 ≤ ss.length; omega, by show ss.length ≤ 4; omega, hm10, by show ms.length ≤ 100; omega, hbl⟩
end
end Pb
set_option Elab.async false
set_option linter.all false
set_option maxRecDepth 100000
set_option maxHeartbeats 4000000
namespace Pb
open PySem PySem.Spec PyProof.Rows L2
open C8 (Cal pe_c)
section
variable {P : Program} {w : World} {K : PySem.W.Frag} {mg : Str → Option Value} {base : Heap}
theorem lc_rng {lo : Int} {n : Nat} {g : TG} {tt : TT} {te : TE} {vs : List Nat} {σ : L2.St} {H1 : Hp} {D : Addr} {Qd : Hp → Prop} (I : Nat → List V → Prop) (hz : n < sizeLine) (hD : H1 D = none) (h0 : I 0 [])
    (hs : ∀ i H acc (Kt : V → Hp → Prop) (Kf : Hp → Prop), (∀ y H4, Same H H4 → I (i + 1) (acc ++ [y]) → Kt y H4) → (∀ H3, Same H H3 → I (i + 1) acc → Kf H3) → i < n → Same H1 H → I i acc →
      g (.int (lo + i)) (wipe σ vs) H fun σ2 H2 => wipe σ2 vs = wipe σ vs ∧ tt σ2 H2 fun b H3 => if b = true then te σ2 H3 Kt else Kf H3)
    (hd : ∀ H acc, Same H1 H → H D = some (.lst acc) → I n acc → Qd H) :
    ∃ W : Nat → Nat → Hp → Prop, (∃ m, W 0 m (upd H1 D (.lst []))) ∧ ∀ i m H, W i m H →
      ((Itr lo n).stop i H ∧ Qd H) ∨ ((Itr lo n).go i H ∧ ∃ Nx : Hp → Prop, (∀ H', Nx H' → ∃ m', m' < m ∧ W (i + 1) m' H') ∧ ∀ x H', (Itr lo n).yld i H x H' → g x (wipe σ vs) H' fun σ2 H2 => wipe σ2 vs = wipe σ vs ∧ tt σ2 H2 fun b H3 =>
        if b = true then te σ2 H3 fun y H4 => ∃ acc, H4 D = some (.lst acc) ∧ acc.length < sizeLine ∧ Nx (upd H4 D (.lst (acc ++ [y]))) else Nx H3) := by
  refine lc_inv walk_range (fun i _ acc => I i acc) hz hD (fun _ _ => trivial) h0 (fun _ _ _ _ _ _ _ _ h => h) ?_ (fun H acc s e i => hd H acc s e i)
  rintro i x H H' acc Kt Kf kt kf hi s e ia ⟨rfl, rfl⟩
  exact hs i _ acc Kt Kf kt kf hi s ia
def rInt1 : List V → Hp → VK → Prop := fun xs H Q => (∃ i, xs = [.int i] ∧ Q (.int i) H) ∨ ∃ k, xs = [.bl k] ∧ Q (.int (if k then 1 else 0)) H
theorem call_int1n {X : Cx} : CallR X (.type "int") rInt1 := call_int1
def rRepr : List V → Hp → VK → Prop := fun xs H Q => ∃ x z, xs = [x] ∧ repT x = some z ∧ Q (.str z) H
theorem call_repr_trin {X : Cx} : CallR X (.builtin "repr") rRepr := call_repr_tri
/-! ### _law_made -/
theorem four_mt : ∀ m ∈ ([(0, 1, 2, 3), (0, 3, 0, 2), (1, 2, 1, 3), (2, 3, 3, 3)] : List Mt), InR 4 m.1 ∧ InR 4 m.2.1 ∧ InR 4 m.2.2.1 ∧ InR 4 m.2.2.2 := by
  intro m hm
  have : m = (0, 1, 2, 3) ∨ m = (0, 3, 0, 2) ∨ m = (1, 2, 1, 3) ∨ m = (2, 3, 3, 3) := by simpa using hm
  rcases this with rfl | rfl | rfl | rfl <;> exact ⟨⟨by decide, by decide⟩, ⟨by decide, by decide⟩, ⟨by decide, by decide⟩, ⟨by decide, by decide⟩⟩
theorem bi01 (b : Bool) (n : Nat) (h : 2 ≤ n) : InR n (if b = true then 1 else 0) := by cases b <;> exact ⟨by decide, by show (_ : Int) < _; simp; omega⟩
theorem sc_law_made : FnScope ["_law_sorts", "_law_question_here", "_law_some", "_law_meets", "_law_starts", "_law_m", "_law_r", "_law_a", "_law_those", "_law_sides", "_law_n", "_law_b", "_law_sort", "_law_room"] ["_law_sorts", "_law_question_here"] (defScope s_law_made) := ⟨rfl, rfl, rfl, by decide +kernel, rfl, by decide +kernel, by decide +kernel⟩
def spMade : Sp := fun vs H Q _ => ∃ (so : Nat) (v : V) (q : Qn), vs = [.int so, v] ∧ QnAt H v q ∧ QnMk so q ∧ q.depth = 0 ∧ 1 ≤ so ∧ so ≤ 4 ∧ ∀ H' u r, Same H H' → RlAt H' u r → RlOk r → r.starts.length = so → Q u H'
theorem ok_law_made (T : Tx mg) (D : DefAt K mg "_law_made" s_law_made []) : Cal P w K mg base 1 "_law_made" spMade [] := by
  refine cal0 D sc_law_made (fun _ _ _ _ _ _ us hl => match us, hl with | [_, _], _ => rfl) (fun vs H Q E ⟨_, _, _, e, _⟩ => by rw [e]; rfl) fun f cdv A outer s H0 vs Q E hr hsp => ?_
  obtain ⟨so, _, q, rfl, hq, hm, hd, h1, h4, k⟩ := hsp
  refine ⟨_, (pss_cons (ps_set (i := 2) sc_law_made.nd rfl (.inr rfl) (pe_ix ix_tup (pv 1) pe_int (fun _ _ => rfl)))
    (pss_cons (ps_set (i := 3) sc_law_made.nd rfl (.inl rfl) (pe_lst pa_nil))
    (pss_cons (ps_if (pt_cmpR op_eq (pe_ix ix_tup (pv 1) pe_int (fun _ _ => rfl)) pe_str (nomark _))
      (pss_cons (ps_set (i := 8) sc_law_made.nd rfl (.inr rfl) (pe_ix ix_tup (pv 1) pe_int (fun _ _ => rfl)))
      (pss_cons (ps_setLc (i := 9) (own := [("_law_sort", 12)]) (g := (gName 12)) (tt := tYes) (te := (tIf (tTest (tOp (rIn K false) (tVar 12) (tVar 2))) (tC (.int 0)) (tOp (rI0 fun i j => .int (i + j)) (tC (.int 1)) (tOp (rI CMul fun i j => .int (i * j)) (tC (.int 2)) (tCB rInt1 (tCons (tOp (rIn K true) (tVar 12) (tVar 8)) tNil)))))) rfl sc_law_made.nd rfl rfl (sw_true rfl rfl rfl (by decide +kernel)) (pi_range1 (by rfl) T.range (pa_cons (pv 0) pa_nil)) (blkOk_by (N := ["_law_sorts", "_law_question_here", "_law_some", "_law_meets", "_law_starts", "_law_m", "_law_r", "_law_a", "_law_those", "_law_sides", "_law_n", "_law_b", "_law_sort", "_law_room"]) (sc := defScope s_law_made) (by decide +kernel)) (fun _ _ _ _ _ => (pg_name (i := 12) sc_law_made.nd rfl (.inl rfl))) (fun _ _ _ _ _ => pts_nil) (fun _ _ _ _ _ => (pe_ifExp (pt_cmpR op_in_seq (pv 12) (pv 2) (by rfl)) pe_int (pe_op op_add pe_int (pe_op op_mul pe_int (pe_callTy call_int1n (by rfl) T.int boot_int (pa_cons (pe_cmpR op_notIn_seq (pv 12) (pv 8) (by rfl)) pa_nil)))))))
      (pss_cons (ps_set (i := 3) sc_law_made.nd rfl (.inl rfl) (pe_tup (pa_cons (pe_tup (pa_cons pe_int (pa_cons pe_int (pa_cons pe_int (pa_cons pe_int pa_nil))))) (pa_cons (pe_tup (pa_cons pe_int (pa_cons pe_int (pa_cons pe_int (pa_cons pe_int pa_nil))))) (pa_cons (pe_tup (pa_cons pe_int (pa_cons pe_int (pa_cons pe_int (pa_cons pe_int pa_nil))))) (pa_cons (pe_tup (pa_cons pe_int (pa_cons pe_int (pa_cons pe_int (pa_cons pe_int pa_nil))))) pa_nil))))))
      (pss_one (ps_ret (pe_tup (pa_cons pe_int (pa_cons (pe_callTy call_tuple_of (by rfl) T.tuple boot_tuple (pa_cons (pv 9) pa_nil)) (pa_cons (pv 3) (pa_cons (pe_tup (pa_cons pe_bl (pa_cons pe_bl (pa_cons pe_bl (pa_cons pe_bl pa_nil))))) pa_nil)))))))))) pss_nil)
    (pss_cons (ps_set (i := 4) sc_law_made.nd rfl (.inl rfl) (pe_callTy call_tuple_of (by rfl) T.tuple boot_tuple (pa_cons (pe_lc (own := [("_law_sort", 12)]) (g := (gName 12)) (tt := tYes) (te := (tCB rInt1 (tCons (tOp (rIn K false) (tVar 12) (tVar 2)) tNil))) rfl sc_law_made.nd (pi_range1 (by rfl) T.range (pa_cons (pv 0) pa_nil)) (blkOk_by (N := ["_law_sorts", "_law_question_here", "_law_some", "_law_meets", "_law_starts", "_law_m", "_law_r", "_law_a", "_law_those", "_law_sides", "_law_n", "_law_b", "_law_sort", "_law_room"]) (sc := defScope s_law_made) (by decide +kernel)) (fun _ _ _ _ _ => (pg_name (i := 12) sc_law_made.nd rfl (.inl rfl))) (fun _ _ _ _ _ => pts_nil) (fun _ _ _ _ _ => (pe_callTy call_int1n (by rfl) T.int boot_int (pa_cons (pe_cmpR op_in_seq (pv 12) (pv 2) (by rfl)) pa_nil)))) pa_nil)))
    (pss_cons (ps_if (pt_cmpR op_eq (pe_ix ix_tup (pv 1) pe_int (fun _ _ => rfl)) pe_str (nomark _))
      (pss_cons (ps_set (i := 10) sc_law_made.nd rfl (.inr rfl) (pe_ix ix_tup (pv 1) pe_int (fun _ _ => rfl)))
      (pss_cons (ps_for PassesOwn.never rfl (pi_range1 (by rfl) T.range (pa_cons (pe_op op_add (pv 10) pe_int) pa_nil)) (pg_name (i := 7) sc_law_made.nd rfl (.inl rfl))
        (pss_one (ps_for PassesOwn.never rfl (pi_range2 (by rfl) T.range (pa_cons (pv 7) (pa_cons (pe_op op_add (pv 10) pe_int) pa_nil))) (pg_name (i := 11) sc_law_made.nd rfl (.inl rfl))
          (pss_one (ps_if (PW.pt (pw_and (pt_cmpR op_gt (pv 7) pe_int (nomark _)) (pw_and1 (pt_cmpR op_lt (pe_op op_add (pv 7) (pv 11)) (pv 10) (nomark _)))))
            (pss_one (ps_expr (pe_bm PySem.F.plainAttrs_list PySem.F.slot_list_append PySem.F.type_list_append mt_append (pv 3) (pa_cons (pe_tup (pa_cons (pv 7) (pa_cons (pv 11) (pa_cons pe_int (pa_cons (pe_op op_add (pv 7) (pv 11)) pa_nil))))) pa_nil)))) (pss_one (ps_if (PW.pt (pw_or (PW.pt (pw_and (pt_cmpR op_gt (pv 7) pe_int (nomark _)) (pw_and1 (pt_cmpR op_lt (pv 11) (pv 10) (nomark _))))) (pw_or1 (PW.pt (pw_and (pt_cmpR op_lt (pv 7) (pv 10) (nomark _)) (pw_and1 (pt_cmpR op_eq (pv 11) (pv 10) (nomark _))))))))
              (pss_one (ps_expr (pe_bm PySem.F.plainAttrs_list PySem.F.slot_list_append PySem.F.type_list_append mt_append (pv 3) (pa_cons (pe_tup (pa_cons (pv 7) (pa_cons (pv 11) (pa_cons (pv 10) (pa_cons (pv 10) pa_nil))))) pa_nil)))) pss_nil)))))))
      (pss_one (ps_ret (pe_tup (pa_cons (pe_op op_add (pv 10) pe_int) (pa_cons (pv 4) (pa_cons (pe_callTy call_tuple_of (by rfl) T.tuple boot_tuple (pa_cons (pv 3) pa_nil)) (pa_cons (pe_callTy call_tuple_of (by rfl) T.tuple boot_tuple (pa_cons (pe_lc (own := [("_law_room", 13)]) (g := (gName 13)) (tt := tYes) (te := (tOp rEq (tVar 13) (tVar 10))) rfl sc_law_made.nd (pi_range1 (by rfl) T.range (pa_cons (pe_op op_add (pv 10) pe_int) pa_nil)) (blkOk_by (N := ["_law_sorts", "_law_question_here", "_law_some", "_law_meets", "_law_starts", "_law_m", "_law_r", "_law_a", "_law_those", "_law_sides", "_law_n", "_law_b", "_law_sort", "_law_room"]) (sc := defScope s_law_made) (by decide +kernel)) (fun _ _ _ _ _ => (pg_name (i := 13) sc_law_made.nd rfl (.inl rfl))) (fun _ _ _ _ _ => pts_nil) (fun _ _ _ _ _ => (pe_cmpR op_eq (pv 13) (pv 10) (nomark _)))) pa_nil)) pa_nil))))))))) pss_nil)
    (pss_cons (ps_asg (pe_slice sl_tup (pv 1) (po_some pe_int) po_none) (pg_tup rfl (pgs_cons (pg_name (i := 5) sc_law_made.nd rfl (.inr rfl)) (pgs_cons (pg_name (i := 6) sc_law_made.nd rfl (.inr rfl)) pgs_nil))))
    (pss_cons (ps_for PassesOwn.never rfl (pi_range1 (by rfl) T.range (pa_cons (pv 5) pa_nil)) (pg_name (i := 7) sc_law_made.nd rfl (.inl rfl))
      (pss_cons (ps_for PassesOwn.never rfl (pi_range2 (by rfl) T.range (pa_cons (pv 7) (pa_cons (pv 5) pa_nil))) (pg_name (i := 11) sc_law_made.nd rfl (.inl rfl))
        (pss_one (ps_expr (pe_bm PySem.F.plainAttrs_list PySem.F.slot_list_append PySem.F.type_list_append mt_append (pv 3) (pa_cons (pe_tup (pa_cons (pv 7) (pa_cons (pv 11) (pa_cons (pe_op op_mod (pe_op op_add (pv 7) (pv 11)) (pv 5)) (pa_cons (pe_op op_add (pv 5) (pe_callTy call_int1n (by rfl) T.int boot_int (pa_cons (pe_cmpR op_eq (pe_op op_mod (pe_op op_add (pv 7) (pv 11)) (pv 5)) (pv 6) (nomark _)) pa_nil))) pa_nil))))) pa_nil)))))
      (pss_one (ps_expr (pe_bm PySem.F.plainAttrs_list PySem.F.slot_list_append PySem.F.type_list_append mt_append (pv 3) (pa_cons (pe_tup (pa_cons (pv 7) (pa_cons (pe_op op_add (pv 5) (pe_callTy call_int1n (by rfl) T.int boot_int (pa_cons (pe_cmpR op_ne (pv 7) (pv 6) (nomark _)) pa_nil))) (pa_cons (pv 7) (pa_cons (pe_op op_add (pv 5) (pe_callTy call_int1n (by rfl) T.int boot_int (pa_cons (pe_cmpR op_eq (pv 7) (pv 6) (nomark _)) pa_nil))) pa_nil))))) pa_nil))))))
    (pss_one (ps_ret (pe_tup (pa_cons (pe_op op_add (pv 5) pe_int) (pa_cons (pv 4) (pa_cons (pe_callTy call_tuple_of (by rfl) T.tuple boot_tuple (pa_cons (pv 3) pa_nil)) (pa_cons (pe_callTy call_tuple_of (by rfl) T.tuple boot_tuple (pa_cons (pe_lc (own := [("_law_room", 13)]) (g := (gName 13)) (tt := tYes) (te := (tOp (rIn K false) (tVar 13) (tTup (tCons (tVar 6) (tCons (tOp (rI0 fun i j => .int (i + j)) (tVar 5) (tC (.int 1))) tNil))))) rfl sc_law_made.nd (pi_range1 (by rfl) T.range (pa_cons (pe_op op_add (pv 5) pe_int) pa_nil)) (blkOk_by (N := ["_law_sorts", "_law_question_here", "_law_some", "_law_meets", "_law_starts", "_law_m", "_law_r", "_law_a", "_law_those", "_law_sides", "_law_n", "_law_b", "_law_sort", "_law_room"]) (sc := defScope s_law_made) (by decide +kernel)) (fun _ _ _ _ _ => (pg_name (i := 13) sc_law_made.nd rfl (.inl rfl))) (fun _ _ _ _ _ => pts_nil) (fun _ _ _ _ _ => (pe_cmpR op_in_seq (pv 13) (pe_tup (pa_cons (pv 6) (pa_cons (pe_op op_add (pv 5) pe_int) pa_nil))) (by rfl)))) pa_nil)) pa_nil)))))))))))))), ?_⟩
  have hsoT : ((so : Int)).toNat = so := by omega
  cases q with
  | not q => exact absurd hd (by show ¬ q.depth + 1 = 0; omega)
  | more ss os =>
    obtain ⟨a, b, d, rfl, ha, hb, hdd⟩ := hq
    refine ⟨_, rfl, _, _, _, _, rfl, rfl, SqT.of ha, atI_nat (j := 1) rfl, by show 0 ≤ sizeLine; decide, fun mn nmn => ?_⟩
    have s1 := same_new (o := .lst []) nmn
    refine ⟨_, rfl, _, _, _, _, rfl, rfl, SqT.of (s1 _ _ ha), atI_nat (j := 0) rfl, rfl, _, rfl, strT rfl ?_⟩
    refine ⟨_, rfl, _, _, _, _, rfl, rfl, SqT.of (s1 _ _ ha), atI_nat (j := 2) rfl, ?_⟩
    refine ⟨_, rfl, _, rfl, by omega, by omega, fun D2 nD2 => ?_⟩
    rw [hsoT]
    refine lc_rng (fun i acc => ∃ ss : List Int, acc = ss.map V.int ∧ (∀ s ∈ ss, InR 4 s) ∧ ss.length = i) (big _ (by omega)) nD2 ⟨[], rfl, (fun _ h => nomatch h), rfl⟩ ?_ (fun H3 acc s3 e3 i3 => ?_)
    · intro i H acc Kt Kf kt kf hi s2 ⟨ss', ea, hs, hl⟩
      have fin : ∀ (z : Int) (H' : Hp), Same H H' → InR 4 z → Kt (.int z) H' := fun z H' s hz => kt _ _ s ⟨ss' ++ [z], by rw [ea, List.map_append]; rfl, fun s h => by
        rcases List.mem_append.mp h with h | h
        · exact hs s h
        · rw [List.mem_singleton.mp h]; exact hz, by rw [List.length_append, hl]; rfl⟩
      refine ⟨rfl, iteT (B := Kf H) ⟨_, rfl, _, rfl, b, _, rfl, .inr (SqT.of (s2 _ _ (s1 _ _ hb))), rfl, flat_ints _, _, rfl, ?_⟩⟩
      refine ite2 (fun _ => fin 0 _ (Same.refl _) ⟨by decide, by decide⟩) (fun _ => ?_)
      refine ⟨_, rfl, _, rfl, d, _, rfl, .inr (SqT.of (s2 _ _ (s1 _ _ hdd))), rfl, flat_ints _, .inr ⟨_, rfl, _, _, rfl, rfl, .inl ⟨by decide, by decide⟩, _, _, rfl, rfl, fin _ _ (Same.refl _) ?_⟩⟩
      generalize (if true = true then _ else _ : Bool) = bb
      cases bb <;> exact ⟨by decide, by decide⟩
    obtain ⟨sd, rfl, hsd, hsl⟩ := i3
    -- the four meetings
    refine ⟨by show 4 ≤ sizeLine; decide, fun t1 n1 => ⟨by show 4 ≤ sizeLine; decide, fun t2 n2 => ⟨by show 4 ≤ sizeLine; decide, fun t3 n3 => ⟨by show 4 ≤ sizeLine; decide, fun t4 n4 => ⟨by show 4 ≤ sizeLine; decide, fun tm nm => ?_⟩⟩⟩⟩⟩
    have u1 := same_new (o := .tup [.int 0, .int 1, .int 2, .int 3]) n1
    have u2 := same_new (o := .tup [.int 0, .int 3, .int 0, .int 2]) n2
    have u3 := same_new (o := .tup [.int 1, .int 2, .int 1, .int 3]) n3
    have u4 := same_new (o := .tup [.int 2, .int 3, .int 3, .int 3]) n4
    have u5 := same_new (o := .tup [.ref t1, .ref t2, .ref t3, .ref t4]) nm
    have e1 := (u2.trans (u3.trans (u4.trans u5))) _ _ (show upd H3 t1 _ t1 = _ from upd_same)
    have e2 := (u3.trans (u4.trans u5)) _ _ (show upd (upd H3 t1 _) t2 _ t2 = _ from upd_same)
    have e3' := (u4.trans u5) _ _ (show upd (upd (upd H3 t1 _) t2 _) t3 _ t3 = _ from upd_same)
    have e4 := u5 _ _ (show upd (upd (upd (upd H3 t1 _) t2 _) t3 _) t4 _ t4 = _ from upd_same)
    have uA := u1.trans (u2.trans (u3.trans (u4.trans u5)))
    have eD := uA _ _ e3
    have em : upd (upd (upd (upd (upd H3 t1 (.tup [.int 0, .int 1, .int 2, .int 3])) t2 (.tup [.int 0, .int 3, .int 0, .int 2])) t3 (.tup [.int 1, .int 2, .int 1, .int 3])) t4 (.tup [.int 2, .int 3, .int 3, .int 3])) tm (.tup [.ref t1, .ref t2, .ref t3, .ref t4]) tm = some (.tup [.ref t1, .ref t2, .ref t3, .ref t4]) := upd_same
    clear u1 u2 u3 u4 u5 n1 n2 n3 n4 nm
    generalize upd (upd (upd (upd (upd H3 t1 (.tup [.int 0, .int 1, .int 2, .int 3])) t2 (.tup [.int 0, .int 3, .int 0, .int 2])) t3 (.tup [.int 1, .int 2, .int 1, .int 3])) t4 (.tup [.int 2, .int 3, .int 3, .int 3])) tm (.tup [.ref t1, .ref t2, .ref t3, .ref t4]) = H9 at *
    refine ⟨_, rfl, D2, _, rfl, .inl ⟨SqL.of eD, fun st nst => ⟨_, rfl, by show 4 ≤ sizeLine; decide, fun sy nsy => ⟨by show 4 ≤ sizeLine; decide, fun t nt => ?_⟩⟩⟩⟩
    obtain ⟨nss, nsy'⟩ := upd_none nsy
    obtain ⟨nts, nt'⟩ := upd_none nt
    obtain ⟨ntst, nt''⟩ := upd_none nt'
    have v1 := same_new (o := .tup (sd.map V.int)) nst
    have v2 := same_new (o := .tup [.bl true, .bl false, .bl true, .bl false]) nsy
    have v3 := same_new (o := .tup [.int 4, .ref st, .ref tm, .ref sy]) nt
    have vA := v1.trans (v2.trans v3)
    refine k _ (.ref t) ⟨4, sd, [(0, 1, 2, 3), (0, 3, 0, 2), (1, 2, 1, 3), (2, 3, 3, 3)], [true, false, true, false]⟩ (s1.trans (s3.trans (uA.trans vA))) ⟨t, st, tm, sy, _, rfl, upd_same, at_ne (at_ne upd_same (Ne.symm nss)) (Ne.symm ntst), vA _ _ em, .cons ⟨t1, rfl, vA _ _ e1⟩ (.cons ⟨t2, rfl, vA _ _ e2⟩ (.cons ⟨t3, rfl, vA _ _ e3'⟩ (.cons ⟨t4, rfl, vA _ _ e4⟩ .nil))), at_ne upd_same (Ne.symm nts)⟩
      ⟨by show 1 ≤ 4; decide, by show 4 ≤ 5; decide, hsd, by show 1 ≤ sd.length; omega, by show sd.length ≤ 4; omega, four_mt, by show 4 ≤ 100; decide, rfl⟩ hsl
  | least ss n =>
    obtain ⟨a, b, rfl, ha, hb⟩ := hq
    obtain ⟨hsin, hsl10, hn1, hn3⟩ := hm
    obtain ⟨N, rfl⟩ : ∃ N : Nat, n = (N : Int) := ⟨n.toNat, by omega⟩
    refine ⟨_, rfl, _, _, _, _, rfl, rfl, SqT.of ha, atI_nat (j := 1) rfl, by show 0 ≤ sizeLine; decide, fun mn nmn => ?_⟩
    have s1 := same_new (o := .lst []) nmn
    have emn : upd H0 mn (.lst []) mn = some (.lst []) := upd_same
    refine ⟨_, rfl, _, _, _, _, rfl, rfl, SqT.of (s1 _ _ ha), atI_nat (j := 0) rfl, rfl, _, rfl, strF (by decide) ?_⟩
    -- starts
    refine ⟨_, rfl, _, rfl, by omega, by omega, fun D2 nD2 => ?_⟩
    rw [hsoT]
    refine lc_rng (fun i acc => ∃ ss : List Int, acc = ss.map V.int ∧ (∀ s ∈ ss, InR 2 s) ∧ ss.length = i) (big _ (by omega)) nD2 ⟨[], rfl, (fun _ h => nomatch h), rfl⟩ ?_ (fun H3 acc s3 e3 i3 => ?_)
    · intro i H acc Kt Kf kt kf hi s2 ⟨ss', ea, hs, hl⟩
      refine ⟨rfl, iteT (B := Kf H) ⟨_, rfl, _, rfl, b, _, rfl, .inr (SqT.of (s2 _ _ (s1 _ _ hb))), rfl, flat_ints _, .inr ⟨_, rfl, ?_⟩⟩⟩
      refine kt _ _ (Same.refl _) ⟨ss' ++ [_], by rw [ea, List.map_append]; rfl, fun s h => ?_, by rw [List.length_append, hl]; rfl⟩
      rcases List.mem_append.mp h with h | h
      · exact hs s h
      · rw [List.mem_singleton.mp h]
        generalize (if false = true then _ else _ : Bool) = bb
        cases bb <;> exact ⟨by decide, by decide⟩
    obtain ⟨sd, rfl, hsd, hsl⟩ := i3
    refine ⟨D2, _, rfl, .inl ⟨SqL.of e3, fun st nst => ?_⟩⟩
    have s4 := same_new (o := .tup (sd.map V.int)) nst
    have est : upd H3 st (.tup (sd.map V.int)) st = some (.tup (sd.map V.int)) := upd_same
    obtain ⟨H4, hH4⟩ : ∃ x, x = upd H3 st (.tup (sd.map V.int)) := ⟨_, rfl⟩
    rw [← hH4] at s4 est ⊢
    clear hH4
    have s04 := s1.trans (s3.trans s4)
    have emn4 := s4 _ _ (s3 _ _ emn)
    refine ⟨_, rfl, _, _, _, _, rfl, rfl, SqT.of (s04 _ _ ha), atI_nat (j := 0) rfl, rfl, _, rfl, strT rfl ?_⟩
    refine ⟨_, rfl, _, _, _, _, rfl, rfl, SqT.of (s04 _ _ ha), atI_nat (j := 2) rfl, ?_⟩
    refine ⟨_, rfl, _, _, rfl, rfl, _, rfl, by omega, by omega, ?_⟩
    have hNT : ((N : Int) + 1).toNat = N + 1 := by omega
    rw [hNT]
    have hN : N ≤ 3 := by omega
    have hN1 : 1 ≤ N := by omega
    refine for_it (walk_range (lo := 0) (n := N + 1)) (fun i σ H' => ∃ (ms : List Mt) (vs : List V) (y7 y11 : Option V), σ = [some (.int so), some (.ref a), some (.ref b), some (.ref mn), some (.ref st), none, none, y7, none, none, some (.int N), y11, none, none] ∧ But mn H4 H' ∧ H' mn = some (.lst vs) ∧
        Paired (MtAt H') vs ms ∧ (∀ m ∈ ms, InR (N + 1) m.1 ∧ InR (N + 1) m.2.1 ∧ InR (N + 1) m.2.2.1 ∧ InR (N + 1) m.2.2.2) ∧ ms.length ≤ 4 * i)
      ⟨[], [], none, none, rfl, But.refl _ _, emn4, .nil, (fun m h => nomatch h), Nat.zero_le _⟩ (fun _ _ _ _ _ => trivial) ?_ ?_
    · rintro i xx σ H10 H11 hi ⟨ms, vs, y7, y11, rfl, b10, emn10, pm10, hm10, hl10⟩ ⟨rfl, rfl⟩
      have hin : (N : Int) + 1 - (0 + (i : Int)) = ((N + 1 - i : Nat) : Int) := by omega
      refine ⟨_, rfl, _, rfl, _, _, rfl, rfl, _, _, rfl, ⟨by omega, by omega, by omega, by omega⟩, ?_⟩
      rw [hin, Int.toNat_natCast]
      refine for_it (walk_range (lo := 0 + (i : Int)) (n := N + 1 - i)) (fun j σ H' => ∃ (ms : List Mt) (vs : List V) (y11 : Option V), σ = [some (.int so), some (.ref a), some (.ref b), some (.ref mn), some (.ref st), none, none, some (.int (0 + (i : Int))), none, none, some (.int N), y11, none, none] ∧ But mn H4 H' ∧ H' mn = some (.lst vs) ∧
          Paired (MtAt H') vs ms ∧ (∀ m ∈ ms, InR (N + 1) m.1 ∧ InR (N + 1) m.2.1 ∧ InR (N + 1) m.2.2.1 ∧ InR (N + 1) m.2.2.2) ∧ ms.length ≤ 4 * i + j)
        ⟨ms, vs, y11, rfl, b10, emn10, pm10, hm10, hl10⟩ (fun _ _ _ _ _ => trivial) ?_ ?_
      · rintro j xx σ H12 H13 hj ⟨ms, vs, y11, rfl, b12, emn12, pm12, hm12, hl12⟩ ⟨rfl, rfl⟩
        -- one meeting more
        have add : ∀ (c d : Int) (p4 : Addr), InR (N + 1) c → InR (N + 1) d → H13 p4 = none → upd H13 p4 (.tup [.int (0 + (i : Int)), .int (0 + (i : Int) + (j : Int)), .int c, .int d]) mn = some (.lst vs) ∧ vs.length < sizeLine ∧ ∃ (ms : List Mt) (vs' : List V) (y11 : Option V), ([some (.int so), some (.ref a), some (.ref b), some (.ref mn), some (.ref st), none, none, some (.int (0 + (i : Int))), none, none, some (.int N), some (.int (0 + (i : Int) + (j : Int))), none, none] : L2.St) = [some (.int so), some (.ref a), some (.ref b), some (.ref mn), some (.ref st), none, none, some (.int (0 + (i : Int))), none, none, some (.int N), y11, none, none] ∧ But mn H4 (upd (upd H13 p4 (.tup [.int (0 + (i : Int)), .int (0 + (i : Int) + (j : Int)), .int c, .int d])) mn (.lst (vs ++ [.ref p4]))) ∧ upd (upd H13 p4 (.tup [.int (0 + (i : Int)), .int (0 + (i : Int) + (j : Int)), .int c, .int d])) mn (.lst (vs ++ [.ref p4])) mn = some (.lst vs') ∧
            Paired (MtAt (upd (upd H13 p4 (.tup [.int (0 + (i : Int)), .int (0 + (i : Int) + (j : Int)), .int c, .int d])) mn (.lst (vs ++ [.ref p4])))) vs' ms ∧ (∀ m ∈ ms, InR (N + 1) m.1 ∧ InR (N + 1) m.2.1 ∧ InR (N + 1) m.2.2.1 ∧ InR (N + 1) m.2.2.2) ∧ ms.length ≤ 4 * i + (j + 1) := by
          intro c d p4 hc hd' np4
          have s20 := same_new (o := .tup [.int (0 + (i : Int)), .int (0 + (i : Int) + (j : Int)), .int c, .int d]) np4
          have emn18 := s20 _ _ emn12
          have kk := Tk.mutL (o := .lst (vs ++ [.ref p4])) emn18
          refine ⟨emn18, small1000 (by rw [Paired.length pm12]; omega), ms ++ [(0 + (i : Int), 0 + (i : Int) + (j : Int), c, d)], vs ++ [.ref p4], _, rfl, (b12.trans (But.same s20)).self, upd_same, ?_, fun m hm => ?_, by rw [List.length_append]; show _ + 1 ≤ _; omega⟩
          · exact (pm12.mono fun _ _ h => MtAt.tk ((Tk.same s20).trans kk) h).snoc ⟨p4, rfl, kk _ _ upd_same⟩
          · rcases List.mem_append.mp hm with h | h
            · exact hm12 m h
            · rw [List.mem_singleton.mp h]
              exact ⟨⟨by show (0 : Int) ≤ 0 + (i : Int); omega, by show 0 + (i : Int) < ((N + 1 : Nat) : Int); omega⟩, ⟨by show (0 : Int) ≤ 0 + (i : Int) + (j : Int); omega, by show 0 + (i : Int) + (j : Int) < ((N + 1 : Nat) : Int); omega⟩, hc, hd'⟩
        refine ⟨_, rfl, _, _, rfl, rfl, _, rfl, ite2 (fun z1 => ⟨_, rfl, _, rfl, _, _, rfl, rfl, _, rfl, _, _, rfl, rfl, _, rfl, ite2 (fun z2 => ?_) (fun _ => ?_)⟩) (fun _ => ?_)⟩
        · have z2 := of_decide_eq_true z2
          refine ⟨_, rfl, .inl ⟨rfl, _, SqL.of emn12⟩, _, rfl, _, rfl, _, rfl, _, rfl, _, _, rfl, rfl, by show 4 ≤ sizeLine; decide, fun p4 np4 => ?_⟩
          obtain ⟨g1, g2, g3⟩ := add 0 (0 + (i : Int) + (0 + (i : Int) + (j : Int))) p4 ⟨by omega, by omega⟩ ⟨by omega, by omega⟩ np4
          exact ⟨mn, vs, _, rfl, rfl, g1, g2, g3⟩
        all_goals (
          refine ⟨_, rfl, _, _, rfl, rfl, _, rfl, ite2 (fun z1 => ⟨_, rfl, _, rfl, _, _, rfl, rfl, _, rfl, ite2 (fun z => ?_) (fun _ => ?_)⟩) (fun _ => ?_)⟩
          · refine ⟨_, rfl, .inl ⟨rfl, _, SqL.of emn12⟩, _, rfl, _, rfl, _, rfl, _, rfl, by show 4 ≤ sizeLine; decide, fun p4 np4 => ?_⟩
            obtain ⟨g1, g2, g3⟩ := add N N p4 ⟨by omega, by omega⟩ ⟨by omega, by omega⟩ np4
            exact ⟨mn, vs, _, rfl, rfl, g1, g2, g3⟩
          all_goals (
            refine ⟨_, rfl, _, rfl, _, _, rfl, rfl, _, rfl, ite2 (fun _ => ⟨_, rfl, _, rfl, rfl, _, rfl, ite2 (fun _ => ?_) (fun _ => ?_)⟩) (fun _ => ?_)⟩
            · refine ⟨_, rfl, .inl ⟨rfl, _, SqL.of emn12⟩, _, rfl, _, rfl, _, rfl, _, rfl, by show 4 ≤ sizeLine; decide, fun p4 np4 => ?_⟩
              obtain ⟨g1, g2, g3⟩ := add N N p4 ⟨by omega, by omega⟩ ⟨by omega, by omega⟩ np4
              exact ⟨mn, vs, _, rfl, rfl, g1, g2, g3⟩
            all_goals exact ⟨ms, vs, _, rfl, b12, emn12, pm12, hm12, by omega⟩))
      · rintro σ H12 ⟨ms, vs, y11, rfl, b12, emn12, pm12, hm12, hl12⟩
        exact ⟨ms, vs, _, _, rfl, b12, emn12, pm12, hm12, by omega⟩
    · rintro σ H10 ⟨ms, vs, y7, y11, rfl, b10, emn10, pm10, hm10, hl10⟩
      have t10 : Tk H4 H10 := Tk.butL emn4 b10
      have est10 := t10 _ _ est
      have nmn0 : H0 mn = none := nmn
      have s10 : Same H0 H10 := b10.toSame' nmn0 s04
      refine ⟨_, rfl, _, _, rfl, rfl, _, rfl, _, rfl, mn, _, rfl, .inl ⟨SqL.of emn10, fun mt nmt => ⟨_, rfl, _, _, rfl, rfl, _, rfl, by omega, by omega, fun D5 nD5 => ?_⟩⟩⟩
      have s11 := same_new (o := .tup vs) nmt
      rw [hNT]
      refine lc_rng (fun i acc => ∃ bs : List Bool, acc = bs.map V.bl ∧ bs.length = i) (big _ (by omega)) nD5 ⟨[], rfl, rfl⟩ ?_ (fun H12 acc s12 e12 i12 => ?_)
      · intro i H acc Kt Kf kt kf hi s2 ⟨bs, ea, hl⟩
        exact ⟨rfl, iteT (B := Kf H) ⟨_, rfl, _, rfl, rfl, kt _ _ (Same.refl _) ⟨bs ++ [_], by rw [ea, List.map_append]; rfl, by rw [List.length_append, hl]; rfl⟩⟩⟩
      obtain ⟨bs, rfl, hbl⟩ := i12
      refine ⟨D5, _, rfl, .inl ⟨SqL.of e12, fun sy nsy => ⟨by show 4 ≤ sizeLine; decide, fun t nt => ?_⟩⟩⟩
      obtain ⟨nts, nt'⟩ := upd_none nt
      have s13 := same_new (o := .tup (bs.map V.bl)) nsy
      have s14 := same_new (o := .tup [.int ((N : Int) + 1), .ref st, .ref mt, .ref sy]) nt
      have sB := s12.trans (s13.trans s14)
      have sA := s11.trans sB
      refine k _ (.ref t) ⟨N + 1, sd, ms, bs⟩ (s10.trans sA) ⟨t, st, mt, sy, vs, rfl, upd_same, sA _ _ est10, sB _ _ upd_same, pm10.mono fun _ _ h => MtAt.tk (Tk.same sA) h, at_ne upd_same (Ne.symm nts)⟩
        ⟨by show 1 ≤ N + 1; omega, by show N + 1 ≤ 5; omega, fun s hs => by have := hsd s hs; exact ⟨this.1, by have := this.2; show s < ((N + 1 : Nat) : Int); omega⟩, by show 1 ≤ sd.length; omega, by show sd.length ≤ 4; omega, hm10, by show ms.length ≤ 100; omega, hbl⟩ hsl
  | rest ss m r =>
    obtain ⟨a, b, rfl, ha, hb⟩ := hq
    obtain ⟨hsin, hsl10, hm2, hm3, hr0, hrm⟩ := hm
    obtain ⟨M, rfl⟩ : ∃ M : Nat, m = (M : Int) := ⟨m.toNat, by omega⟩
    refine ⟨_, rfl, _, _, _, _, rfl, rfl, SqT.of ha, atI_nat (j := 1) rfl, by show 0 ≤ sizeLine; decide, fun mn nmn => ?_⟩
    have s1 := same_new (o := .lst []) nmn
    have emn : upd H0 mn (.lst []) mn = some (.lst []) := upd_same
    refine ⟨_, rfl, _, _, _, _, rfl, rfl, SqT.of (s1 _ _ ha), atI_nat (j := 0) rfl, rfl, _, rfl, strF (by decide) ?_⟩
    refine ⟨_, rfl, _, rfl, by omega, by omega, fun D2 nD2 => ?_⟩
    rw [hsoT]
    refine lc_rng (fun i acc => ∃ ss : List Int, acc = ss.map V.int ∧ (∀ s ∈ ss, InR 2 s) ∧ ss.length = i) (big _ (by omega)) nD2 ⟨[], rfl, (fun _ h => nomatch h), rfl⟩ ?_ (fun H3 acc s3 e3 i3 => ?_)
    · intro i H acc Kt Kf kt kf hi s2 ⟨ss', ea, hs, hl⟩
      refine ⟨rfl, iteT (B := Kf H) ⟨_, rfl, _, rfl, b, _, rfl, .inr (SqT.of (s2 _ _ (s1 _ _ hb))), rfl, flat_ints _, .inr ⟨_, rfl, ?_⟩⟩⟩
      refine kt _ _ (Same.refl _) ⟨ss' ++ [_], by rw [ea, List.map_append]; rfl, fun s h => ?_, by rw [List.length_append, hl]; rfl⟩
      rcases List.mem_append.mp h with h | h
      · exact hs s h
      · rw [List.mem_singleton.mp h]
        exact bi01 _ 2 (Nat.le_refl _)
    obtain ⟨sd, rfl, hsd, hsl⟩ := i3
    refine ⟨D2, _, rfl, .inl ⟨SqL.of e3, fun st nst => ?_⟩⟩
    have s4 := same_new (o := .tup (sd.map V.int)) nst
    have est : upd H3 st (.tup (sd.map V.int)) st = some (.tup (sd.map V.int)) := upd_same
    obtain ⟨H4, hH4⟩ : ∃ x, x = upd H3 st (.tup (sd.map V.int)) := ⟨_, rfl⟩
    rw [← hH4] at s4 est ⊢
    clear hH4
    have s04 := s1.trans (s3.trans s4)
    have emn4 := s4 _ _ (s3 _ _ emn)
    refine ⟨_, rfl, _, _, _, _, rfl, rfl, SqT.of (s04 _ _ ha), atI_nat (j := 0) rfl, rfl, _, rfl, strF (by decide) ?_⟩
    refine ⟨_, rfl, 2, rfl, a, _, rfl, SqT.of (s04 _ _ ha), (fun z => absurd (show HT.sIx 4 0 (some 2) = 0 from z.1) (by decide)), fun pp npp => ?_⟩
    have ecut : cutV [V.str "rest", .ref b, .int (M : Int), .int r] (some 2) none = [.int (M : Int), .int r] := rfl
    rw [ecut]
    have s5 := same_new (o := .tup [.int (M : Int), .int r]) npp
    have epp : upd H4 pp (.tup [.int (M : Int), .int r]) pp = some (.tup [.int (M : Int), .int r]) := upd_same
    obtain ⟨H5, hH5⟩ : ∃ x, x = upd H4 pp (.tup [.int (M : Int), .int r]) := ⟨_, rfl⟩
    rw [← hH5] at s5 epp ⊢
    clear hH5
    have emn5 := s5 _ _ emn4
    have est5 := s5 _ _ est
    refine ⟨pp, _, rfl, SqT.of epp, rfl, _, _, rfl, _, _, rfl, rfl, ?_⟩
    refine ⟨_, rfl, _, rfl, by omega, by omega, ?_⟩
    have hMT : ((M : Int)).toNat = M := by omega
    rw [hMT]
    have hM : M ≤ 3 := by omega
    have hM1 : 2 ≤ M := by omega
    refine for_it (walk_range (lo := 0) (n := M)) (fun i σ H' => ∃ (ms : List Mt) (vs : List V) (y7 y11 : Option V), σ = [some (.int so), some (.ref a), some (.ref b), some (.ref mn), some (.ref st), some (.int M), some (.int r), y7, none, none, none, y11, none, none] ∧ But mn H5 H' ∧ H' mn = some (.lst vs) ∧
        Paired (MtAt H') vs ms ∧ (∀ m ∈ ms, InR (M + 2) m.1 ∧ InR (M + 2) m.2.1 ∧ InR (M + 2) m.2.2.1 ∧ InR (M + 2) m.2.2.2) ∧ ms.length ≤ 4 * i)
      ⟨[], [], none, none, rfl, But.refl _ _, emn5, .nil, (fun m h => nomatch h), Nat.zero_le _⟩ (fun _ _ _ _ _ => trivial) ?_ ?_
    · rintro i xx σ H10 H11 hi ⟨ms, vs, y7, y11, rfl, b10, emn10, pm10, hm10, hl10⟩ ⟨rfl, rfl⟩
      have add : ∀ (H13 : Hp) (ms : List Mt) (vs : List V) (a' b' c d : Int) (p4 : Addr), But mn H5 H13 → H13 mn = some (.lst vs) → Paired (MtAt H13) vs ms → (∀ m ∈ ms, InR (M + 2) m.1 ∧ InR (M + 2) m.2.1 ∧ InR (M + 2) m.2.2.1 ∧ InR (M + 2) m.2.2.2) → ms.length ≤ 100 → InR (M + 2) a' → InR (M + 2) b' → InR (M + 2) c → InR (M + 2) d → H13 p4 = none → upd H13 p4 (.tup [.int a', .int b', .int c, .int d]) mn = some (.lst vs) ∧ vs.length < sizeLine ∧
          But mn H5 (upd (upd H13 p4 (.tup [.int a', .int b', .int c, .int d])) mn (.lst (vs ++ [.ref p4]))) ∧ upd (upd H13 p4 (.tup [.int a', .int b', .int c, .int d])) mn (.lst (vs ++ [.ref p4])) mn = some (.lst (vs ++ [.ref p4])) ∧
          Paired (MtAt (upd (upd H13 p4 (.tup [.int a', .int b', .int c, .int d])) mn (.lst (vs ++ [.ref p4])))) (vs ++ [.ref p4]) (ms ++ [(a', b', c, d)]) ∧ (∀ m ∈ ms ++ [(a', b', c, d)], InR (M + 2) m.1 ∧ InR (M + 2) m.2.1 ∧ InR (M + 2) m.2.2.1 ∧ InR (M + 2) m.2.2.2) := by
        intro H13 ms vs a' b' c d p4 b12 emn12 pm12 hm12 hl12 h1 h2 h3 h4' np4
        have s20 := same_new (o := .tup [.int a', .int b', .int c, .int d]) np4
        have emn18 := s20 _ _ emn12
        have kk := Tk.mutL (o := .lst (vs ++ [.ref p4])) emn18
        refine ⟨emn18, small1000 (by rw [Paired.length pm12]; omega), (b12.trans (But.same s20)).self, upd_same, ?_, fun m hm => ?_⟩
        · exact (pm12.mono fun _ _ h => MtAt.tk ((Tk.same s20).trans kk) h).snoc ⟨p4, rfl, kk _ _ upd_same⟩
        · rcases List.mem_append.mp hm with h | h
          · exact hm12 m h
          · rw [List.mem_singleton.mp h]
            exact ⟨h1, h2, h3, h4'⟩
      have hin : (M : Int) - (0 + (i : Int)) = ((M - i : Nat) : Int) := by omega
      have hb01 : ∀ b : Bool, InR (M + 2) ((M : Int) + (if b = true then 1 else 0)) := fun b => by
        cases b
        · exact ⟨by show (0 : Int) ≤ M + 0; omega, by show (M : Int) + 0 < ((M + 2 : Nat) : Int); omega⟩
        · exact ⟨by show (0 : Int) ≤ M + 1; omega, by show (M : Int) + 1 < ((M + 2 : Nat) : Int); omega⟩
      refine ⟨_, rfl, _, rfl, _, _, rfl, ⟨by omega, by omega, by omega, by omega⟩, ?_⟩
      rw [hin, Int.toNat_natCast]
      refine for_it (walk_range (lo := 0 + (i : Int)) (n := M - i)) (fun j σ H' => ∃ (ms : List Mt) (vs : List V) (y11 : Option V), σ = [some (.int so), some (.ref a), some (.ref b), some (.ref mn), some (.ref st), some (.int M), some (.int r), some (.int (0 + (i : Int))), none, none, none, y11, none, none] ∧ But mn H5 H' ∧ H' mn = some (.lst vs) ∧
          Paired (MtAt H') vs ms ∧ (∀ m ∈ ms, InR (M + 2) m.1 ∧ InR (M + 2) m.2.1 ∧ InR (M + 2) m.2.2.1 ∧ InR (M + 2) m.2.2.2) ∧ ms.length ≤ 4 * i + j)
        ⟨ms, vs, y11, rfl, b10, emn10, pm10, hm10, hl10⟩ (fun _ _ _ _ _ => trivial) ?_ ?_
      · rintro j xx σ H12 H13 hj ⟨ms, vs, y11, rfl, b12, emn12, pm12, hm12, hl12⟩ ⟨rfl, rfl⟩
        have hq0 := Int.emod_nonneg (0 + (i : Int) + (0 + (i : Int) + (j : Int))) (show (M : Int) ≠ 0 by omega)
        have hq1 := Int.emod_lt_of_pos (0 + (i : Int) + (0 + (i : Int) + (j : Int))) (show (0 : Int) < M by omega)
        refine ⟨_, rfl, .inl ⟨rfl, _, SqL.of emn12⟩, _, rfl, _, rfl, _, rfl, _, rfl, _, _, rfl, rfl, _, rfl, _, _, rfl, rfl, (show (0 : Int) < M by omega), _, rfl, _, rfl, _, rfl, _, _, rfl, rfl, _, rfl, _, _, rfl, rfl, (show (0 : Int) < M by omega), _, rfl, rfl, .inr ⟨_, rfl, _, _, rfl, rfl, by show 4 ≤ sizeLine; decide, fun p4 np4 => ?_⟩⟩
        obtain ⟨g1, g2, g3, g4, g5, g6⟩ := add _ ms vs (0 + (i : Int)) (0 + (i : Int) + (j : Int)) ((0 + (i : Int) + (0 + (i : Int) + (j : Int))) % (M : Int)) ((M : Int) + (if decide (V.int ((0 + (i : Int) + (0 + (i : Int) + (j : Int))) % (M : Int)) = V.int r) = true then 1 else 0)) p4 b12 emn12 pm12 hm12 (by omega) ⟨by omega, by omega⟩ ⟨by omega, by omega⟩ ⟨by omega, by omega⟩ (hb01 _) np4
        exact ⟨mn, vs, _, rfl, rfl, g1, g2, _, _, _, rfl, g3, g4, g5, g6, by rw [List.length_append]; show _ + 1 ≤ _; omega⟩
      · rintro σ H12 ⟨ms, vs, y11, rfl, b12, emn12, pm12, hm12, hl12⟩
        refine ⟨_, rfl, .inl ⟨rfl, _, SqL.of emn12⟩, _, rfl, _, rfl, _, rfl, _, rfl, rfl, .inr ⟨_, rfl, _, _, rfl, rfl, _, rfl, _, rfl, _, rfl, _, rfl, rfl, .inr ⟨_, rfl, _, _, rfl, rfl, by show 4 ≤ sizeLine; decide, fun p4 np4 => ?_⟩⟩⟩
        obtain ⟨g1, g2, g3, g4, g5, g6⟩ := add _ ms vs (0 + (i : Int)) ((M : Int) + (if (!decide (V.int (0 + (i : Int)) = V.int r)) = true then 1 else 0)) (0 + (i : Int)) ((M : Int) + (if decide (V.int (0 + (i : Int)) = V.int r) = true then 1 else 0)) p4 b12 emn12 pm12 hm12 (by omega) ⟨by omega, by omega⟩ (hb01 _) ⟨by omega, by omega⟩ (hb01 _) np4
        exact ⟨mn, vs, _, rfl, rfl, g1, g2, _, _, _, _, rfl, g3, g4, g5, g6, by rw [List.length_append]; show _ + 1 ≤ _; omega⟩
    · rintro σ H10 ⟨ms, vs, y7, y11, rfl, b10, emn10, pm10, hm10, hl10⟩
      have t10 : Tk H5 H10 := Tk.butL emn5 b10
      have est10 := t10 _ _ est5
      have s10 : Same H0 H10 := b10.toSame' nmn (s04.trans s5)
      refine ⟨_, rfl, _, _, rfl, rfl, _, rfl, _, rfl, mn, _, rfl, .inl ⟨SqL.of emn10, fun mt nmt => ⟨_, rfl, _, _, rfl, rfl, _, rfl, by omega, by omega, fun D5 nD5 => ?_⟩⟩⟩
      have s11 := same_new (o := .tup vs) nmt
      have hM2 : ((M : Int) + 2).toNat = M + 2 := by omega
      rw [hM2]
      refine lc_rng (fun i acc => ∃ bs : List Bool, acc = bs.map V.bl ∧ bs.length = i) (big _ (by omega)) nD5 ⟨[], rfl, rfl⟩ ?_ (fun H12 acc s12 e12 i12 => ?_)
      · intro i H acc Kt Kf kt kf hi s2 ⟨bs, ea, hl⟩
        exact ⟨rfl, iteT (B := Kf H) ⟨_, rfl, _, rfl, _, rfl, _, _, rfl, rfl, by show 2 ≤ sizeLine; decide, fun p6 np6 => ⟨p6, [.int r, .int ((M : Int) + 1)], rfl, .inr (SqT.of upd_same), rfl, rfl, kt _ _ (same_new np6) ⟨bs ++ [_], by rw [ea, List.map_append]; rfl, by rw [List.length_append, hl]; rfl⟩⟩⟩⟩
      obtain ⟨bs, rfl, hbl⟩ := i12
      refine ⟨D5, _, rfl, .inl ⟨SqL.of e12, fun sy nsy => ⟨by show 4 ≤ sizeLine; decide, fun t nt => ?_⟩⟩⟩
      obtain ⟨nts, nt'⟩ := upd_none nt
      have s13 := same_new (o := .tup (bs.map V.bl)) nsy
      have s14 := same_new (o := .tup [.int ((M : Int) + 2), .ref st, .ref mt, .ref sy]) nt
      have sB := s12.trans (s13.trans s14)
      have sA := s11.trans sB
      refine k _ (.ref t) ⟨M + 2, sd, ms, bs⟩ (s10.trans sA) ⟨t, st, mt, sy, vs, rfl, upd_same, sA _ _ est10, sB _ _ upd_same, pm10.mono fun _ _ h => MtAt.tk (Tk.same sA) h, at_ne upd_same (Ne.symm nts)⟩
        ⟨by show 1 ≤ M + 2; omega, by show M + 2 ≤ 5; omega, fun s hs => by have := hsd s hs; exact ⟨this.1, by have := this.2; show s < ((M + 2 : Nat) : Int); omega⟩, by show 1 ≤ sd.length; omega, by show sd.length ≤ 4; omega, hm10, by show ms.length ≤ 100; omega, hbl⟩ hsl
end
end Pb
set_option Elab.async false
set_option linter.all false
set_option maxRecDepth 100000
set_option maxHeartbeats 4000000
namespace Pb
open PySem PySem.Spec PyProof.Rows L2
open C8 (Cal pe_c)
section
variable {P : Program} {w : World} {K : PySem.W.Frag} {mg : Str → Option Value} {base : Heap}
/-! ### _law_pair -/
theorem qn_head {H : Hp} {v : V} : ∀ {q : Qn}, QnAt H v q → ∃ a z xs, v = .ref a ∧ H a = some (.tup (.str z :: xs)) ∧ ((z = "not" ∧ q.depth ≠ 0) ∨ (z ≠ "not" ∧ q.depth = 0))
  | .least _ _, ⟨a, b, e, h1, h2⟩ => ⟨a, _, _, e, h1, .inr ⟨by decide, rfl⟩⟩
  | .more _ _, ⟨a, b, d, e, h1, h2, h3⟩ => ⟨a, _, _, e, h1, .inr ⟨by decide, rfl⟩⟩
  | .rest _ _ _, ⟨a, b, e, h1, h2⟩ => ⟨a, _, _, e, h1, .inr ⟨by decide, rfl⟩⟩
  | .not q, ⟨a, u, e, h1, h2⟩ => ⟨a, _, _, e, h1, .inl ⟨rfl, Nat.succ_ne_zero _⟩⟩
theorem sc_law_pair : FnScope ["_law_feed_here", "_law_most", "_law_rule_here", "_law_question_here"] ["_law_feed_here", "_law_most"] (defScope s_law_pair) := ⟨rfl, rfl, rfl, by decide +kernel, rfl, by decide +kernel, by decide +kernel⟩
def spPair : Sp := fun vs H Q _ => ∃ (f : Addr) (k : Nat), vs = [.ref f, .int 4] ∧ FeedAt H f k ∧ k + 200 ≤ 1000 ∧
  ∀ H' t u vq r q, But f H H' → FeedAt H' f (k + 200) → H' t = some (.tup [u, vq]) → RlAt H' u r → RlOk r → QnAt H' vq q → q.depth ≤ 1 → QnMk r.starts.length q → Q (.ref t) H'
theorem ok_law_pair (T : Tx mg) (D : DefAt K mg "_law_pair" s_law_pair []) (C1 : Cal P w K mg base 1 "_law_draw" spDraw []) (C2 : Cal P w K mg base 2 "_law_rule" spRule []) (C3 : Cal P w K mg base 3 "_law_question" (spQuest 1) []) (C4 : Cal P w K mg base 1 "_law_made" spMade []) : Cal P w K mg base 4 "_law_pair" spPair [] := by
  refine cal0 D sc_law_pair (fun _ _ _ _ _ _ us hl => match us, hl with | [_, _], _ => rfl) (fun vs H Q E ⟨_, _, e, _⟩ => by rw [e]; rfl) fun f cdv A outer s H0 vs Q E hr hsp => ?_
  obtain ⟨fd, k, rfl, fe, hk, q⟩ := hsp
  refine ⟨_, (pss_cons (ps_set (i := 2) sc_law_pair.nd rfl (.inl rfl) (pe_c C2 hr (by omega) rfl (pa_cons (pv 0) (pa_cons (pv 1) pa_nil))))
    (pss_cons (ps_set (i := 3) sc_law_pair.nd rfl (.inl rfl) (pe_c C3 hr (by omega) rfl (pa_cons (pv 0) (pa_cons (pe_callB call_len_seq (by rfl) T.len boot_len (pa_cons (pe_ix ix_tup (pv 2) pe_int (fun _ _ => rfl)) pa_nil)) (pa_cons pe_int pa_nil)))))
    (pss_cons (ps_if (PW.pt (pw_or (pt_cmpR op_eq (pe_ix ix_tup (pv 3) pe_int (fun _ _ => rfl)) pe_str (nomark _)) (pw_or1 (pt_cmpR op_eq (pe_c C1 hr (by omega) rfl (pa_cons (pv 0) (pa_cons pe_int pa_nil))) pe_int (nomark _)))))
      (pss_one (ps_ret (pe_tup (pa_cons (pv 2) (pa_cons (pv 3) pa_nil))))) pss_nil)
    (pss_one (ps_ret (pe_tup (pa_cons (pe_c C4 hr (by omega) rfl (pa_cons (pe_callB call_len_seq (by rfl) T.len boot_len (pa_cons (pe_ix ix_tup (pv 2) pe_int (fun _ _ => rfl)) pa_nil)) (pa_cons (pv 3) pa_nil))) (pa_cons (pv 3) pa_nil)))))))), ?_⟩
  refine ⟨_, rfl, _, rfl, fd, k, rfl, fe, by omega, fun H1 u r b1 f1 hR ho => ?_⟩
  obtain ⟨a, st, m, z, ms, rfl, ha, hst, hmm, hms, hz⟩ := id hR
  refine ⟨_, rfl, _, rfl, _, _, _, _, rfl, rfl, SqT.of ha, atI_nat (j := 1) rfl, st, _, rfl, .inr (SqT.of hst), ?_⟩
  rw [List.length_map]
  refine ⟨fd, r.starts.length, _, rfl, f1, by omega, ho.s1, ho.s4, fun H2 vq qn b2 f2 hq hd hmk => ?_⟩
  have t2 := f1.tk b2
  have hR2 := hR.tk t2
  have ha2 := t2 _ _ ha
  have hst2 := t2 _ _ hst
  obtain ⟨qa, zz, xs, rfl, hqa, hcase⟩ := qn_head hq
  have b02 := b1.trans b2
  have ret : ∀ (H' : Hp) (n : Nat), But fd H2 H' → FeedAt H' fd n → n ≤ k + 200 → ∀ t, H' t = none → Q (.ref t) (upd H' t (.tup [.ref a, .ref qa])) := fun H' n b fe hn t nt => by
    have s := same_new (o := .tup [.ref a, .ref qa]) nt
    have tt := (f2.tk b).trans (Tk.same s)
    exact q _ t _ _ r qn ((b02.trans b).trans (But.same s)) ((fe.mono hn).same s) upd_same (hR2.tk tt) ho (hq.tk tt) hd hmk
  refine ⟨_, rfl, _, _, _, _, rfl, rfl, SqT.of hqa, atI_nat (j := 0) rfl, rfl, _, rfl, ite2 (fun _ => ?_) (fun z => ?_)⟩
  · exact ⟨_, rfl, _, rfl, by show 2 ≤ sizeLine; decide, fun t nt => ret H2 _ (But.refl _ _) f2 (by omega) t nt⟩
  · have hd0 : qn.depth = 0 := by
      rcases hcase with ⟨h, _⟩ | ⟨_, h⟩
      · exact absurd (decide_eq_true (congrArg V.str h)) z
      · exact h
    refine ⟨_, rfl, fd, 2, _, rfl, f2, by omega, by decide, by decide, fun H3 x b3 f3 x0 x1 => ⟨rfl, _, rfl, ite2 (fun _ => ?_) (fun _ => ?_)⟩⟩
    · exact ⟨_, rfl, _, rfl, by show 2 ≤ sizeLine; decide, fun t nt => ret H3 _ b3 f3 (by omega) t nt⟩
    · have t3 := f2.tk b3
      refine ⟨_, rfl, _, _, _, _, rfl, rfl, SqT.of (t3 _ _ ha2), atI_nat (j := 1) rfl, st, _, rfl, .inr (SqT.of (t3 _ _ hst2)), ?_⟩
      rw [List.length_map]
      refine ⟨_, rfl, r.starts.length, .ref qa, qn, rfl, hq.tk t3, hmk, hd0, ho.s1, ho.s4, fun H4 u' r' s4 hR' ho' hl' => ⟨_, rfl, by show 2 ≤ sizeLine; decide, fun t nt => ?_⟩⟩
      have s := same_new (o := .tup [u', .ref qa]) nt
      have sA := s4.trans s
      exact q _ t u' _ r' qn ((b02.trans b3).trans (But.same sA)) ((f3.mono (by omega)).same sA) upd_same (hR'.tk (Tk.same s)) ho' (hq.tk (t3.trans (Tk.same sA))) hd (by rw [hl']; exact hmk)
/-! ### _law_words -/
theorem sc_law_words : FnScope ["_law_rule_here", "_law_crowd", "_law_words_here", "_law_end", "_law_word", "_law_due", "_law_one"] ["_law_rule_here", "_law_crowd"] (defScope s_law_words) := ⟨rfl, rfl, rfl, by decide +kernel, rfl, by decide +kernel, by decide +kernel⟩
def dueV : W3 → V
  | .yes => .bl true
  | .no => .bl false
  | .both => .non
def dueL : List (L2.Key × V) := [(.inr "yes", .bl true), (.inr "no", .bl false), (.inr "both", .non)]
theorem due_at {H : Hp} {p : Addr} (e : H p = some (.dK (mergeK [] dueL))) : ∀ z : W3, DGet H p (.str z.s) (some (dueV z))
  | .yes => DGet.k (k := .inr "yes") e
  | .no => DGet.k (k := .inr "no") e
  | .both => DGet.k (k := .inr "both") e
theorem st_end {r : Rl} {e : List Cr} {c : Cr} (hm : ∀ y, y ∈ e ↔ Reach (succ r) c y) : tri (stM r c) = dueV (endW r e) := by
  have E : ∀ z, (∀ d ∈ e, saidM r d = z) ↔ ∀ d, Reach (succ r) c d → saidM r d = z := fun z => ⟨fun h d hd => h d ((hm d).mpr hd), fun h d hd => h d ((hm d).mp hd)⟩
  unfold stM endW
  by_cases h1 : ∀ d, Reach (succ r) c d → saidM r d = .yes
  · rw [if_pos h1, if_pos ((E _).mpr h1)]; rfl
  · rw [if_neg h1, if_neg (show ¬ ∀ d ∈ e, saidM r d = .yes from fun z => h1 ((E _).mp z))]
    by_cases h2 : ∀ d, Reach (succ r) c d → saidM r d = .no
    · rw [if_pos h2, if_pos ((E _).mpr h2)]; rfl
    · rw [if_neg h2, if_neg (show ¬ ∀ d ∈ e, saidM r d = .no from fun z => h2 ((E _).mp z))]; rfl
theorem fm_none {α β : Type} (l : List α) : l.filterMap (fun _ => (none : Option β)) = [] := by
  induction l with
  | nil => rfl
  | cons a b ih => rw [List.filterMap_cons]; exact ih
theorem rep_due (z : W3) : ∃ s, repT (dueV z) = some s := by cases z <;> exact ⟨_, rfl⟩
def spWords : Sp := fun vs H Q _ => ∃ (r : Rl) (u v : V) (c : Cr) (h : Nat), vs = [u, v] ∧ RlAt H u r ∧ RlOk r ∧ CrAt H v c ∧ CrOk r h c ∧ h ≤ 4 ∧
  ∀ H' l (es : List (List Cr)), Same H H' → H l = none → H' l = some (.lst ((es.map (endW r)).map fun z => V.str z.s)) → es.Nodup → (∀ e, e ∈ es ↔ IsEnd (succ r) c e) → es.length ≤ 100 → Q (.ref l) H'
theorem ok_law_words (T : Tx mg) (D : DefAt K mg "_law_words" s_law_words []) (C1 : Cal P w K mg base 5 "ends_of" spEnds [.int 1000]) (C2 : Cal P w K mg base 5 "ring_says" spSays []) (C3 : Cal P w K mg base 5 "ring_to" spRingTo [.int 1000]) (C4 : Cal P w K mg base 6 "settled" spSettled [.int 1000]) : Cal P w K mg base 7 "_law_words" spWords [] := by
  refine cal0 D sc_law_words (fun _ _ _ _ _ _ us hl => match us, hl with | [_, _], _ => rfl) (fun vs H Q E ⟨_, _, _, _, _, e, _⟩ => by rw [e]; rfl) fun f cdv A outer s H0 vs Q E hr hsp => ?_
  obtain ⟨r, u, v, c, h, rfl, hR, ho, hv, hc, h4, q⟩ := hsp
  have hu := hu_of hr
  have hu64 := hu64_of hr
  refine ⟨_, (pss_cons (ps_set (i := 2) sc_law_words.nd rfl (.inl rfl) (pe_lst pa_nil))
    (pss_cons (ps_for PassesOwn.never rfl (pi_list (pe_c C1 hr (by omega) rfl (pa_cons (pv 0) (pa_cons (pv 1) pa_nil)))) (pg_name (i := 3) sc_law_words.nd rfl (.inl rfl))
      (pss_cons (ps_set (i := 4) sc_law_words.nd rfl (.inl rfl) (pe_c C2 hr (by omega) rfl (pa_cons (pv 0) (pa_cons (pv 1) (pa_cons (pe_c C3 hr (by omega) rfl (pa_cons (pv 0) (pa_cons (pv 1) (pa_cons (pv 3) pa_nil)))) pa_nil)))))
      (pss_cons (ps_set (i := 5) sc_law_words.nd rfl (.inr rfl) (pe_dget hu (pe_disp (pps_cons pe_str pe_bl (pps_cons pe_str pe_bl (pps_cons pe_str pe_non pps_nil))) (by rfl) (by rfl) (fun z => by cases z) (by decide)) (pv 4) (fun _ _ => rfl)))
      (pss_cons (ps_if (pt_cmpR (op_neD hu64) (pe_lc (own := [("_law_one", 6)]) (g := (gName 6)) (tt := (tTest (tOp rNe (tCB rRepr (tCons (tCall spSettled [.int 1000] E0 (tCons (tVar 0) (tCons (tVar 6) tNil))) tNil)) (tCB rRepr (tCons (tVar 5) tNil))))) (te := (tVar 6)) rfl sc_law_words.nd (pi_list (pv 3)) (blkOk_by (N := ["_law_rule_here", "_law_crowd", "_law_words_here", "_law_end", "_law_word", "_law_due", "_law_one"]) (sc := defScope s_law_words) (by decide +kernel)) (fun _ _ _ _ _ => (pg_name (i := 6) sc_law_words.nd rfl (.inl rfl))) (fun _ _ _ _ _ => (pts_one (pt_cmpR op_ne (pe_callB call_repr_trin (by rfl) T.repr boot_repr (pa_cons (pe_c C4 hr (by omega) rfl (pa_cons (pv 0) (pa_cons (pv 6) pa_nil))) pa_nil)) (pe_callB call_repr_trin (by rfl) T.repr boot_repr (pa_cons (pv 5) pa_nil)) (nomark _)))) (fun _ _ _ _ _ => (pv 6))) (pe_lst pa_nil) (nomark _))
        (pss_one (ps_ret pe_non)) pss_nil)
      (pss_one (ps_expr (pe_bm PySem.F.plainAttrs_list PySem.F.slot_list_append PySem.F.type_list_append mt_append (pv 2) (pa_cons (pv 4) pa_nil))))))))
    (pss_one (ps_ret (pv 2))))), ?_⟩
  refine ⟨by show 0 ≤ sizeLine; decide, fun wn nwn => ?_⟩
  have s1 := same_new (o := .lst []) nwn
  refine ⟨_, rfl, _, rfl, r, u, v, c, h, rfl, hR.tk (Tk.same s1), ho, hv.tk (Tk.same s1), hc, h4, fun H2 le vs es s2 n2 e2 p2 hne hme hle => ?_⟩
  have s02 := s1.trans s2
  have ewn := s2 _ _ (show upd H0 wn (.lst []) wn = some (.lst []) from upd_same)
  refine ⟨le, rfl, ⟨_, SqL.of e2⟩, ?_⟩
  have lew : le ≠ wn := (ne_of_none upd_same n2).symm
  refine for_it (walk_list (K := K) (a := le) (xs := vs)) (fun i σ H' => ∃ (y3 y4 y5 y6 : Option V), σ = [some u, some v, some (.ref wn), y3, y4, y5, y6] ∧ But wn H2 H' ∧ H' wn = some (.lst (((es.take i).map (endW r)).map fun z => V.str z.s)))
    ⟨none, none, none, none, rfl, But.refl _ _, ewn⟩ (fun i σ H' _ ⟨_, _, _, _, _, h, _⟩ => SqL.of (h _ _ lew e2)) ?_ ?_
  · rintro i x σ H3 H4 hi ⟨y3, y4, y5, y6, rfl, b3, ew3⟩ ⟨rfl, hx⟩
    obtain ⟨e, he, l, ws, rfl, hl, hws⟩ := paired_get p2 hx
    have hem := List.mem_of_getElem? he
    have hE := (hme e).mp hem
    have k3 : Tk H2 H4 := Tk.butL ewn b3
    have lw : l ≠ wn := fun z => by
      rw [z, ewn] at hl
      cases hl
      cases hws
      obtain ⟨x0, _, _, hx3⟩ := hE.x
      exact nomatch (hx3 x0).mpr (.refl _)
    have hl3 := b3 _ _ lw hl
    have hws3 := crs_tk k3 hws
    have k03 := (Tk.same s02).trans k3
    obtain ⟨x0, hx1, hx2, hx3⟩ := hE.x
    have hIs : IsE (succ r) c e := ⟨hE.nd, ⟨x0, (hx3 x0).mpr (.refl _), hx1⟩, hE.mem⟩
    have hecl : ∀ x ∈ e, ∀ p ∈ succ r x, p.2 ∈ e := fun x hx p hp => (hE.mem x hx p.2).mpr (.one ⟨p.1, hp⟩)
    refine ⟨_, rfl, _, rfl, _, rfl, _, rfl, _, rfl, r, u, v, l, c, h, e, ws, rfl, hR.tk k03, ho, hv.tk k03, hc, h4, hl3, hws3, hIs, fun H5 t ns1 ns2 d ps1 ps2 s5 ht rg => ?_⟩
    have k05 := k03.trans (Tk.same s5)
    refine ⟨r, u, v, t, c, h, ns1, ns2, d, ps1, ps2, e, rfl, hR.tk k05, ho, hv.tk k05, hc, ht, rg, hecl, fun H6 s6 => ?_⟩
    -- due
    refine fun p np => ⟨upd_same, dueL, rfl, by decide, _, rfl, p, dueV (endW r e), rfl, due_at upd_same _, ?_⟩
    rw [upd_upd]
    have s7 := same_new (o := .dK (mergeK [] dueL)) np
    generalize upd H6 p (.dK (mergeK [] dueL)) = H7 at *
    have s47 := (s5.trans s6).trans s7
    have k07 := k03.trans (Tk.same s47)
    have hl7 := s47 _ _ hl3
    have hws7 := crs_tk (Tk.same s47) hws3
    obtain ⟨rs, hrs⟩ := rep_due (endW r e)
    have hel : e.length ≤ 100 := Nat.le_trans (few ho h4 hE.nd fun x hx => reach_ok ho hc (hx1.trans ((hx3 x).mp hx))) (by decide)
    refine ⟨_, rfl, l, rfl, ⟨_, SqL.of hl7⟩, fun D8 nD8 => ?_⟩
    refine lc_same (β := Cr) (walk_list (K := K) (a := l) (xs := ws)) e (fun _ => none) (fun _ _ _ => True) (Paired.length hws) (by rw [Paired.length hws]; exact big _ (by omega)) nD8 (fun H1 s => SqL.of (s _ _ hl7)) (fun _ _ _ _ _ _ _ _ h => h) ?_ (fun H9 acc9 s9 e9 p9 => ?_)
    · intro j y x H8 H9 Kt Kf kt kf hp s8 _ hy
      obtain ⟨rfl, hx⟩ := hy
      obtain ⟨x', hx', hxc⟩ := Paired.getR hws7 hp
      obtain rfl : x' = x := Option.some.inj (hx'.symm.trans hx)
      have hyr : Reach (succ r) c y := hx1.trans ((hx3 y).mp (List.mem_of_getElem? hp))
      refine ⟨rfl, _, rfl, _, rfl, r, u, x', y, h, rfl, hR.tk (k07.trans (Tk.same s8)), ho, hxc.tk (Tk.same s8), reach_ok ho hc hyr, h4, fun H10 s10 => ?_⟩
      rw [st_end (hE.mem y (List.mem_of_getElem? hp))]
      refine ⟨_, rs, rfl, hrs, _, rfl, _, rs, rfl, hrs, rfl, _, rfl, ite2 (fun z => by simp at z) (fun _ => kf _ s10 rfl)⟩
    · have h9 : acc9 = [] := by
        rw [fm_none] at p9
        cases p9
        rfl
      subst h9
      refine ⟨by show 0 ≤ sizeLine; decide, fun p2 np2 => ?_⟩
      have s10 := same_new (o := .lst []) np2
      refine ⟨ld [], ld [], dp_ld (s10 _ _ e9) .nil, dp_ld upd_same .nil, shaped_ld _, shaped_ld _, _, rfl, ?_⟩
      rw [eqv_ld]
      refine ite2 (fun z => by simp at z) (fun _ => ?_)
      have sL := (s47.trans s9).trans s10
      have ewL := sL _ _ ew3
      refine ⟨_, rfl, .inl ⟨rfl, _, SqL.of ewL⟩, _, rfl, wn, _, _, rfl, rfl, ewL, small1000 (by rw [List.length_map, List.length_map, List.length_take]; omega), ?_⟩
      refine ⟨_, _, _, _, rfl, (b3.trans (But.same sL)).self, ?_⟩
      have etk : es.take (i + 1) = es.take i ++ [e] := by rw [List.take_add_one, he]; rfl
      rw [upd_same, etk, List.map_append, List.map_append]
      rfl
  · rintro σ H3 ⟨y3, y4, y5, y6, rfl, b3, ew3⟩
    rw [Paired.length p2, List.take_length] at ew3
    exact ⟨_, rfl, q H3 wn es (b3.toSame' nwn s02) nwn ew3 hne hme hle⟩
end
end Pb
set_option Elab.async false
set_option linter.all false
set_option maxRecDepth 100000
/-! what the ends tell -/
namespace Pb
section
variable {S : Cr → List (Int × Cr)} {L : List Cr} {c0 : Cr}
theorem to_end (hn : L.Nodup) (hm : ∀ c, c ∈ L ↔ Reach S c0 c) : ∀ (k : Nat) {c : Cr}, (rL S L c).length ≤ k → Reach S c0 c → ∃ e x, IsEnd S c0 e ∧ x ∈ e ∧ Reach S c x
  | k, c, hk, hc => by
    have hcL := (hm c).mpr hc
    by_cases h : ∀ y, Reach S c y → Reach S y c
    · exact ⟨rL S L c, c, ⟨rL_nd hn c, rL_so c, c, hc, h, rL_mem hm hcL⟩, (rL_mem hm hcL c).mpr (.refl _), .refl _⟩
    · have h' : ∃ y, Reach S c y ∧ ¬ Reach S y c := Classical.byContradiction fun z => h fun y hy => Classical.byContradiction fun w => z ⟨y, hy, w⟩
      obtain ⟨y, hy, hyc⟩ := h'
      have hyr := hc.trans hy
      have hyL := (hm y).mpr hyr
      have hlt : (rL S L y).length + 1 ≤ (rL S L c).length := by
        have := nodup_len (l := c :: rL S L y) (m := rL S L c) (List.nodup_cons.mpr ⟨fun z => hyc ((rL_mem hm hyL c).mp z), rL_nd hn y⟩) fun x hx => by
          rcases List.mem_cons.mp hx with rfl | hx
          · exact (rL_mem hm hcL x).mpr (.refl _)
          · exact (rL_mem hm hcL x).mpr (hy.trans ((rL_mem hm hyL x).mp hx))
        exact this
      match k, hk with
      | 0, hk => omega
      | k + 1, hk =>
        obtain ⟨e, x, h1, h2, h3⟩ := to_end hn hm k (c := y) (by omega) hyr
        exact ⟨e, x, h1, h2, hy.trans h3⟩
end
theorem endW_of {r : Rl} {e : List Cr} {x : Cr} (hx : x ∈ e) (b : Bool) : endW r e = W3.of b ↔ ∀ c ∈ e, saidM r c = W3.of b := by
  constructor
  · intro h
    unfold endW at h
    by_cases h1 : ∀ c ∈ e, saidM r c = .yes
    · rw [if_pos h1] at h; rw [← h]; exact h1
    · rw [if_neg h1] at h
      by_cases h2 : ∀ c ∈ e, saidM r c = .no
      · rw [if_pos h2] at h; rw [← h]; exact h2
      · rw [if_neg h2] at h
        cases b <;> cases h
  · intro h
    rw [endW_all hx fun c hc => (h c hc).trans (h x hx).symm]
    exact h x hx
theorem endW_cases (r : Rl) (e : List Cr) : endW r e = .both ∨ ∃ b, endW r e = W3.of b := by
  cases h : endW r e with
  | yes => exact .inr ⟨true, rfl⟩
  | no => exact .inr ⟨false, rfl⟩
  | both => exact .inl rfl
section
variable {r : Rl} {L : List Cr} {c0 : Cr} {es : List (List Cr)} (hn : L.Nodup) (hm : ∀ c, c ∈ L ↔ Reach (succ r) c0 c) (he : ∀ e, e ∈ es ↔ IsEnd (succ r) c0 e)
include hn hm he
theorem ans_words (b : Bool) : ansP r (W3.of b) c0 ↔ ∀ z ∈ es.map (endW r), z = W3.of b := by
  constructor
  · intro h z hz
    obtain ⟨e, hem, rfl⟩ := List.mem_map.mp hz
    have hE := (he e).mp hem
    obtain ⟨x, h1, h2, h3⟩ := hE.x
    have hx := (h3 x).mpr (.refl _)
    obtain ⟨d, hd, hw⟩ := h x h1
    have hde := (h3 d).mpr hd
    exact (endW_of hx b).mpr fun y hy => Classical.byContradiction fun hne => hw ⟨y, (hE.mem d hde y).mp hy, hne⟩
  · intro h c hc
    obtain ⟨e, x, hE, hx, hcx⟩ := to_end hn hm _ (Nat.le_refl _) hc
    have := h _ (List.mem_map.mpr ⟨e, (he e).mpr hE, rfl⟩)
    have hall := (endW_of hx b).mp this
    exact ⟨x, hcx, fun ⟨d, hd, hne⟩ => hne (hall d ((hE.mem x hx d).mpr hd))⟩
theorem inner_words : (∀ c, Reach (succ r) c0 c → stM r c = none) ↔ ∀ z ∈ es.map (endW r), z = .both := by
  constructor
  · intro h z hz
    obtain ⟨e, hem, rfl⟩ := List.mem_map.mp hz
    have hE := (he e).mp hem
    obtain ⟨x, h1, h2, h3⟩ := hE.x
    have := st_end h3
    rw [h x h1] at this
    cases hz : endW r e with
    | yes => rw [hz] at this; cases this
    | no => rw [hz] at this; cases this
    | both => rfl
  · intro h c hc
    obtain ⟨e, x, hE, hx, hcx⟩ := to_end hn hm _ (Nat.le_refl _) hc
    have hb := h _ (List.mem_map.mpr ⟨e, (he e).mpr hE, rfl⟩)
    have no : ∀ b : Bool, ¬ ∀ d, Reach (succ r) c d → saidM r d = W3.of b := fun b hall => by
      have := (endW_of hx b).mpr fun d hd => hall d (hcx.trans ((hE.mem x hx d).mp hd))
      rw [hb] at this
      cases b <;> cases this
    unfold stM
    rw [if_neg (show ¬ ∀ d, Reach (succ r) c d → saidM r d = .yes from no true), if_neg (show ¬ ∀ d, Reach (succ r) c d → saidM r d = .no from no false)]
end
/-- counted: all of them -/
theorem cnt_all (ws : List W3) (z : W3) : ((((ws.map fun z => W3.s z).countP fun y => decide (y = z.s)) : Nat) : Int) = (ws.length : Int) ↔ ∀ w ∈ ws, w = z := by
  rw [List.countP_map]
  have e : ((fun y => decide (y = z.s)) ∘ fun z => W3.s z) = fun w => decide (w = z) := by
    funext w
    show decide (w.s = z.s) = decide (w = z)
    by_cases h : w = z
    · subst h; simp
    · have : ¬ w.s = z.s := fun q => h (W3.s_inj q)
      simp [h, this]
  rw [e]
  constructor
  · intro h
    have h : ws.countP (fun w => decide (w = z)) = ws.length := by omega
    have := List.countP_eq_length.mp h
    intro w hw
    exact of_decide_eq_true (this w hw)
  · intro h
    have : ws.countP (fun w => decide (w = z)) = ws.length := List.countP_eq_length.mpr fun w hw => decide_eq_true (h w hw)
    omega
theorem not_words (ws : List W3) (b : Bool) : (∀ w ∈ ws, w = W3.of (!b)) ↔ W3.of b ∉ ws ∧ W3.both ∉ ws := by
  constructor
  · intro h
    exact ⟨(fun z => by have := h _ z; cases b <;> cases this), (fun z => by have := h _ z; cases b <;> cases this)⟩
  · rintro ⟨h1, h2⟩ w hw
    cases b <;> cases w <;> first | rfl | exact absurd hw h1 | exact absurd hw h2
end Pb
set_option Elab.async false
set_option linter.all false
set_option maxRecDepth 100000
set_option maxHeartbeats 4000000
namespace Pb
open PySem PySem.Spec PyProof.Rows L2
open C8 (Cal pe_c)
section
variable {P : Program} {w : World} {K : PySem.W.Frag} {mg : Str → Option Value} {base : Heap}
def rNotNone : R2 := fun x y H Q => y = .non ∧ Q (.bl (!decide (x = .non))) H
theorem op_notNn {X : Cx} : OpR X (compareOp .IsNot) rNotNone := op_notN
theorem sql_same {H H' : Hp} {a : Addr} {xs : List V} (s : Same H H') (h : SqL K H a xs) : SqL K H' a xs := h.elim (fun h => .inl (rd_same s h)) .inr
theorem flat_strs (ws : List W3) : ((ws.map fun z => V.str z.s)).all flatV = true := by
  induction ws with
  | nil => rfl
  | cons b ws ih => rw [List.map_cons, List.all_cons, ih]; rfl
theorem in_strs (z : W3) (ws : List W3) : inV (.str z.s) (ws.map fun z => V.str z.s) = decide (z ∈ ws) := by
  unfold inV
  induction ws with
  | nil => rfl
  | cons a ws ih =>
    rw [List.map_cons, List.any_cons, ih]
    show ((a.s == z.s) || decide (z ∈ ws)) = decide (z ∈ a :: ws)
    by_cases e : a = z
    · subst e; simp
    · have e1 : (a.s == z.s) = false := by rw [beq_eq_false_iff_ne]; exact fun q => e (W3.s_inj q)
      have e2 : ¬ z = a := fun q => e q.symm
      rw [e1]; simp [e2]
theorem at_truth (b : Bool) : atI [V.str "no", .str "yes"] (if b = true then 1 else 0) = some (.str (W3.of b).s) := by
  cases b
  · exact atI_nat (j := 0) rfl
  · exact atI_nat (j := 1) rfl
theorem ne_refl {x : V} : (!decide (x = x)) = true → False := fun z => by simp at z
theorem rep_bl (b : Bool) : ∃ s, repT (.bl b) = some s := by cases b <;> exact ⟨_, rfl⟩
theorem sc_law : FnScope ["_law_script", "_law_k", "_law_feed_here", "_law_rule_here", "_law_question_here", "_law_turn", "_law_counts_here", "_law_crowd", "_law_words_here", "_law_truth", "_law_due", "_law_inner", "_law_one"] ["_law_script"] (defScope s_law) := ⟨rfl, rfl, rfl, by decide +kernel, rfl, by decide +kernel, by decide +kernel⟩
def spLaw (K : PySem.W.Frag) : Sp := fun vs H Q _ => ∃ (a : Addr) (ns : List Int), vs = [.ref a] ∧ SqL K H a (ns.map V.int) ∧ ns.length < 1073741824 ∧ ∀ H', Q (.bl true) H'
theorem law_body (T : Tx mg) (C1 : Cal P w K mg base 1 "_law_feed" (spFeed (K := K)) []) (C2 : Cal P w K mg base 4 "_law_pair" spPair []) (C3 : Cal P w K mg base 2 "_law_counts" spCounts []) (C4 : Cal P w K mg base 1 "_law_begun" spBegun []) (C5 : Cal P w K mg base 7 "_law_words" spWords []) (C6 : Cal P w K mg base 3 "_law_ends" spLawEnds [])
    (C7 : Cal P w K mg base 2 "_law_holds" (spHolds 1) []) (C8 : Cal P w K mg base 8 "answers" spAns [.int 1000]) (C9 : Cal P w K mg base 8 "err_at" spErr [.int 1000]) (C10 : Cal P w K mg base 5 "come" (spCome [.int 1000]) [.int 1000]) (C11 : Cal P w K mg base 6 "settled" spSettled [.int 1000]) :
    BodyOk P w K mg base "law" s_law ["_law_script", "_law_k", "_law_feed_here", "_law_rule_here", "_law_question_here", "_law_turn", "_law_counts_here", "_law_crowd", "_law_words_here", "_law_truth", "_law_due", "_law_inner", "_law_one"] 8 (spLaw K) := by
  refine fun f cdv A outer s H0 vs Q E hr hsp => ?_
  obtain ⟨a, ns, rfl, hS, hns, q⟩ := hsp
  have hu64 := hu64_of hr
  refine ⟨_, (pss_cons (ps_for PassesOwn.never rfl (pi_range1 (by rfl) T.range (pa_cons pe_int pa_nil)) (pg_name (i := 1) sc_law.nd rfl (.inl rfl))
      (pss_cons (ps_set (i := 2) sc_law.nd rfl (.inl rfl) (pe_c C1 hr (by omega) rfl (pa_cons (pv 0) (pa_cons (pv 1) pa_nil))))
      (pss_cons (ps_asg (pe_c C2 hr (by omega) rfl (pa_cons (pv 2) (pa_cons pe_int pa_nil))) (pg_tup rfl (pgs_cons (pg_name (i := 3) sc_law.nd rfl (.inr rfl)) (pgs_cons (pg_name (i := 4) sc_law.nd rfl (.inl rfl)) pgs_nil))))
      (pss_one (ps_for PassesOwn.never rfl (pi_range1 (by rfl) T.range (pa_cons pe_int pa_nil)) (pg_name (i := 5) sc_law.nd rfl (.inl rfl))
        (pss_cons (ps_set (i := 6) sc_law.nd rfl (.inl rfl) (pe_c C3 hr (by omega) rfl (pa_cons (pv 2) (pa_cons (pe_callB call_len_seq (by rfl) T.len boot_len (pa_cons (pe_ix ix_tup (pv 3) pe_int (fun _ _ => rfl)) pa_nil)) (pa_cons pe_int pa_nil)))))
        (pss_cons (ps_set (i := 7) sc_law.nd rfl (.inl rfl) (pe_c C4 hr (by omega) rfl (pa_cons (pv 3) (pa_cons (pv 6) pa_nil))))
        (pss_cons (ps_set (i := 8) sc_law.nd rfl (.inl rfl) (pe_c C5 hr (by omega) rfl (pa_cons (pv 3) (pa_cons (pv 7) pa_nil))))
        (pss_cons (ps_if (PW.pt (pw_or (pt_cmpR op_isN (pv 8) pe_non (nomark _)) (pw_or1 (pt_cmpR op_ne (pe_callB call_len_seq (by rfl) T.len boot_len (pa_cons (pv 8) pa_nil)) (pe_callB call_len_seq (by rfl) T.len boot_len (pa_cons (pe_c C6 hr (by omega) rfl (pa_cons (pv 3) (pa_cons (pv 7) pa_nil))) pa_nil)) (nomark _)))))
          (pss_one (ps_ret pe_bl)) pss_nil)
        (pss_cons (ps_set (i := 9) sc_law.nd rfl (.inl rfl) (pe_ix ix_list (pe_lst (pa_cons pe_str (pa_cons pe_str pa_nil))) (pe_callTy call_int1n (by rfl) T.int boot_int (pa_cons (pe_c C7 hr (by omega) rfl (pa_cons (pv 4) (pa_cons (pv 6) pa_nil))) pa_nil)) (fun _ _ => rfl)))
        (pss_cons (ps_set (i := 10) sc_law.nd rfl (.inl rfl) (pe_cmpR op_eq (pe_bm PySem.F.plainAttrs_list PySem.F.slot_list_count PySem.F.type_list_count mt_countS (pv 8) (pa_cons (pv 9) pa_nil)) (pe_callB call_len_seq (by rfl) T.len boot_len (pa_cons (pv 8) pa_nil)) (nomark _)))
        (pss_cons (ps_if (pt_cmpR op_ne (pe_callB call_repr_trin (by rfl) T.repr boot_repr (pa_cons (pe_c C8 hr (by omega) rfl (pa_cons (pv 3) (pa_cons (pv 4) (pa_cons (pv 6) pa_nil)))) pa_nil)) (pe_callB call_repr_trin (by rfl) T.repr boot_repr (pa_cons (pv 10) pa_nil)) (nomark _))
          (pss_one (ps_ret pe_bl)) pss_nil)
        (pss_cons (ps_if (pt_cmpR op_ne (pe_cmpR op_isN (pe_c C9 hr (by omega) rfl (pa_cons (pv 3) (pa_cons (pv 4) (pa_cons (pv 6) pa_nil)))) pe_non (nomark _)) (pv 10) (nomark _))
          (pss_one (ps_ret pe_bl)) pss_nil)
        (pss_cons (ps_set (i := 10) sc_law.nd rfl (.inl rfl) (pe_and (pe_cmpR op_notIn_seq (pv 9) (pv 8) (by rfl)) (pe_one (pe_cmpR op_notIn_seq pe_str (pv 8) (by rfl)))))
        (pss_cons (ps_if (pt_cmpR op_ne (pe_callB call_repr_trin (by rfl) T.repr boot_repr (pa_cons (pe_c C8 hr (by omega) rfl (pa_cons (pv 3) (pa_cons (pe_tup (pa_cons pe_str (pa_cons (pv 4) pa_nil))) (pa_cons (pv 6) pa_nil)))) pa_nil)) (pe_callB call_repr_trin (by rfl) T.repr boot_repr (pa_cons (pv 10) pa_nil)) (nomark _))
          (pss_one (ps_ret pe_bl)) pss_nil)
        (pss_cons (ps_setLc (i := 11) (own := [("_law_one", 12)]) (g := (gName 12)) (tt := (tTest (tOp rNotNone (tCall spSettled [.int 1000] E0 (tCons (tVar 3) (tCons (tVar 12) tNil))) (tC .non)))) (te := (tVar 12)) rfl sc_law.nd rfl rfl (sw_true rfl rfl rfl (by decide +kernel)) (pi_list (pe_c C10 hr (by omega) rfl (pa_cons (pv 3) (pa_cons (pv 7) pa_nil)))) (blkOk_by (N := ["_law_script", "_law_k", "_law_feed_here", "_law_rule_here", "_law_question_here", "_law_turn", "_law_counts_here", "_law_crowd", "_law_words_here", "_law_truth", "_law_due", "_law_inner", "_law_one"]) (sc := defScope s_law) (by decide +kernel)) (fun _ _ _ _ _ => (pg_name (i := 12) sc_law.nd rfl (.inl rfl))) (fun _ _ _ _ _ => (pts_one (pt_cmpR op_notNn (pe_c C11 hr (by omega) rfl (pa_cons (pv 3) (pa_cons (pv 12) pa_nil))) pe_non (nomark _)))) (fun _ _ _ _ _ => (pv 12)))
        (pss_one (ps_if (pt_cmpR op_ne (pe_cmpR (op_eqD hu64) (pv 11) (pe_lst pa_nil) (nomark _)) (pe_cmpR op_eq (pe_bm PySem.F.plainAttrs_list PySem.F.slot_list_count PySem.F.type_list_count mt_countS (pv 8) (pa_cons pe_str pa_nil)) (pe_callB call_len_seq (by rfl) T.len boot_len (pa_cons (pv 8) pa_nil)) (nomark _)) (nomark _))
          (pss_one (ps_ret pe_bl)) pss_nil))))))))))))))))))
    (pss_one (ps_ret pe_bl))), ?_⟩
  refine ⟨_, rfl, by decide, by decide, ?_⟩
  refine for_it (walk_range (lo := 0) (n := (4 : Int).toNat)) (fun i σ H' => ∃ (y1 y2 y3 y4 y5 y6 y7 y8 y9 y10 y11 : Option V), σ = [some (.ref a), y1, y2, y3, y4, y5, y6, y7, y8, y9, y10, y11, none] ∧ Same H0 H')
    ⟨none, none, none, none, none, none, none, none, none, none, none, rfl, Same.refl _⟩ (fun _ _ _ _ _ => trivial) ?_ (fun σ H1 _ => q H1)
  rintro i xx σ H1 H2 hi ⟨y1, y2, y3, y4, y5, y6, y7, y8, y9, y10, y11, rfl, s1⟩ ⟨rfl, rfl⟩
  -- the feed, the rule, the question
  refine ⟨_, rfl, _, rfl, a, ns, _, rfl, sql_same s1 hS, hns, fun H3 fd s3 nfd f3 => ?_⟩
  have nfd0 : H0 fd = none := s1.free nfd
  have s03 := s1.trans s3
  refine ⟨_, rfl, fd, 0, rfl, f3, by decide, fun H4 t u vq r qn b4 f4 et hR ho hq hd hmk => ?_⟩
  have s04 : Same H0 H4 := b4.toSame' nfd0 s03
  refine ⟨t, _, rfl, SqT.of et, rfl, _, _, rfl, _, _, rfl, rfl, ?_⟩
  refine ⟨_, rfl, by decide, by decide, ?_⟩
  refine for_it (walk_range (lo := 0) (n := (2 : Int).toNat)) (fun j σ H' => ∃ (y5 y6 y7 y8 y9 y10 y11 : Option V), σ = [some (.ref a), some (.int (0 + (i : Int))), some (.ref fd), some u, some vq, y5, y6, y7, y8, y9, y10, y11, none] ∧ Same H0 H' ∧ FeedAt H' fd (300 + 10 * j) ∧ RlAt H' u r ∧ QnAt H' vq qn)
    ⟨y5, y6, y7, y8, y9, y10, y11, rfl, s04, f4.mono (by omega), hR, hq⟩ (fun _ _ _ _ _ => trivial) ?_ (fun σ H5 ⟨y5, y6, y7, y8, y9, y10, y11, e, s, _⟩ => ⟨_, _, _, _, _, _, _, _, _, _, _, e, s⟩)
  clear hR hq et f4 b4
  rintro j xx σ H5 H6 hj ⟨y5, y6, y7, y8, y9, y10, y11, rfl, s5, f5, hR, hq⟩ ⟨rfl, rfl⟩
  have hj2 : j < 2 := hj
  obtain ⟨ra, st, m, z, ms, rfl, ha, hst, hmm, hms, hz⟩ := id hR
  -- counts
  refine ⟨_, rfl, _, rfl, _, _, _, _, rfl, rfl, SqT.of ha, atI_nat (j := 1) rfl, st, _, rfl, .inr (SqT.of hst), ?_⟩
  rw [List.length_map]
  refine ⟨fd, r.starts.length, _, rfl, f5, by omega, ho.s1, ho.s4, fun H7 vc cs h b7 f7 hcs hcl hcp hcsum h4 => ?_⟩
  have t7 := f5.tk b7
  have s07 : Same H0 H7 := b7.toSame' nfd0 s5
  have hR7 := hR.tk t7
  have hq7 := hq.tk t7
  have hco : CrOk r h (begM r cs) := begM_ok ho hcl hcp hcsum
  generalize hc0 : begM r cs = c0 at *
  -- crowd, words
  refine ⟨_, rfl, _, rfl, r, _, vc, cs, rfl, hR7, ho, hcs, hcl, fun H8 v8 s8 hv8 => ?_⟩
  rw [hc0] at hv8
  refine ⟨_, rfl, _, rfl, r, _, v8, c0, h, rfl, hR7.tk (Tk.same s8), ho, hv8, hco, h4, fun H9 lw es s9 n9 ew hne hme hle => ?_⟩
  have s79 := s8.trans s9
  generalize hws : es.map (endW r) = ws at *
  -- words is None or ..
  refine ⟨_, rfl, rfl, _, rfl, ite2 (fun z => absurd (of_decide_eq_true z) (fun q => by cases q)) (fun _ => ?_)⟩
  refine ⟨_, rfl, lw, _, rfl, .inl (SqL.of ew), ?_⟩
  refine ⟨_, rfl, _, rfl, r, _, v8, c0, h, rfl, hR7.tk (Tk.same s79), ho, hv8.tk (Tk.same s9), hco, h4, fun H10 le ve es2 s10 n10 e10 p10 hne2 hme2 hle2 ⟨L, hn, hm⟩ => ?_⟩
  have s710 := s79.trans s10
  have hlen : ((ws.map fun z => V.str z.s).length : Int) = (ve.length : Int) := by
    have h1 : es.length = es2.length := Nat.le_antisymm (nodup_len hne fun e he => (hme2 e).mpr ((hme e).mp he)) (nodup_len hne2 fun e he => (hme e).mpr ((hme2 e).mp he))
    rw [List.length_map, ← hws, List.length_map, Paired.length p10, h1]
  refine ⟨le, _, rfl, .inl (SqL.of e10), rfl, _, rfl, ite2 (fun z => by rw [hlen] at z; exact (ne_refl z).elim) (fun _ => ?_)⟩
  have hwords : ∀ b : Bool, ansP r (W3.of b) c0 ↔ ∀ z ∈ ws, z = W3.of b := fun b => by rw [← hws]; exact ans_words hn hm hme b
  have hinner : (∀ c, Reach (succ r) c0 c → stM r c = none) ↔ ∀ z ∈ ws, z = .both := by rw [← hws]; exact inner_words hn hm hme
  -- truth
  have hok : QnOk cs.length qn := by rw [hcl]; exact hmk.ok
  refine ⟨by show 2 ≤ sizeLine; decide, fun p np => ?_⟩
  have s11 := same_new (o := .lst [.str "no", .str "yes"]) np
  have s711 := s710.trans s11
  refine ⟨_, rfl, _, rfl, vq, vc, qn, cs, rfl, hq7.tk (Tk.same s711), hd, hok, hmk.len, hcs.tk (Tk.same s711), fun H12 s12 => .inr ⟨_, rfl, p, _, _, _, rfl, rfl, SqL.of (s12 _ _ upd_same), at_truth _, ?_⟩⟩
  generalize hb : holdsM cs qn = b at *
  have s712 := s711.trans s12
  have ew12 := s12 _ _ (s11 _ _ (s10 _ _ ew))
  have ewS : ∀ {H' : Hp}, Same H12 H' → H' lw = some (.lst ((ws.map W3.s).map V.str)) := fun s => by rw [List.map_map]; exact s _ _ ew12
  have ewF : ∀ {H' : Hp}, Same H12 H' → H' lw = some (.lst (ws.map fun z => V.str z.s)) := fun s => s _ _ ew12
  -- due
  refine ⟨_, rfl, .inl ⟨rfl, _, SqL.of ew12⟩, _, rfl, lw, ws.map W3.s, (W3.of b).s, rfl, rfl, SqL.of (ewS (Same.refl _)), _, rfl, lw, _, rfl, .inl (SqL.of ew12), rfl, ?_⟩
  have hD1 : ∀ z : W3, decide (V.int ((((ws.map W3.s).countP fun y => decide (y = z.s)) : Nat) : Int) = V.int (((ws.map fun z => V.str z.s).length : Nat) : Int)) = true ↔ ∀ w ∈ ws, w = z := fun z => by
    rw [dec_eqI, decide_eq_true_iff, List.length_map]
    exact cnt_all ws z
  have hD1b := hD1 (W3.of b)
  generalize decide (V.int ((((ws.map W3.s).countP fun y => decide (y = (W3.of b).s)) : Nat) : Int) = V.int (((ws.map fun z => V.str z.s).length : Nat) : Int)) = d1 at *
  -- answers
  have hQs : ∀ {H' : Hp}, Same H7 H' → Qs H' r (.ref ra) vq vc qn cs h := fun s => ⟨hR7.tk (Tk.same s), ho, hq7.tk (Tk.same s), by omega, hok, hmk.len, hcs.tk (Tk.same s), hcl, hcp, hcsum, h4⟩
  obtain ⟨sd, hsd⟩ := rep_bl d1
  refine ⟨_, rfl, _, rfl, _, rfl, r, _, vq, vc, qn, cs, h, rfl, hQs s712, fun H13 bA s13 hA => ?_⟩
  have e1 : bA = d1 := by
    rw [hb, hc0, hwords b, ← hD1b] at hA
    exact Bool.eq_iff_iff.mpr hA
  rw [e1]
  refine ⟨_, sd, rfl, hsd, _, rfl, _, sd, rfl, hsd, rfl, _, rfl, ite2 (fun z => (ne_refl z).elim) (fun _ => ?_)⟩
  have s713 := s712.trans s13
  -- err_at
  refine ⟨_, rfl, _, rfl, _, rfl, r, _, vq, vc, qn, cs, h, rfl, hQs s713, fun H14 vE s14 hE => ⟨rfl, _, rfl, rfl, _, rfl, ?_⟩⟩
  have e2 : decide (vE = V.non) = d1 := by
    rw [hb, hc0, hwords b, ← hD1b] at hE
    refine Bool.eq_iff_iff.mpr ?_
    rw [decide_eq_true_iff]
    exact hE
  rw [e2]
  refine ite2 (fun z => (ne_refl z).elim) (fun _ => ?_)
  have s714 := s713.trans s14
  have s1214 := s13.trans s14
  clear hA hE e1 e2 hsd
  -- due: neither the truth's opposite
  refine ⟨_, rfl, _, rfl, lw, _, rfl, .inl (SqL.of (ewF s1214)), rfl, flat_strs _, _, rfl, ?_⟩
  rw [in_strs]
  refine ite2 (fun z => ?gA) (fun z => ?gB)
  case' gA =>
    refine ⟨_, rfl, lw, _, rfl, .inl (SqL.of (ewF s1214)), rfl, flat_strs _, ?_⟩
    have e3 : inV (.str "both") (ws.map fun z => V.str z.s) = decide (W3.both ∈ ws) := in_strs .both ws
    rw [e3]
    have hD2 : (if true = true then !decide (W3.both ∈ ws) else decide (W3.both ∈ ws)) = true ↔ W3.of b ∉ ws ∧ W3.both ∉ ws := by
      have z' : W3.of b ∉ ws := by simpa using z
      simp [z']
    generalize (if true = true then !decide (W3.both ∈ ws) else decide (W3.both ∈ ws)) = d2 at *
  case' gB =>
    have hD2 : false = true ↔ W3.of b ∉ ws ∧ W3.both ∉ ws := by
      have z' : W3.of b ∈ ws := by simpa using z
      simp [z']
    generalize false = d2 at *
  all_goals (
    have hD2' := hD2.trans (not_words ws b).symm
    obtain ⟨sd2, hsd2⟩ := rep_bl d2
    refine ⟨_, rfl, _, rfl, by show 2 ≤ sizeLine; decide, fun pq npq => ?_⟩
    have s15 := same_new (o := .tup [.str "not", vq]) npq
    have s715 := s714.trans s15
    have hQ15 := hQs s715
    refine ⟨_, rfl, r, _, .ref pq, vc, .not qn, cs, h, rfl, ⟨hQ15.rl, ho, ⟨pq, vq, rfl, upd_same, hQ15.qn⟩, by show qn.depth + 1 ≤ 3; omega, hok, hmk.len, hQ15.cr, hcl, hcp, hcsum, h4⟩, fun H16 bB s16 hB => ?_⟩
    have e4 : bB = d2 := by
      have hh : holdsM cs (.not qn) = !b := by show (!holdsM cs qn) = !b; rw [hb]
      rw [hh, hc0, hwords (!b), ← hD2'] at hB
      exact Bool.eq_iff_iff.mpr hB
    rw [e4]
    refine ⟨_, sd2, rfl, hsd2, _, rfl, _, sd2, rfl, hsd2, rfl, _, rfl, ite2 (fun z => (ne_refl z).elim) (fun _ => ?_)⟩
    have s716 := s715.trans s16
    have s1216 := (s1214.trans s15).trans s16
    -- inner
    refine ⟨_, rfl, _, rfl, r, _, v8, c0, h, rfl, hR7.tk (Tk.same s716), ho, hv8.tk (Tk.same ((((s9.trans s10).trans s11).trans s12).trans s1216)), hco, h4, ho.r1, fun H17 lc vcs Lc s17 n17 e17 p17 gr => ?_⟩
    have hLc := gr.len ho h4 hco
    have s717 := s716.trans s17
    refine ⟨lc, rfl, ⟨_, SqL.of e17⟩, fun D18 nD18 => ?_⟩
    refine lc_same (walk_list (K := K) (a := lc) (xs := vcs)) (srtC Lc) (fun y => if (!decide (tri (stM r y) = V.non)) = true then some y else none) CrAt (Paired.length p17) (by rw [Paired.length p17, srtC_len]; exact big _ (by omega)) nD18 (fun H1 s => SqL.of (s _ _ e17)) (fun H1 H2 y b acc _ e k h => h.tk (Tk.butL e k)) ?_ (fun H19 acc s19 e19 p19 => ?_)
    · intro i y x H18 H19 Kt Kf kt kf hp s18 _ hy
      obtain ⟨rfl, hx⟩ := hy
      obtain ⟨x', hx', hxc⟩ := Paired.getR p17 hp
      obtain rfl : x' = x := Option.some.inj (hx'.symm.trans hx)
      have hyo := reach_ok ho hco ((gr.mem y).mp (mem_srtC.mp (List.mem_of_getElem? hp)))
      refine ⟨rfl, _, rfl, _, rfl, r, _, x', y, h, rfl, hR7.tk (Tk.same (s717.trans s18)), ho, hxc.tk (Tk.same s18), hyo, h4, fun H20 s20 => ⟨rfl, _, rfl, ?_⟩⟩
      exact ite2 (fun z => ⟨_, rfl, kt _ _ y s20 (by rw [if_pos z]) (hxc.tk (Tk.same (s18.trans s20)))⟩) (fun z => kf _ s20 (by rw [if_neg z]))
    · rw [fm_filter] at p19
      generalize hG : (srtC Lc).filter (fun y => !decide (tri (stM r y) = V.non)) = G at p19
      have hGe : G = [] ↔ ∀ z ∈ ws, z = W3.both := by
        rw [← hinner, ← hG, List.filter_eq_nil_iff]
        constructor
        · intro hz c hc
          have := hz c (mem_srtC.mpr ((gr.mem c).mpr hc))
          cases hst : stM r c with
          | none => rfl
          | some b => rw [hst] at this; exact absurd rfl this
        · intro hz c hc
          rw [hz c ((gr.mem c).mp (mem_srtC.mp hc))]
          simp [tri]
      refine ⟨_, rfl, by show 0 ≤ sizeLine; decide, fun p20 np20 => ?_⟩
      have s20 := same_new (o := .lst []) np20
      have s1220 := (s1216.trans s17).trans (s19.trans s20)
      refine ⟨ld G, ld [], dp_ld (s20 _ _ e19) (crs_tk (Tk.same s20) p19), dp_ld upd_same .nil, shaped_ld _, shaped_ld _, ?_⟩
      refine ⟨_, rfl, .inl ⟨rfl, _, SqL.of (ewF s1220)⟩, lw, ws.map W3.s, W3.both.s, rfl, rfl, SqL.of (ewS s1220), _, rfl, lw, _, rfl, .inl (SqL.of (ewF s1220)), rfl, rfl, _, rfl, ?_⟩
      have e5 : PyData.eqv (ld G) (ld []) = decide (V.int ((((ws.map W3.s).countP fun y => decide (y = W3.both.s)) : Nat) : Int) = V.int (((ws.map fun z => V.str z.s).length : Nat) : Int)) := by
        rw [eqv_ld]
        refine Bool.eq_iff_iff.mpr ?_
        rw [decide_eq_true_iff, hGe]
        exact (hD1 .both).symm
      rw [e5]
      refine ite2 (fun z => (ne_refl z).elim) (fun _ => ?_)
      have sF : Same H7 _ := s717.trans (s19.trans s20)
      exact ⟨_, _, _, _, _, _, _, rfl, s07.trans sF, (f7.mono (by omega)).same sF, hR7.tk (Tk.same sF), hq7.tk (Tk.same sF)⟩)
end
end Pb
set_option Elab.async false
set_option linter.all false
set_option maxRecDepth 100000
set_option maxHeartbeats 0
namespace Pb
open PySem PySem.Spec PyProof.Rows L2
theorem facts {P : Program} {w : World} {K : PySem.W.Frag} {h : Heap} {mg : Str → Option Value} {f : Addr} (X : K.In h) (G : h.Ns mainGlobals mg) (hfa : mg ("law" : Str) = some (.ref f)) (c : He.SaysD fa fn K) :
    ∃ fd : FuncData, (∀ (s : Shared) (v : Value), BindsTo s fd ⟨[v], []⟩ [("_law_script", v)]) ∧ ∀ base : Heap, K.In base → base.Ns mainGlobals mg → FnOk P w K mg base CX0 9 f fd ["_law_script"] (spLaw K) := by
  have Dis_whole : DefAt K mg "is_whole" s_is_whole [] := by
    obtain ⟨fd, F⟩ := c.def_ 0 (d := d_is_whole) rfl
    exact ⟨_, fd, F, He.glo_ok X G (c.fact 0 (f := .glo "is_whole") rfl)⟩
  have Dbegun : DefAt K mg "begun" s_begun [] := by
    obtain ⟨fd, F⟩ := c.def_ 1 (d := d_begun) rfl
    exact ⟨_, fd, F, He.glo_ok X G (c.fact 1 (f := .glo "begun") rfl)⟩
  have Dmay_be : DefAt K mg "may_be" s_may_be [] := by
    obtain ⟨fd, F⟩ := c.def_ 2 (d := d_may_be) rfl
    exact ⟨_, fd, F, He.glo_ok X G (c.fact 2 (f := .glo "may_be") rfl)⟩
  have Dcan : DefAt K mg "can" s_can [] := by
    obtain ⟨fd, F⟩ := c.def_ 3 (d := d_can) rfl
    exact ⟨_, fd, F, He.glo_ok X G (c.fact 3 (f := .glo "can") rfl)⟩
  have Dcrowd_behind : DefAt K mg "crowd_behind" s_crowd_behind [] := by
    obtain ⟨fd, F⟩ := c.def_ 4 (d := d_crowd_behind) rfl
    exact ⟨_, fd, F, He.glo_ok X G (c.fact 4 (f := .glo "crowd_behind") rfl)⟩
  have Dis_next : DefAt K mg "is_next" s_is_next [] := by
    obtain ⟨fd, F⟩ := c.def_ 5 (d := d_is_next) rfl
    exact ⟨_, fd, F, He.glo_ok X G (c.fact 5 (f := .glo "is_next") rfl)⟩
  have Dmet : DefAt K mg "met" s_met [] := by
    obtain ⟨fd, F⟩ := c.def_ 6 (d := d_met) rfl
    exact ⟨_, fd, F, He.glo_ok X G (c.fact 6 (f := .glo "met") rfl)⟩
  have Dsaid : DefAt K mg "said" s_said [] := by
    obtain ⟨fd, F⟩ := c.def_ 7 (d := d_said) rfl
    exact ⟨_, fd, F, He.glo_ok X G (c.fact 7 (f := .glo "said") rfl)⟩
  have Dgraph_of : DefAt K mg "graph_of" s_graph_of [] := by
    obtain ⟨fd, F⟩ := c.def_ 8 (d := d_graph_of) rfl
    exact ⟨_, fd, F, He.glo_ok X G (c.fact 8 (f := .glo "graph_of") rfl)⟩
  have Dcome : DefAt K mg "come" s_come [.int 1000] := by
    obtain ⟨fd, F⟩ := c.def_ 9 (d := d_come) rfl
    exact ⟨_, fd, F, He.glo_ok X G (c.fact 9 (f := .glo "come") rfl)⟩
  have Drow_to : DefAt K mg "row_to" s_row_to [] := by
    obtain ⟨fd, F⟩ := c.def_ 10 (d := d_row_to) rfl
    exact ⟨_, fd, F, He.glo_ok X G (c.fact 10 (f := .glo "row_to") rfl)⟩
  have Dranks_to : DefAt K mg "ranks_to" s_ranks_to [] := by
    obtain ⟨fd, F⟩ := c.def_ 11 (d := d_ranks_to) rfl
    exact ⟨_, fd, F, He.glo_ok X G (c.fact 11 (f := .glo "ranks_to") rfl)⟩
  have Dhands_of : DefAt K mg "hands_of" s_hands_of [] := by
    obtain ⟨fd, F⟩ := c.def_ 12 (d := d_hands_of) rfl
    exact ⟨_, fd, F, He.glo_ok X G (c.fact 12 (f := .glo "hands_of") rfl)⟩
  have Dholds : DefAt K mg "holds" s_holds [] := by
    obtain ⟨fd, F⟩ := c.def_ 13 (d := d_holds) rfl
    exact ⟨_, fd, F, He.glo_ok X G (c.fact 13 (f := .glo "holds") rfl)⟩
  have Dsettled : DefAt K mg "settled" s_settled [.int 1000] := by
    obtain ⟨fd, F⟩ := c.def_ 14 (d := d_settled) rfl
    exact ⟨_, fd, F, He.glo_ok X G (c.fact 14 (f := .glo "settled") rfl)⟩
  have Dtruth_word : DefAt K mg "truth_word" s_truth_word [] := by
    obtain ⟨fd, F⟩ := c.def_ 15 (d := d_truth_word) rfl
    exact ⟨_, fd, F, He.glo_ok X G (c.fact 15 (f := .glo "truth_word") rfl)⟩
  have Dgone_through : DefAt K mg "gone_through" s_gone_through [] := by
    obtain ⟨fd, F⟩ := c.def_ 16 (d := d_gone_through) rfl
    exact ⟨_, fd, F, He.glo_ok X G (c.fact 16 (f := .glo "gone_through") rfl)⟩
  have Danswers : DefAt K mg "answers" s_answers [.int 1000] := by
    obtain ⟨fd, F⟩ := c.def_ 17 (d := d_answers) rfl
    exact ⟨_, fd, F, He.glo_ok X G (c.fact 17 (f := .glo "answers") rfl)⟩
  have Derr_at : DefAt K mg "err_at" s_err_at [.int 1000] := by
    obtain ⟨fd, F⟩ := c.def_ 18 (d := d_err_at) rfl
    exact ⟨_, fd, F, He.glo_ok X G (c.fact 18 (f := .glo "err_at") rfl)⟩
  have Dis_number : DefAt K mg "is_number" s_is_number [] := by
    obtain ⟨fd, F⟩ := c.def_ 19 (d := d_is_number) rfl
    exact ⟨_, fd, F, He.glo_ok X G (c.fact 19 (f := .glo "is_number") rfl)⟩
  have Dpassed_along : DefAt K mg "passed_along" s_passed_along [] := by
    obtain ⟨fd, F⟩ := c.def_ 20 (d := d_passed_along) rfl
    exact ⟨_, fd, F, He.glo_ok X G (c.fact 20 (f := .glo "passed_along") rfl)⟩
  have Dlast_left : DefAt K mg "last_left" s_last_left [] := by
    obtain ⟨fd, F⟩ := c.def_ 21 (d := d_last_left) rfl
    exact ⟨_, fd, F, He.glo_ok X G (c.fact 21 (f := .glo "last_left") rfl)⟩
  have Drounds_of : DefAt K mg "rounds_of" s_rounds_of [] := by
    obtain ⟨fd, F⟩ := c.def_ 22 (d := d_rounds_of) rfl
    exact ⟨_, fd, F, He.glo_ok X G (c.fact 22 (f := .glo "rounds_of") rfl)⟩
  have Dis_shut : DefAt K mg "is_shut" s_is_shut [] := by
    obtain ⟨fd, F⟩ := c.def_ 23 (d := d_is_shut) rfl
    exact ⟨_, fd, F, He.glo_ok X G (c.fact 23 (f := .glo "is_shut") rfl)⟩
  have Dends_of : DefAt K mg "ends_of" s_ends_of [.int 1000] := by
    obtain ⟨fd, F⟩ := c.def_ 24 (d := d_ends_of) rfl
    exact ⟨_, fd, F, He.glo_ok X G (c.fact 24 (f := .glo "ends_of") rfl)⟩
  have Dring_to : DefAt K mg "ring_to" s_ring_to [.int 1000] := by
    obtain ⟨fd, F⟩ := c.def_ 25 (d := d_ring_to) rfl
    exact ⟨_, fd, F, He.glo_ok X G (c.fact 25 (f := .glo "ring_to") rfl)⟩
  have Dask_fair : DefAt K mg "ask_fair" s_ask_fair [] := by
    obtain ⟨fd, F⟩ := c.def_ 26 (d := d_ask_fair) rfl
    exact ⟨_, fd, F, He.glo_ok X G (c.fact 26 (f := .glo "ask_fair") rfl)⟩
  have Dring_says : DefAt K mg "ring_says" s_ring_says [] := by
    obtain ⟨fd, F⟩ := c.def_ 27 (d := d_ring_says) rfl
    exact ⟨_, fd, F, He.glo_ok X G (c.fact 27 (f := .glo "ring_says") rfl)⟩
  have Dlaw_feed : DefAt K mg "_law_feed" s_law_feed [] := by
    obtain ⟨fd, F⟩ := c.def_ 28 (d := d_law_feed) rfl
    exact ⟨_, fd, F, He.glo_ok X G (c.fact 28 (f := .glo "_law_feed") rfl)⟩
  have Dlaw_draw : DefAt K mg "_law_draw" s_law_draw [] := by
    obtain ⟨fd, F⟩ := c.def_ 29 (d := d_law_draw) rfl
    exact ⟨_, fd, F, He.glo_ok X G (c.fact 29 (f := .glo "_law_draw") rfl)⟩
  have Dlaw_rule : DefAt K mg "_law_rule" s_law_rule [] := by
    obtain ⟨fd, F⟩ := c.def_ 30 (d := d_law_rule) rfl
    exact ⟨_, fd, F, He.glo_ok X G (c.fact 30 (f := .glo "_law_rule") rfl)⟩
  have Dlaw_question : DefAt K mg "_law_question" s_law_question [] := by
    obtain ⟨fd, F⟩ := c.def_ 31 (d := d_law_question) rfl
    exact ⟨_, fd, F, He.glo_ok X G (c.fact 31 (f := .glo "_law_question") rfl)⟩
  have Dlaw_holds : DefAt K mg "_law_holds" s_law_holds [] := by
    obtain ⟨fd, F⟩ := c.def_ 32 (d := d_law_holds) rfl
    exact ⟨_, fd, F, He.glo_ok X G (c.fact 32 (f := .glo "_law_holds") rfl)⟩
  have Dlaw_made : DefAt K mg "_law_made" s_law_made [] := by
    obtain ⟨fd, F⟩ := c.def_ 33 (d := d_law_made) rfl
    exact ⟨_, fd, F, He.glo_ok X G (c.fact 33 (f := .glo "_law_made") rfl)⟩
  have Dlaw_pair : DefAt K mg "_law_pair" s_law_pair [] := by
    obtain ⟨fd, F⟩ := c.def_ 34 (d := d_law_pair) rfl
    exact ⟨_, fd, F, He.glo_ok X G (c.fact 34 (f := .glo "_law_pair") rfl)⟩
  have Dlaw_steps : DefAt K mg "_law_steps" s_law_steps [] := by
    obtain ⟨fd, F⟩ := c.def_ 35 (d := d_law_steps) rfl
    exact ⟨_, fd, F, He.glo_ok X G (c.fact 35 (f := .glo "_law_steps") rfl)⟩
  have Dlaw_all : DefAt K mg "_law_all" s_law_all [] := by
    obtain ⟨fd, F⟩ := c.def_ 36 (d := d_law_all) rfl
    exact ⟨_, fd, F, He.glo_ok X G (c.fact 36 (f := .glo "_law_all") rfl)⟩
  have Dlaw_counts : DefAt K mg "_law_counts" s_law_counts [] := by
    obtain ⟨fd, F⟩ := c.def_ 37 (d := d_law_counts) rfl
    exact ⟨_, fd, F, He.glo_ok X G (c.fact 37 (f := .glo "_law_counts") rfl)⟩
  have Dlaw_begun : DefAt K mg "_law_begun" s_law_begun [] := by
    obtain ⟨fd, F⟩ := c.def_ 38 (d := d_law_begun) rfl
    exact ⟨_, fd, F, He.glo_ok X G (c.fact 38 (f := .glo "_law_begun") rfl)⟩
  have Dlaw_from : DefAt K mg "_law_from" s_law_from [] := by
    obtain ⟨fd, F⟩ := c.def_ 39 (d := d_law_from) rfl
    exact ⟨_, fd, F, He.glo_ok X G (c.fact 39 (f := .glo "_law_from") rfl)⟩
  have Dlaw_ends : DefAt K mg "_law_ends" s_law_ends [] := by
    obtain ⟨fd, F⟩ := c.def_ 40 (d := d_law_ends) rfl
    exact ⟨_, fd, F, He.glo_ok X G (c.fact 40 (f := .glo "_law_ends") rfl)⟩
  have Dlaw_words : DefAt K mg "_law_words" s_law_words [] := by
    obtain ⟨fd, F⟩ := c.def_ 41 (d := d_law_words) rfl
    exact ⟨_, fd, F, He.glo_ok X G (c.fact 41 (f := .glo "_law_words") rfl)⟩
  have T : Tx mg := ⟨He.free_ok X G (c.fact 43 (f := .free "len") rfl), He.free_ok X G (c.fact 44 (f := .free "range") rfl), He.free_ok X G (c.fact 45 (f := .free "list") rfl), He.free_ok X G (c.fact 46 (f := .free "tuple") rfl), He.free_ok X G (c.fact 47 (f := .free "sorted") rfl), He.free_ok X G (c.fact 48 (f := .free "enumerate") rfl), He.free_ok X G (c.fact 49 (f := .free "isinstance") rfl), He.free_ok X G (c.fact 50 (f := .free "all") rfl), He.free_ok X G (c.fact 51 (f := .free "sum") rfl), He.free_ok X G (c.fact 52 (f := .free "dict") rfl), He.free_ok X G (c.fact 53 (f := .free "int") rfl), He.free_ok X G (c.fact 54 (f := .free "max") rfl), He.free_ok X G (c.fact 55 (f := .free "min") rfl), He.free_ok X G (c.fact 56 (f := .free "repr") rfl), He.free_ok X G (c.fact 57 (f := .free "bool") rfl)⟩
  obtain ⟨fd, F⟩ := c.def_ 42 (d := d_law) rfl
  have e := hfa.symm.trans (He.glo_ok X G (c.fact 42 (f := .glo "law") rfl))
  cases e
  have b := FunD.bindsA (ps := ["_law_script"]) F fun _ _ _ _ _ _ us hl => match us, hl with | [_], _ => rfl
  refine ⟨fd, fun s v => b s [v] rfl, fun base _ _ => ?_⟩
  have C_is_whole := ok_is_whole (P := P) (w := w) (K := K) (mg := mg) (base := base) T Dis_whole
  have C_may_be := ok_may_be (P := P) (w := w) (K := K) (mg := mg) (base := base) T Dmay_be
  have C_crowd_behind := ok_crowd_behind (P := P) (w := w) (K := K) (mg := mg) (base := base) T Dcrowd_behind
  have C_is_next := ok_is_next (P := P) (w := w) (K := K) (mg := mg) (base := base) T Dis_next C_is_whole C_may_be
  have C_met := ok_met (P := P) (w := w) (K := K) (mg := mg) (base := base) Dmet C_is_next C_crowd_behind
  have C_can := ok_can (P := P) (w := w) (K := K) (mg := mg) (base := base) T Dcan C_may_be
  have C_begun := ok_begun (P := P) (w := w) (K := K) (mg := mg) (base := base) T Dbegun
  have C_said := ok_said (P := P) (w := w) (K := K) (mg := mg) (base := base) T Dsaid
  have C_graph_of := ok_graph_of (P := P) (w := w) (K := K) (mg := mg) (base := base) T Dgraph_of C_can C_met
  have C_come3 := ok_come3 (P := P) (w := w) (K := K) (mg := mg) (base := base) T Dcome C_graph_of
  have C_come2 := ok_come2 (P := P) (w := w) (K := K) (mg := mg) (base := base) T Dcome C_graph_of
  have C_row_to := ok_row_to (P := P) (w := w) (K := K) (mg := mg) (base := base) T Drow_to
  have C_ranks_to := ok_ranks_to (P := P) (w := w) (K := K) (mg := mg) (base := base) T Dranks_to
  have C_hands_of := ok_hands_of (P := P) (w := w) (K := K) (mg := mg) (base := base) T Dhands_of
  have C_holds3 := ok_holds (P := P) (w := w) (K := K) (mg := mg) (base := base) T Dholds C_hands_of 3
  have C_truth_word := ok_truth_word (P := P) (w := w) (K := K) (mg := mg) (base := base) Dtruth_word C_holds3
  have C_gone_through := ok_gone_through (P := P) (w := w) (K := K) (mg := mg) (base := base) T Dgone_through C_graph_of C_begun C_truth_word C_ranks_to C_said
  have C_answers := ok_answers (P := P) (w := w) (K := K) (mg := mg) (base := base) T Danswers C_gone_through
  have C_err_at := ok_err_at (P := P) (w := w) (K := K) (mg := mg) (base := base) T Derr_at C_gone_through C_row_to C_graph_of
  have C_is_number := ok_is_number (P := P) (w := w) (K := K) (mg := mg) (base := base) T Dis_number
  have C_passed_along := ok_passed_along (P := P) (w := w) (K := K) (mg := mg) (base := base) T Dpassed_along C_is_number C_can C_met
  have C_last_left := ok_last_left (P := P) (w := w) (K := K) (mg := mg) (base := base) T Dlast_left
  have C_rounds_of := ok_rounds_of (P := P) (w := w) (K := K) (mg := mg) (base := base) T Drounds_of C_last_left
  have C_is_shut := ok_is_shut (P := P) (w := w) (K := K) (mg := mg) (base := base) T Dis_shut
  have C_ends_of := ok_ends_of (P := P) (w := w) (K := K) (mg := mg) (base := base) T Dends_of C_graph_of C_rounds_of C_is_shut
  have C_ring_to := ok_ring_to (P := P) (w := w) (K := K) (mg := mg) (base := base) T Dring_to C_graph_of C_row_to
  have C_ask_fair := ok_ask_fair (P := P) (w := w) (K := K) (mg := mg) (base := base) T Dask_fair C_can C_met
  have C_ring_says := ok_ring_says (P := P) (w := w) (K := K) (mg := mg) (base := base) T Dring_says C_passed_along C_ask_fair C_said
  have C_settled := ok_settled (P := P) (w := w) (K := K) (mg := mg) (base := base) T Dsettled C_come3 C_said
  have C_law_feed := ok_law_feed (P := P) (w := w) (K := K) (mg := mg) (base := base) T Dlaw_feed
  have C_law_draw := ok_law_draw (P := P) (w := w) (K := K) (mg := mg) (base := base) Dlaw_draw
  have C_law_rule := ok_law_rule (P := P) (w := w) (K := K) (mg := mg) (base := base) T Dlaw_rule C_law_draw
  have C_q0 := ok_law_question0 (P := P) (w := w) (K := K) (mg := mg) (base := base) T Dlaw_question C_law_draw
  have C_q1 := ok_law_question1 (P := P) (w := w) (K := K) (mg := mg) (base := base) T Dlaw_question C_law_draw C_q0
  have C_law_made := ok_law_made (P := P) (w := w) (K := K) (mg := mg) (base := base) T Dlaw_made
  have C_law_pair := ok_law_pair (P := P) (w := w) (K := K) (mg := mg) (base := base) T Dlaw_pair C_law_draw C_law_rule C_q1 C_law_made
  have C_law_counts := ok_law_counts (P := P) (w := w) (K := K) (mg := mg) (base := base) T Dlaw_counts C_law_draw
  have C_law_begun := ok_law_begun (P := P) (w := w) (K := K) (mg := mg) (base := base) T Dlaw_begun
  have C_law_steps := ok_law_steps (P := P) (w := w) (K := K) (mg := mg) (base := base) T Dlaw_steps
  have C_law_all := ok_law_all (P := P) (w := w) (K := K) (mg := mg) (base := base) T Dlaw_all C_law_steps
  have C_law_from := ok_law_from (P := P) (w := w) (K := K) (mg := mg) (base := base) T Dlaw_from
  have C_law_ends := ok_law_ends (P := P) (w := w) (K := K) (mg := mg) (base := base) T Dlaw_ends C_law_all C_law_from
  have C_h0 := ok_law_holds0 (P := P) (w := w) (K := K) (mg := mg) (base := base) T Dlaw_holds
  have C_h1 := ok_law_holds1 (P := P) (w := w) (K := K) (mg := mg) (base := base) T Dlaw_holds C_h0
  have C_law_words := ok_law_words (P := P) (w := w) (K := K) (mg := mg) (base := base) T Dlaw_words C_ends_of C_ring_says C_ring_to C_settled
  refine F.ok sc_law (fun vs H Q E ⟨_, _, e, _⟩ => by rw [e]; rfl) (fun cdv A outer s H vs Q E hr hsp => ?_)
  obtain ⟨t, h, q⟩ := law_body T C_law_feed C_law_pair C_law_counts C_law_begun C_law_words C_law_ends C_h1 C_answers C_err_at C_come2 C_settled _ cdv A outer s H vs Q E hr hsp
  exact ⟨t, PSs.nox h, q⟩
end Pb
open PySem PySem.W PySem.Calls PyProof.Rows
theorem PySem.Challenge.cw_passersby_k41_whole_rings_and_answers_holds : PySem.Challenge.rw_passersby_k41_whole_rings_and_answers.Holds := by
  w_on; o_law
  refine HandSHeadRun.head_any (r := Pb.R) (q := view Pb.R.prog [56]) (H := Pb.hk) (ob := Pb.ob) (M := 4000) (loose := Pb.loose) (d := HandSHeadRun.topDef Pb.R.prog 56) (kwd := []) Pb.ob_eq
    (by kernel_rfl) (fun s => by kernel_rfl) Pb.run (by kernel_rfl) (by kernel_rfl) (by kernel_rfl) (by rfl) (by first | assumption | decide +kernel) (by decide +kernel) ⟨rfl, rfl, rfl, rfl, rfl, by decide +kernel⟩ ?hw ?hc
  case hw => w_witness2
  case hc =>
    refine L2.walk_ofE (l := PySem.Challenge.rw_passersby_k41_whole_rings_and_answers) (n := 63) (k := 9) (x := "_law_script") (CX := L2.CX0) rfl (by decide) (by kernel_rfl) ⟨rfl, by decide, by decide⟩ ?F (fun _ _ _ _ z => z)
    intro w mg fa h Y G hmg0
    obtain ⟨K, KX, c⟩ := Y
    have hmg : mg ("law" : PySem.Str) = some (.ref fa) := by
      have e : (HandSHeadRun.topDef Pb.R.prog 56).name = ("law" : PySem.Str) := by kernel_rfl
      rw [← e]
      exact hmg0
    obtain ⟨fd, hb, hF⟩ := Pb.facts (P := (PySem.Challenge.rw_passersby_k41_whole_rings_and_answers).prog) (w := w) KX G hmg c
    exact ⟨K, fd, Pb.spLaw K, KX, hb, fun H a ns hl _ hS => ⟨a, ns, rfl, hS, Nat.lt_of_le_of_lt hl (by decide), fun _ => rfl⟩, hF⟩
