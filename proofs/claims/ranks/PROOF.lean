import PyProof.Rows.All
import Wide.All
import OpenK.AllK
import Wide.FinOn
import KE.KStateDown
import HandS.ForMost
import HandS.Exc
import HandS.Defaults
import HandS.HeadEnd
import HandS.HeadHook1
import HandS.HeadHook2
import HandS.HeadHook3
import HandS.HeadHook4
import HandS.HeadWalk
import HandS.Head0
import HandS.Head1
import HandS.Head2
import HandS.Deep
import HandS.IsInst
import HandS.Style
import HandS.TupMul
import HandS.TupAny
import HandS.TupLe
import HandS.Wide
import HandS.Walk
import HandS.Zip
import HandS.SortInts
import HandS.CallLocal
import HandS.WrittenGet
import HandS.Nested
import HandS.NoneIn
import KE.GoesMore
import KE.GoesZip
import KE.GoesEnum
import HandS.Conv
import PyProof.StrBlock2
import PyProof.MaxThree
import PySem.Challenge.RW_tellfew_k85_whole_ranks_put_together
set_option Elab.async false
set_option linter.all false
set_option maxRecDepth 100000
section
namespace Tf
open PySem
def top (i : Nat) : Stmt := PySem.Challenge.pw_tellfew_k85_whole_ranks_put_together.main.body.getD i (.Pass ⟨0, 0, 0, 0⟩)
end Tf
end
section
set_option maxHeartbeats 0
namespace TfH
open PySem PySem.Spec PyProof.Rows L2 Tf
def dd (x : Str) (i : Nat) : He.DefD := ⟨(x, none), x, x, defArgs (top i), defBody (top i), defScope (top i), [], []⟩
def da (x y : Str) (i : Nat) : He.DefD := ⟨(x, none), y, y, defArgs (top i), defBody (top i), defScope (top i), [], []⟩
def fn : List He.DefD := [dd "common" 1, dd "lessened" 2, dd "led_down" 3, dd "ranked" 4, dd "put_together" 6, dd "both" 7, dd "times" 8, dd "so_often" 10, dd "second_tree" 11, dd "first_tree" 12, dd "both_trees" 13, dd "inverse" 15, dd "expressed" 16, dd "factors" 17, dd "is_answer" 22, dd "are_answers" 23, dd "is_table" 24, dd "numbered" 31, dd "first_places" 32, dd "unlike_rows" 33, dd "cut" 76, dd "machine_of" 84, dd "row_with" 91, dd "cleared_below" 92, dd "determinant" 93, dd "stands" 94, dd "are_whole" 96, dd "are_places" 97, dd "is_nought" 98, dd "makes" 99, dd "ranked_holds" 100, dd "sizes_of" 113, dd "sign_at" 118, dd "told" 119, dd "first_wrong" 120, dd "tells" 121, dd "with_sign" 122, dd "ends_by" 123, dd "ends_of" 124, dd "is_prime" 150, dd "rank_shown" 155, dd "finding_holds" 164, dd "summing_of" 166, dd "_law_deck" 168, dd "_law_draw" 169, dd "_law_primes" 170, dd "_law_rows_of" 171, dd "_law_table" 172, dd "_law_question" 173, dd "_law_signs" 174, dd "_law_rank" 175, dd "_law_small" 176, dd "_law_tree" 177, dd "_law_answer" 178, dd "_law_multiplied_right" 179, dd "_law_trees_right" 180, dd "_law_factors_right" 181, dd "_law_again" 182, dd "_law_cuts_right" 183, dd "law" 184, da "is_whole_tables" "is_whole" 20, da "is_below_words" "is_below" 36]
def fa : List He.Fa := [.glo "common", .glo "lessened", .glo "led_down", .glo "ranked", .glo "put_together", .glo "both", .glo "times", .glo "so_often", .glo "second_tree", .glo "first_tree", .glo "both_trees", .glo "inverse", .glo "expressed", .glo "factors", .glo "is_answer", .glo "are_answers", .glo "is_table", .glo "numbered", .glo "first_places", .glo "unlike_rows", .glo "cut", .glo "machine_of", .glo "row_with", .glo "cleared_below", .glo "determinant", .glo "stands", .glo "are_whole", .glo "are_places", .glo "is_nought", .glo "makes", .glo "ranked_holds", .glo "sizes_of", .glo "sign_at", .glo "told", .glo "first_wrong", .glo "tells", .glo "with_sign", .glo "ends_by", .glo "ends_of", .glo "is_prime", .glo "rank_shown", .glo "finding_holds", .glo "summing_of", .glo "_law_deck", .glo "_law_draw", .glo "_law_primes", .glo "_law_rows_of", .glo "_law_table", .glo "_law_question", .glo "_law_signs", .glo "_law_rank", .glo "_law_small", .glo "_law_tree", .glo "_law_answer", .glo "_law_multiplied_right", .glo "_law_trees_right", .glo "_law_factors_right", .glo "_law_again", .glo "_law_cuts_right", .glo "law", .glo "is_whole_tables", .glo "is_below_words", .glo "MANY_WORDS", .glo "PRIMES", .glo "PARTS", .glo "SHOWN", .free "len", .free "list", .free "tuple", .free "sum", .free "all", .free "isinstance", .free "int", .free "bool", .free "str", .free "range", .free "enumerate", .free "zip", .free "sorted", .free "abs", .free "min", .int "MOST_ANSWER_tables" 99]
def ts : List He.Tab := [(fun K => He.ga K "PARTS", ["tells", "words", "rank", "game", "fair", "three", "states", "sums"]), (fun K => He.ga K "SHOWN", ["tells", "words", "rank", "game", "fair", "three", "states", "sums"])]
def tf : List He.Defn := [("both", none), ("times", none)]
def exB (K : PySem.W.Frag) : Bool := He.tupB K "MANY_WORDS" [.int 1, .int 2, .int 4, .int 8, .int 16, .int 32, .int 64] && (He.tupB K "PRIMES" [.int 2, .int 3, .int 5, .int 7, .int 11, .int 13, .int 17, .int 19, .int 23, .int 29, .int 31, .int 37, .int 41, .int 43, .int 47, .int 53, .int 59, .int 61, .int 67, .int 71, .int 73, .int 79, .int 83, .int 89, .int 97] && ((match PySem.W.nsIn K (He.ga K "PARTS") "rank" with
  | some (some (.int i _)) => decide (i = 4)
  | _ => false) && ((match PySem.W.nsIn K (He.ga K "SHOWN") "rank" with
  | some (some (.ref f)) => decide (f = He.ga K "rank_shown")
  | _ => false) && !decide ((He.cT K ("both", none)).2 = (He.cT K ("times", none)).2))))
def ls0 : List Str := ["common", "lessened", "led_down", "ranked", "put_together", "both", "times", "so_often", "second_tree", "first_tree", "both_trees", "inverse"]
def ls1 : List Str := ["expressed", "factors", "MOST_ANSWER_tables", "is_whole", "is_whole_tables", "is_answer", "are_answers", "is_table", "MOST_NUMBERS", "sizes_of_cube", "is_cube", "triples_of"]
def ls2 : List Str := ["numbered", "first_places", "unlike_rows", "ANSWERS", "is_below", "is_below_words", "are_below", "are_below_words", "is_telling", "told_by", "wrong_pairs", "wrong_at"]
def ls3 : List Str := ["wrong_in", "is_whole_fractions", "shared", "is_fraction", "TellError", "TooGreat", "MOST_ROWS_leastwrong", "groupings", "best_in", "Groups", "least_wrong", "MOST_ROWS_fairchecks"]
def ls4 : List Str := ["is_whole_fairchecks", "is_draw", "are_draws", "are_weights", "fair_words_holds", "are_shares", "together", "fair_holds", "MANY_WORDS", "MOST_SIGNS", "is_question", "cut"]
def ls5 : List Str := ["number_of", "is_number_below", "is_state", "are_layers", "is_machine", "reads", "machine_of", "twos_of", "twos_of_parting", "are_rising", "parted_holds", "row_with"]
def ls6 : List Str := ["cleared_below", "determinant", "stands", "are_whole", "are_places", "is_nought", "makes", "ranked_holds", "is_word", "are_words", "part_holds", "states_holds"]
def ls7 : List Str := ["is_below_summing", "are_below_summing", "is_layer", "is_summing", "sizes_of", "gone_on", "ended", "worth", "sign_at", "told", "first_wrong", "tells"]
def ls8 : List Str := ["with_sign", "ends_by", "ends_of", "MOST_ANSWER_threes", "is_below_threes", "are_numbers", "twos_of_threechecks", "said_parted_holds", "are_below_threewords", "is_said", "said_wrong", "SIDES"]
def ls9 : List Str := ["is_sign", "are_signs", "is_end", "is_tree", "depth_of", "PRIMES", "MOST_WORDS", "MOST_ROWS_findings", "is_prime", "is_number", "is_game", "tree_shown"]
def ls10 : List Str := ["words_shown", "rank_shown", "game_shown", "fair_shown", "three_shown", "all_words", "states_shown", "sums_shown", "PARTS", "SHOWN", "finding_holds", "summing_of"]
def ls11 : List Str := ["_law_deck", "_law_draw", "_law_primes", "_law_rows_of", "_law_table", "_law_question", "_law_signs", "_law_rank", "_law_small", "_law_tree", "_law_answer", "_law_multiplied_right"]
def ls12 : List Str := ["_law_trees_right", "_law_factors_right", "_law_again", "_law_cuts_right"]
def ls : List Str := ls0 ++ ls1 ++ ls2 ++ ls3 ++ ls4 ++ ls5 ++ ls6 ++ ls7 ++ ls8 ++ ls9 ++ ls10 ++ ls11 ++ ls12
abbrev Rw : PySem.W.OpenRow := PySem.W.OpenLaw.row PySem.Challenge.rw_tellfew_k85_whole_ranks_put_together
/-- what the module's names are, and the code of these -/
def refs1 (g : Addr → Option Obj) : List Addr := match g mainGlobals with
  | some ⟨_, _, .dict es _, _⟩ => es.toList.flatMap fun e => He.refV e.val
  | _ => []
def codes1 (g : Addr → Option Obj) (l : List Addr) : List Addr := l.flatMap fun a => match g a with
  | some ⟨_, _, .func fd, _⟩ => He.refV fd.code
  | _ => []
def asY (g : Addr → Option Obj) : List Addr := mainGlobals :: (refs1 g ++ codes1 g (refs1 g))
def obsL (g : Addr → Option Obj) (l : List Addr) : He.AlX := (He.obsT fa fn ts (He.frT g l), exB (He.frT g l) && He.tabsB g tf (He.frT g l))
theorem says_of {l : List Addr} {w : World} {h : Heap} (e : obsL h.get? l = He.valX fn ts w) : He.SaysX fa fn ts tf exB w h (He.frT h.get? l) := by
  obtain ⟨e1, e2⟩ := Prod.mk.inj e
  rw [Bool.and_eq_true] at e2
  have tb := e2.2
  unfold He.tabsB at tb
  have key : ∀ p ∈ tf, PySem.W.codeHdIn (He.frT h.get? l) (He.cT (He.frT h.get? l) p).1 (He.cT (He.frT h.get? l) p).2 = true ∧ ∃ o, h.get? (He.cT (He.frT h.get? l) p).2 = some o ∧ He.emptyTab o = true := by
    intro p hp
    have q := List.all_eq_true.mp tb p hp
    rw [Bool.and_eq_true] at q
    refine ⟨q.1, ?_⟩
    have q2 := q.2
    split at q2
    · next o eo => exact ⟨o, eo, q2⟩
    · cases q2
  exact { t := e1, more := e2.1, hd := fun p hp => (key p hp).1, out := fun p hp => (key p hp).2.elim fun o ho => He.frT_none ho.1 ho.2, empty := fun p hp => (key p hp).2.elim fun o ho => by rw [ho.1, He.emptyTab_eq ho.2] }
def hk : PySem.W.Hook where
  α := He.AlX
  obs s := obsL s.heap.get? (asY s.heap.get?)
  val w := He.valX fn ts w
  says w h := ∃ K : PySem.W.Frag, K.In h ∧ He.SaysX fa fn ts tf exB w h K
  of _ _ e := ⟨_, He.frT_in, says_of e⟩
  keeps _ _ _ := fun ⟨K, i, c⟩ k => ⟨K, i.keeps k, { t := c.t, more := c.more, hd := c.hd, out := c.out, empty := fun p hp => k _ _ (c.empty p hp) }⟩
def ob (s : PySem.W.SharedT) : He.AlX := obsL (HandSHeadRun.getT s) (asY (HandSHeadRun.getT s))
theorem ob_eq (s : PySem.W.SharedT) : ob s = hk.obs s.abs := by
  have e : HandSHeadRun.getT s = s.abs.heap.get? := funext (HandSHeadRun.getT_eq s)
  show obsL _ _ = obsL _ _
  rw [e]
theorem run_false (w : World) : HandSHeadRun.RunEq Rw (PySem.W.view Rw.prog [184]) hk ob 8000 ls (w.withFollow "special-get-raises" false) := by
  intro os
  kernel_rfl
theorem run_true (w : World) : HandSHeadRun.RunEq Rw (PySem.W.view Rw.prog [184]) hk ob 8000 ls (w.withFollow "special-get-raises" true) := by
  intro os
  kernel_rfl
end TfH
end
section
/-! Sums, dependence over a prime ideal, determinants (core Lean alone). -/
namespace Tf
/-- the sum of f below n -/
def sm : Nat → (Nat → Int) → Int
  | 0, _ => 0
  | n + 1, f => sm n f + f n
theorem sm_congr : ∀ {n : Nat} {f g : Nat → Int}, (∀ i, i < n → f i = g i) → sm n f = sm n g
  | 0, _, _, _ => rfl
  | n + 1, f, g, h => by
    show sm n f + f n = sm n g + g n
    rw [sm_congr (n := n) fun i hi => h i (by omega), h n (by omega)]
theorem sm_add (f g : Nat → Int) : ∀ n : Nat, sm n (fun i => f i + g i) = sm n f + sm n g
  | 0 => rfl
  | n + 1 => by
    show sm n (fun i => f i + g i) + (f n + g n) = (sm n f + f n) + (sm n g + g n)
    rw [sm_add f g n]; omega
theorem sm_mul (c : Int) (f : Nat → Int) : ∀ n : Nat, sm n (fun i => c * f i) = c * sm n f
  | 0 => by show (0 : Int) = c * 0; rw [Int.mul_zero]
  | n + 1 => by
    show sm n (fun i => c * f i) + c * f n = c * (sm n f + f n)
    rw [sm_mul c f n, Int.mul_add]
theorem sm_mulr (c : Int) (f : Nat → Int) (n : Nat) : sm n (fun i => f i * c) = sm n f * c := by
  rw [Int.mul_comm (sm n f) c, ← sm_mul]
  exact sm_congr fun i _ => Int.mul_comm _ _
theorem sm_zero {f : Nat → Int} : ∀ {n : Nat}, (∀ i, i < n → f i = 0) → sm n f = 0
  | 0, _ => rfl
  | n + 1, h => by
    show sm n f + f n = 0
    rw [sm_zero (n := n) fun i hi => h i (by omega), h n (by omega)]; rfl
theorem sm_dvd {p : Int} {f : Nat → Int} : ∀ {n : Nat}, (∀ i, i < n → p ∣ f i) → p ∣ sm n f
  | 0, _ => Int.dvd_zero p
  | n + 1, h => Int.dvd_add (sm_dvd (n := n) fun i hi => h i (by omega)) (h n (by omega))
theorem sm_swap (f : Nat → Nat → Int) (m : Nat) : ∀ n : Nat, sm n (fun i => sm m (fun j => f i j)) = sm m (fun j => sm n (fun i => f i j))
  | 0 => by rw [sm_zero (n := m) (f := fun j => sm 0 (fun i => f i j)) fun _ _ => rfl]; rfl
  | n + 1 => by
    show sm n (fun i => sm m (fun j => f i j)) + sm m (fun j => f n j) = sm m (fun j => sm n (fun i => f i j) + f n j)
    rw [sm_swap f m n, sm_add]
theorem sm_split (f : Nat → Int) (n : Nat) : ∀ m : Nat, sm (n + m) f = sm n f + sm m (fun i => f (n + i))
  | 0 => by show sm n f = sm n f + 0; omega
  | m + 1 => by
    show sm (n + m) f + f (n + m) = sm n f + (sm m (fun i => f (n + i)) + f (n + m))
    rw [sm_split f n m]; omega
/-- the i-th of the numbers that are not r -/
def sk (r i : Nat) : Nat := if i < r then i else i + 1
theorem sk_ne (r i : Nat) : sk r i ≠ r := by unfold sk; split <;> omega
theorem sk_lt {r i : Nat} (h : i < r) : sk r i = i := if_pos h
theorem sk_ge {r i : Nat} (h : r ≤ i) : sk r i = i + 1 := if_neg (by omega)
theorem sk_below {r i n : Nat} (hi : i < n) : sk r i < n + 1 := by unfold sk; split <;> omega
theorem sk_back (r i : Nat) : (if sk r i < r then sk r i else sk r i - 1) = i := by
  by_cases h : i < r
  · rw [sk_lt h, if_pos h]
  · rw [sk_ge (by omega), if_neg (by omega)]; rfl
theorem sm_skip (f : Nat → Int) {r : Nat} : ∀ {n : Nat}, r ≤ n → sm (n + 1) f = f r + sm n (fun i => f (sk r i))
  | 0, h => by
    have e : r = 0 := by omega
    subst e
    show (0 : Int) + f 0 = f 0 + 0
    omega
  | n + 1, h => by
    by_cases e : r = n + 1
    · subst e
      show sm (n + 1) f + f (n + 1) = f (n + 1) + sm (n + 1) (fun i => f (sk (n + 1) i))
      rw [sm_congr (n := n + 1) (f := fun i => f (sk (n + 1) i)) (g := f) fun i hi => by rw [sk_lt hi]]
      omega
    · have ih := sm_skip f (r := r) (n := n) (by omega)
      show sm (n + 1) f + f (n + 1) = f r + (sm n (fun i => f (sk r i)) + f (sk r n))
      rw [ih, sk_ge (by omega : r ≤ n)]; omega
/-- two terms alone -/
theorem sm_two {f : Nat → Int} {r n : Nat} (h : r + 1 < n) (h0 : ∀ i, i < n → i ≠ r → i ≠ r + 1 → f i = 0) : sm n f = f r + f (r + 1) := by
  obtain ⟨m, rfl⟩ : ∃ m, n = m + 1 := ⟨n - 1, by omega⟩
  rw [sm_skip f (r := r) (by omega)]
  obtain ⟨k, rfl⟩ : ∃ k, m = k + 1 := ⟨m - 1, by omega⟩
  rw [sm_skip (fun i => f (sk r i)) (r := r) (by omega), sk_ge (Nat.le_refl r), sm_zero fun i hi => ?_, Int.add_zero]
  refine h0 _ ?_ (sk_ne _ _) ?_
  · exact sk_below (sk_below hi)
  · intro e
    have q := sk_ne r i
    have q2 : sk r (sk r i) = if sk r i < r then sk r i else sk r i + 1 := rfl
    by_cases hlt : sk r i < r
    · rw [if_pos hlt] at q2; omega
    · rw [if_neg hlt] at q2; omega
theorem sm_one {f : Nat → Int} {r n : Nat} (h : r < n) (h0 : ∀ i, i < n → i ≠ r → f i = 0) : sm n f = f r := by
  obtain ⟨m, rfl⟩ : ∃ m, n = m + 1 := ⟨n - 1, by omega⟩
  rw [sm_skip f (r := r) (by omega), sm_zero fun i hi => h0 _ (sk_below hi) (sk_ne _ _), Int.add_zero]

/-! ### a prime, or 0 -/
structure PrI (p : Int) : Prop where
  mul : ∀ a b : Int, p ∣ a * b → p ∣ a ∨ p ∣ b
  one : ¬ p ∣ 1
theorem prI_zero : PrI 0 where
  mul := fun a b h => by
    have e : a * b = 0 := Int.zero_dvd.mp h
    rcases Int.mul_eq_zero.mp e with h | h
    · exact .inl (Int.zero_dvd.mpr h)
    · exact .inr (Int.zero_dvd.mpr h)
  one := fun h => by have := Int.zero_dvd.mp h; omega
theorem prI_nat {q : Nat} (h1 : q ≠ 1) (h : ∀ d : Nat, d ∣ q → d = 1 ∨ d = q) : PrI (q : Int) where
  mul := fun a b hab => by
    have hn : q ∣ a.natAbs * b.natAbs := by
      rw [← Int.natAbs_mul]
      exact Int.ofNat_dvd_left.mp hab
    rcases h (Nat.gcd q a.natAbs) (Nat.gcd_dvd_left _ _) with e | e
    · exact .inr (Int.ofNat_dvd_left.mpr (Nat.Coprime.dvd_of_dvd_mul_left e hn))
    · refine .inl (Int.ofNat_dvd_left.mpr ?_)
      rw [← e]
      exact Nat.gcd_dvd_right _ _
  one := fun hd => by
    have h2 : q ∣ 1 := by
      have := Int.ofNat_dvd_left.mp hd
      simpa using this
    exact h1 (Nat.dvd_one.mp h2)
theorem PrI.pow {p a : Int} (hp : PrI p) (ha : ¬ p ∣ a) : ∀ e : Nat, ¬ p ∣ a ^ e
  | 0 => by rw [Int.pow_zero]; exact hp.one
  | e + 1 => fun h => by
    rw [Int.pow_succ] at h
    rcases hp.mul _ _ h with h | h
    · exact hp.pow ha e h
    · exact ha h

/-! ### more vectors than places -/
theorem dep {p : Int} (hp : PrI p) : ∀ (n : Nat) (v : Nat → Nat → Int), ∃ c : Nat → Int, (∃ i, i < n + 1 ∧ ¬ p ∣ c i) ∧ ∀ j, j < n → p ∣ sm (n + 1) (fun i => c i * v i j)
  | 0, v => ⟨fun _ => 1, ⟨0, by omega, hp.one⟩, fun j hj => by omega⟩
  | n + 1, v => by
    by_cases hall : ∀ i, i < n + 2 → p ∣ v i n
    · obtain ⟨c, ⟨i, hi, hc⟩, h⟩ := dep hp n v
      refine ⟨fun k => if k < n + 1 then c k else 0, ⟨i, by omega, ?_⟩, fun j hj => ?_⟩
      · show ¬ p ∣ (if i < n + 1 then c i else 0)
        rw [if_pos hi]; exact hc
      · by_cases e : j = n
        · subst e
          exact sm_dvd fun k hk => Int.dvd_mul_of_dvd_right (hall k (by omega))
        · show p ∣ sm (n + 1) (fun k => (if k < n + 1 then c k else 0) * v k j) + (if n + 1 < n + 1 then c (n + 1) else 0) * v (n + 1) j
          rw [if_neg (by omega), Int.zero_mul, Int.add_zero, sm_congr (g := fun k => c k * v k j) fun k hk => by rw [if_pos hk]]
          exact h j (by omega)
    · have hex : ∃ r, r < n + 2 ∧ ¬ p ∣ v r n := by
        refine Classical.byContradiction fun hne => hall fun i hi => ?_
        refine Classical.byContradiction fun hv => hne ⟨i, hi, hv⟩
      obtain ⟨r, hr, ha⟩ := hex
      obtain ⟨c, ⟨i, hi, hc⟩, h⟩ := dep hp n (fun k j => v r n * v (sk r k) j - v (sk r k) n * v r j)
      refine ⟨fun k => if k = r then - sm (n + 1) (fun t => c t * v (sk r t) n) else v r n * c (if k < r then k else k - 1), ⟨sk r i, sk_below hi, ?_⟩, fun j hj => ?_⟩
      · show ¬ p ∣ (if sk r i = r then - sm (n + 1) (fun t => c t * v (sk r t) n) else v r n * c (if sk r i < r then sk r i else sk r i - 1))
        rw [if_neg (sk_ne r i), sk_back]
        intro hd
        rcases hp.mul _ _ hd with h1 | h1
        · exact ha h1
        · exact hc h1
      · have e1 : sm (n + 2) (fun k => (if k = r then - sm (n + 1) (fun t => c t * v (sk r t) n) else v r n * c (if k < r then k else k - 1)) * v k j)
            = sm (n + 1) (fun t => c t * (v r n * v (sk r t) j - v (sk r t) n * v r j)) := by
          rw [sm_skip _ (r := r) (by omega : r ≤ n + 1)]
          rw [if_pos rfl, Int.neg_mul, ← sm_mulr]
          rw [show sm (n + 1) (fun t => c t * (v r n * v (sk r t) j - v (sk r t) n * v r j)) = sm (n + 1) (fun t => (-1) * (c t * v (sk r t) n * v r j) + v r n * c t * v (sk r t) j) from sm_congr fun t _ => by grind]
          rw [sm_add, sm_mul, show ∀ x y : Int, -x + y = -1 * x + y from fun x y => by omega]
          congr 1
          refine sm_congr fun t _ => ?_
          rw [if_neg (sk_ne r t), sk_back]
        rw [e1]
        by_cases e : j = n
        · subst e
          refine sm_dvd fun t _ => ?_
          rw [show c t * (v r j * v (sk r t) j - v (sk r t) j * v r j) = 0 by grind]
          exact Int.dvd_zero p
        · exact h j (by omega)
end Tf
end
section
/-! Determinants over the whole numbers: rows, blocks, bordered parts, Sylvester's identity. -/
namespace Tf
def sg : Nat → Int
  | 0 => 1
  | n + 1 => - sg n
theorem sg_sq : ∀ n, sg n * sg n = 1
  | 0 => rfl
  | n + 1 => by show - sg n * - sg n = 1; rw [Int.neg_mul_neg]; exact sg_sq n
theorem sg_abs : ∀ n, (sg n).natAbs = 1
  | 0 => rfl
  | n + 1 => by show (- sg n).natAbs = 1; rw [Int.natAbs_neg]; exact sg_abs n
abbrev Mx := Nat → Nat → Int
def minor (i : Nat) (M : Mx) : Mx := fun r c => M (sk i r) (c + 1)
def det : Nat → Mx → Int
  | 0, _ => 1
  | n + 1, M => sm (n + 1) (fun i => sg i * M i 0 * det n (minor i M))
theorem det_congr : ∀ {n : Nat} {M N : Mx}, (∀ i j, i < n → j < n → M i j = N i j) → det n M = det n N
  | 0, _, _, _ => rfl
  | n + 1, M, N, h => sm_congr fun i hi => by
    rw [h i 0 hi (by omega), det_congr (n := n) (M := minor i M) (N := minor i N) fun r c hr hc => h _ _ (sk_below hr) (by omega)]
def setR (M : Mx) (r : Nat) (v : Nat → Int) : Mx := fun i j => if i = r then v j else M i j
theorem setR_at (M : Mx) (r : Nat) (v : Nat → Int) (j : Nat) : setR M r v r j = v j := if_pos rfl
theorem setR_ne (M : Mx) {r i : Nat} (v : Nat → Int) (j : Nat) (h : i ≠ r) : setR M r v i j = M i j := if_neg h
/-- where r stands among those that are not i -/
def un (i r : Nat) : Nat := if r < i then r else r - 1
theorem sk_un {i r : Nat} (h : i ≠ r) : sk i (un i r) = r := by
  by_cases e : r < i
  · rw [un, if_pos e, sk_lt e]
  · rw [un, if_neg e, sk_ge (by omega)]; omega
theorem sk_inj {i a b : Nat} (h : sk i a = sk i b) : a = b := by
  by_cases h1 : a < i <;> by_cases h2 : b < i
  · rwa [sk_lt h1, sk_lt h2] at h
  · rw [sk_lt h1, sk_ge (by omega)] at h; omega
  · rw [sk_ge (by omega), sk_lt h2] at h; omega
  · rw [sk_ge (by omega), sk_ge (by omega)] at h; omega
theorem un_lt {i r n : Nat} (h : i ≠ r) (hi : i < n + 1) (hr : r < n + 1) : un i r < n := by
  unfold un
  split <;> omega
theorem minor_setR {i r : Nat} (h : i ≠ r) (M : Mx) (v : Nat → Int) : minor i (setR M r v) = setR (minor i M) (un i r) (fun c => v (c + 1)) := by
  funext a c
  show setR M r v (sk i a) (c + 1) = _
  by_cases e : a = un i r
  · subst e
    rw [sk_un h, setR_at, setR_at]
  · rw [setR_ne _ _ _ e, setR_ne]
    · rfl
    · intro q
      refine e (sk_inj (i := i) ?_)
      rw [q, sk_un h]
theorem minor_setR_same (i : Nat) (M : Mx) (v : Nat → Int) : minor i (setR M i v) = minor i M := by
  funext a c
  exact setR_ne _ _ _ (sk_ne i a)
theorem det_lin : ∀ {n r : Nat} (M : Mx) (u w : Nat → Int) (a b : Int), r < n →
    det n (setR M r (fun j => a * u j + b * w j)) = a * det n (setR M r u) + b * det n (setR M r w)
  | n + 1, r, M, u, w, a, b, hr => by
    show sm (n + 1) _ = a * sm (n + 1) _ + b * sm (n + 1) _
    rw [← sm_mul, ← sm_mul, ← sm_add]
    refine sm_congr fun i hi => ?_
    by_cases e : i = r
    · subst e
      rw [setR_at, setR_at, setR_at, minor_setR_same, minor_setR_same, minor_setR_same]
      grind
    · rw [setR_ne _ _ _ e, setR_ne _ _ _ e, setR_ne _ _ _ e, minor_setR e, minor_setR e, minor_setR e, det_lin (minor i M) _ _ a b (un_lt e hi hr)]
      grind
theorem setR_self (M : Mx) (r : Nat) : setR M r (M r) = M := by
  funext i j
  unfold setR
  split
  · next h => rw [h]
  · rfl
theorem det_scale {n r : Nat} (M : Mx) (u : Nat → Int) (a : Int) (hr : r < n) : det n (setR M r (fun j => a * u j)) = a * det n (setR M r u) := by
  have h := det_lin M u u a 0 hr
  rw [Int.zero_mul, Int.add_zero] at h
  rw [← h]
  congr 2
  funext j
  omega
theorem det_zero_row {n r : Nat} (M : Mx) (u : Nat → Int) (hr : r < n) (hu : ∀ j, j < n → u j = 0) : det n (setR M r u) = 0 := by
  have h := det_scale M u 0 hr
  rw [Int.zero_mul] at h
  rw [← h]
  refine det_congr fun i j _ hj => ?_
  show (if i = r then u j else M i j) = (if i = r then (0 : Int) * u j else M i j)
  split
  · rw [hu j hj]; rfl
  · rfl
theorem det_adj : ∀ {n r : Nat} {M : Mx}, r + 1 < n → (∀ j, j < n → M r j = M (r + 1) j) → det n M = 0
  | n + 1, r, M, hr, h => by
    show sm (n + 1) _ = 0
    rw [sm_two hr fun i hi h1 h2 => ?_]
    · have e : det n (minor r M) = det n (minor (r + 1) M) := det_congr fun a c _ hc => by
        show M (sk r a) (c + 1) = M (sk (r + 1) a) (c + 1)
        by_cases h1 : a < r
        · rw [sk_lt h1, sk_lt (by omega)]
        · by_cases h2 : a = r
          · subst h2
            rw [sk_ge (Nat.le_refl a), sk_lt (by omega)]
            exact (h _ (by omega)).symm
          · rw [sk_ge (by omega), sk_ge (by omega)]
      rw [e, h 0 (by omega)]
      show sg r * M (r + 1) 0 * det n (minor (r + 1) M) + - sg r * M (r + 1) 0 * det n (minor (r + 1) M) = 0
      grind
    · have z : det n (minor i M) = 0 := by
        by_cases hlt : i < r
        · refine det_adj (r := r - 1) (by omega) fun j hj => ?_
          show M (sk i (r - 1)) (j + 1) = M (sk i (r - 1 + 1)) (j + 1)
          rw [sk_ge (by omega), sk_ge (by omega), show r - 1 + 1 = r by omega]
          exact h _ (by omega)
        · refine det_adj (r := r) (by omega) fun j hj => ?_
          show M (sk i r) (j + 1) = M (sk i (r + 1)) (j + 1)
          rw [sk_lt (by omega), sk_lt (by omega)]
          exact h _ (by omega)
      rw [z, Int.mul_zero]
/-- two rows change places -/
def swR (a b : Nat) (M : Mx) : Mx := fun i j => M (if i = a then b else if i = b then a else i) j
theorem det_swap_adj {n r : Nat} (M : Mx) (hr : r + 1 < n) : det n (swR r (r + 1) M) = - det n M := by
  have key : ∀ u w : Nat → Int, det n (setR (setR M r u) (r + 1) w) = - det n (setR (setR M r w) (r + 1) u) := fun u w => by
    have zero : ∀ x : Nat → Int, det n (setR (setR M r x) (r + 1) x) = 0 := fun x => det_adj hr fun j _ => by
      rw [setR_at, setR_ne _ _ _ (by omega), setR_at]
    have comm : ∀ x y : Nat → Int, setR (setR M r x) (r + 1) y = setR (setR M (r + 1) y) r x := fun x y => by
      funext i j
      unfold setR
      by_cases h1 : i = r + 1
      · rw [if_pos h1, if_neg (by omega), if_pos h1]
      · rw [if_neg h1]
        by_cases h2 : i = r
        · rw [if_pos h2, if_pos h2]
        · rw [if_neg h2, if_neg h2, if_neg h1]
    have l2 : ∀ x y z : Nat → Int, det n (setR (setR M r x) (r + 1) (fun j => 1 * y j + 1 * z j)) = det n (setR (setR M r x) (r + 1) y) + det n (setR (setR M r x) (r + 1) z) := fun x y z => by
      rw [det_lin _ y z 1 1 hr]; omega
    have l1 : ∀ x y z : Nat → Int, det n (setR (setR M r (fun j => 1 * y j + 1 * z j)) (r + 1) x) = det n (setR (setR M r y) (r + 1) x) + det n (setR (setR M r z) (r + 1) x) := fun x y z => by
      rw [comm, comm, comm, det_lin _ y z 1 1 (by omega : r < n)]; omega
    have h := zero (fun j => 1 * u j + 1 * w j)
    rw [l1, l2, l2, zero, zero] at h
    omega
  have h := key (M (r + 1)) (M r)
  have e1 : setR (setR M r (M (r + 1))) (r + 1) (M r) = swR r (r + 1) M := by
    funext i j
    unfold setR swR
    by_cases h1 : i = r + 1
    · rw [if_pos h1, if_neg (by omega), if_pos h1]
    · rw [if_neg h1]
      by_cases h2 : i = r
      · rw [if_pos h2, if_pos h2]
      · rw [if_neg h2, if_neg h2, if_neg h1]
  rw [e1, setR_self] at h
  rw [h]
  have e2 : setR M (r + 1) (M (r + 1)) = M := setR_self M (r + 1)
  rw [e2]
theorem det_swap {n a : Nat} : ∀ (d : Nat) (M : Mx), a + (d + 1) < n → det n (swR a (a + (d + 1)) M) = - det n M
  | 0, M, h => det_swap_adj M h
  | d + 1, M, h => by
    have e : swR a (a + (d + 1 + 1)) M = swR (a + (d + 1)) (a + (d + 1) + 1) (swR a (a + (d + 1)) (swR (a + (d + 1)) (a + (d + 1) + 1) M)) := by
      funext i j
      unfold swR
      congr 1
      by_cases h1 : i = a
      · subst h1
        simp only [if_true, if_neg (show ¬ i = i + (d + 1) by omega), if_neg (show ¬ i = i + (d + 1) + 1 by omega)]
        omega
      · by_cases h2 : i = a + (d + 1)
        · subst h2
          simp only [if_true, if_neg (show ¬ a + (d + 1) = a by omega), if_neg (show ¬ a + (d + 1) = a + (d + 1 + 1) by omega), if_neg (show ¬ a + (d + 1) + 1 = a by omega), if_neg (show ¬ a + (d + 1) + 1 = a + (d + 1) by omega)]
        · by_cases h3 : i = a + (d + 1) + 1
          · subst h3
            simp only [if_neg (show ¬ a + (d + 1) + 1 = a by omega), if_pos (show a + (d + 1) + 1 = a + (d + 1 + 1) by omega), if_neg (show ¬ a + (d + 1) + 1 = a + (d + 1) by omega), if_true, if_neg (show ¬ a + (d + 1) = a by omega), if_neg (show ¬ a = a + (d + 1) by omega), if_neg (show ¬ a = a + (d + 1) + 1 by omega)]
          · simp only [if_neg h1, if_neg h2, if_neg h3, if_neg (show ¬ i = a + (d + 1 + 1) by omega)]
    rw [e, det_swap_adj _ (by omega), det_swap d _ (by omega), det_swap_adj _ (by omega)]
    omega
theorem det_eq_rows {n a b : Nat} (M : Mx) (hab : a < b) (hb : b < n) (h : ∀ j, M a j = M b j) : det n M = 0 := by
  obtain ⟨d, rfl⟩ : ∃ d, b = a + (d + 1) := ⟨b - a - 1, by omega⟩
  have q := det_swap (n := n) (a := a) d M hb
  have e : swR a (a + (d + 1)) M = M := by
    funext i j
    unfold swR
    by_cases h1 : i = a
    · subst h1; rw [if_pos rfl, h]
    · rw [if_neg h1]
      by_cases h2 : i = a + (d + 1)
      · subst h2; rw [if_pos rfl, h]
      · rw [if_neg h2]
  rw [e] at q
  omega
theorem det_row_copy {n r s : Nat} (M : Mx) (hr : r < n) (hs : s < n) (h : s ≠ r) : det n (setR M r (M s)) = 0 := by
  by_cases hlt : r < s
  · exact det_eq_rows _ hlt hs fun j => by rw [setR_at, setR_ne _ _ _ h]
  · exact det_eq_rows _ (by omega : s < r) hr fun j => by rw [setR_at, setR_ne _ _ _ h]
/-- a row, so often, and other rows added -/
theorem det_comb {n r : Nat} (M : Mx) (a : Int) (c : Nat → Int) (hr : r < n) : ∀ m, m ≤ n → (∀ s, s < m → s ≠ r ∨ c s = 0) →
    det n (setR M r (fun j => a * M r j + sm m (fun s => c s * M s j))) = a * det n M
  | 0, _, _ => by
    have e : (fun j => a * M r j + sm 0 (fun s => c s * M s j)) = fun j => a * M r j := by
      funext j
      show a * M r j + 0 = _
      omega
    rw [e, det_scale M (M r) a hr, setR_self]
  | m + 1, hm, h => by
    have ih := det_comb M a c hr m (by omega) fun s hs => h s (by omega)
    have e : (fun j => a * M r j + sm (m + 1) (fun s => c s * M s j)) = fun j => 1 * (a * M r j + sm m (fun s => c s * M s j)) + c m * M m j := by
      funext j
      show a * M r j + (sm m (fun s => c s * M s j) + c m * M m j) = _
      omega
    rw [e, det_lin M _ (M m) 1 (c m) hr, ih]
    rcases h m (by omega) with h1 | h1
    · rw [det_row_copy M hr (by omega) h1]; omega
    · rw [h1]; omega
/-- rows that hang together have no determinant -/
theorem det_of_dep {n r : Nat} (M : Mx) (c : Nat → Int) (hr : r < n) (hc : c r ≠ 0) (h : ∀ j, j < n → sm n (fun s => c s * M s j) = 0) : det n M = 0 := by
  have q := det_comb M (c r) (fun s => if s = r then 0 else c s) hr n (Nat.le_refl n) fun s _ => by
    by_cases e : s = r
    · exact .inr (if_pos e)
    · exact .inl e
  have z : det n (setR M r (fun j => c r * M r j + sm n (fun s => (if s = r then 0 else c s) * M s j))) = 0 := det_zero_row M _ hr fun j hj => by
    have h1 := h j hj
    obtain ⟨m, rfl⟩ : ∃ m, n = m + 1 := ⟨n - 1, by omega⟩
    rw [sm_skip _ (r := r) (by omega)] at h1 ⊢
    rw [if_pos rfl, Int.zero_mul, sm_congr (g := fun i => c (sk r i) * M (sk r i) j) fun i _ => by rw [if_neg (sk_ne r i)]]
    omega
  rw [z] at q
  rcases Int.mul_eq_zero.mp q.symm with h1 | h1
  · exact absurd h1 hc
  · exact h1
/-- nothing below the first part on the left -/
theorem det_block : ∀ (k m : Nat) (M : Mx), (∀ i j, k ≤ i → i < k + m → j < k → M i j = 0) → det (k + m) M = det k M * det m (fun i j => M (k + i) (k + j))
  | 0, m, M, _ => by
    rw [Nat.zero_add]
    show det m M = 1 * _
    rw [Int.one_mul]
    exact det_congr fun i j _ _ => by rw [Nat.zero_add, Nat.zero_add]
  | k + 1, m, M, h => by
    rw [show k + 1 + m = (k + m) + 1 by omega]
    show sm (k + m + 1) _ = sm (k + 1) _ * _
    rw [show k + m + 1 = (k + 1) + m by omega, sm_split, sm_zero (n := m) fun i hi => ?_, Int.add_zero, ← sm_mulr]
    · refine sm_congr fun i hi => ?_
      rw [det_block k m (minor i M) fun a b ha hb hk => ?_]
      · have e : det m (fun a b => minor i M (k + a) (k + b)) = det m (fun a b => M (k + 1 + a) (k + 1 + b)) := det_congr fun a b _ _ => by
          show M (sk i (k + a)) (k + b + 1) = M (k + 1 + a) (k + 1 + b)
          rw [sk_ge (by omega), show k + a + 1 = k + 1 + a by omega, show k + b + 1 = k + 1 + b by omega]
        rw [e]; simp only [Int.mul_assoc]
      · show M (sk i a) (b + 1) = 0
        rw [sk_ge (by omega)]
        exact h _ _ (by omega) (by omega) (by omega)
    · rw [h (k + 1 + i) 0 (by omega) (by omega) (by omega)]
      rw [Int.mul_zero, Int.zero_mul]
theorem det_one (M : Mx) : det 1 M = M 0 0 := by
  show (0 : Int) + 1 * M 0 0 * 1 = M 0 0
  omega
theorem det_two (M : Mx) : det 2 M = M 0 0 * M 1 1 - M 1 0 * M 0 1 := by
  show ((0 : Int) + 1 * M 0 0 * det 1 (minor 0 M)) + (- 1) * M 1 0 * det 1 (minor 1 M) = _
  rw [det_one, det_one]
  show ((0 : Int) + 1 * M 0 0 * M (sk 0 0) 1) + (- 1) * M 1 0 * M (sk 1 0) 1 = _
  rw [sk_ge (by omega), sk_lt (by omega)]
  grind
/-! ### no determinant by p: rows that hang together by p -/
theorem dvd_unit {p a x : Int} (ha : a * a = 1) (h : p ∣ a * x) : p ∣ x := by
  have : p ∣ a * (a * x) := Int.dvd_trans h ⟨a, Int.mul_comm _ _⟩
  rw [← Int.mul_assoc, ha, Int.one_mul] at this
  exact this
def clr (M : Mx) (r t : Nat) : Mx := fun i j => if i < t ∧ i ≠ r then M r 0 * M i j - M i 0 * M r j else M i j
theorem clr_in {M : Mx} {r t i : Nat} (j : Nat) (h1 : i < t) (h2 : i ≠ r) : clr M r t i j = M r 0 * M i j - M i 0 * M r j := if_pos ⟨h1, h2⟩
theorem clr_out {M : Mx} {r t i : Nat} (j : Nat) (h : ¬ (i < t ∧ i ≠ r)) : clr M r t i j = M i j := if_neg h
theorem det_clear {n r : Nat} (M : Mx) (hr : r < n) : ∀ t, t ≤ n → ∃ e : Nat, det n (clr M r t) = M r 0 ^ e * det n M
  | 0, _ => ⟨0, by
    rw [Int.pow_zero, Int.one_mul]
    exact det_congr fun i j _ _ => clr_out j (by omega)⟩
  | t + 1, ht => by
    obtain ⟨e, ih⟩ := det_clear M hr t (by omega)
    by_cases h : t = r
    · refine ⟨e, ?_⟩
      rw [← ih]
      refine det_congr fun i j _ _ => ?_
      by_cases h1 : i < t ∧ i ≠ r
      · rw [clr_in j h1.1 h1.2, clr_in j (by omega) h1.2]
      · rw [clr_out j h1, clr_out j (by omega)]
    · refine ⟨e + 1, ?_⟩
      rw [Int.pow_succ, Int.mul_comm (M r 0 ^ e), Int.mul_assoc, ← ih]
      rw [← det_comb (clr M r t) (M r 0) (fun s => if s = r then - M t 0 else 0) (by omega : t < n) n (Nat.le_refl n) fun s _ => by
        by_cases e : s = r
        · exact .inl (by omega)
        · exact .inr (if_neg e)]
      refine det_congr fun i j _ _ => ?_
      have es : sm n (fun s => (if s = r then - M t 0 else 0) * clr M r t s j) = - M t 0 * M r j := by
        rw [sm_one hr fun s _ hs => by rw [if_neg hs, Int.zero_mul], if_pos rfl, clr_out j (by omega)]
      by_cases h1 : i = t
      · subst h1
        rw [setR_at, es, clr_in j (by omega) h, clr_out j (by omega)]
        grind
      · rw [setR_ne _ _ _ h1]
        by_cases h2 : i < t ∧ i ≠ r
        · rw [clr_in j (by omega) h2.2, clr_in j h2.1 h2.2]
        · rw [clr_out j (by omega), clr_out j h2]
theorem dep_of_det {p : Int} (hp : PrI p) : ∀ (n : Nat) (M : Mx), p ∣ det n M → ∃ c : Nat → Int, (∃ i, i < n ∧ ¬ p ∣ c i) ∧ ∀ j, j < n → p ∣ sm n (fun i => c i * M i j)
  | 0, _, h => absurd h hp.one
  | n + 1, M, h => by
    by_cases hall : ∀ i, i < n + 1 → p ∣ M i 0
    · obtain ⟨c, hc, hd⟩ := dep hp n (fun i j => M i (j + 1))
      refine ⟨c, hc, fun j hj => ?_⟩
      cases j with
      | zero => exact sm_dvd fun i hi => Int.dvd_mul_of_dvd_right (hall i hi)
      | succ j => exact hd j (by omega)
    · have hex : ∃ r, r < n + 1 ∧ ¬ p ∣ M r 0 := by
        refine Classical.byContradiction fun hne => hall fun i hi => ?_
        exact Classical.byContradiction fun hv => hne ⟨i, hi, hv⟩
      obtain ⟨r, hr, ha⟩ := hex
      obtain ⟨e, he⟩ := det_clear M hr (n + 1) (Nat.le_refl _)
      have hd : p ∣ det n (minor r (clr M r (n + 1))) := by
        have h1 : p ∣ det (n + 1) (clr M r (n + 1)) := by
          rw [he]
          exact Int.dvd_mul_of_dvd_right h
        have h2 : det (n + 1) (clr M r (n + 1)) = sg r * (M r 0 * det n (minor r (clr M r (n + 1)))) := by
          show sm (n + 1) _ = _
          rw [sm_one hr fun i hi hne => by rw [clr_in 0 hi hne, show M r 0 * M i 0 - M i 0 * M r 0 = 0 by grind, Int.mul_zero, Int.zero_mul]]
          rw [clr_out 0 (by omega), Int.mul_assoc]
        rw [h2] at h1
        rcases hp.mul _ _ (dvd_unit (sg_sq r) h1) with h3 | h3
        · exact absurd h3 ha
        · exact h3
      obtain ⟨c, ⟨i, hi, hc⟩, hcd⟩ := dep_of_det hp n _ hd
      refine ⟨fun k => if k = r then - sm n (fun t => c t * M (sk r t) 0) else M r 0 * c (if k < r then k else k - 1), ⟨sk r i, sk_below hi, ?_⟩, fun j hj => ?_⟩
      · show ¬ p ∣ (if sk r i = r then - sm n (fun t => c t * M (sk r t) 0) else M r 0 * c (if sk r i < r then sk r i else sk r i - 1))
        rw [if_neg (sk_ne r i), sk_back]
        intro hd
        rcases hp.mul _ _ hd with h1 | h1
        · exact ha h1
        · exact hc h1
      · have e1 : sm (n + 1) (fun k => (if k = r then - sm n (fun t => c t * M (sk r t) 0) else M r 0 * c (if k < r then k else k - 1)) * M k j)
            = sm n (fun t => c t * (M r 0 * M (sk r t) j - M (sk r t) 0 * M r j)) := by
          rw [sm_skip _ (r := r) (by omega : r ≤ n)]
          rw [if_pos rfl, Int.neg_mul, ← sm_mulr]
          rw [show sm n (fun t => c t * (M r 0 * M (sk r t) j - M (sk r t) 0 * M r j)) = sm n (fun t => (-1) * (c t * M (sk r t) 0 * M r j) + M r 0 * c t * M (sk r t) j) from sm_congr fun t _ => by grind]
          rw [sm_add, sm_mul, show ∀ x y : Int, -x + y = -1 * x + y from fun x y => by omega]
          congr 1
          refine sm_congr fun t _ => ?_
          rw [if_neg (sk_ne r t), sk_back]
        rw [e1]
        cases j with
        | zero =>
          refine sm_dvd fun t _ => ?_
          rw [show c t * (M r 0 * M (sk r t) 0 - M (sk r t) 0 * M r 0) = 0 by grind]
          exact Int.dvd_zero p
        | succ j =>
          have h1 := hcd j (by omega)
          rw [sm_congr (g := fun t => c t * (M r 0 * M (sk r t) (j + 1) - M (sk r t) 0 * M r (j + 1))) fun t ht => ?_] at h1
          · exact h1
          · show c t * clr M r (n + 1) (sk r t) (j + 1) = _
            rw [clr_in _ (sk_below ht) (sk_ne r t)]
end Tf
end
section
/-! Bordered parts, Sylvester's identity, the elimination without fractions; how great a determinant is. -/
namespace Tf
/-- the part of rows 0 .. k-1, i and columns 0 .. k-1, j -/
def bord (k : Nat) (M : Mx) (i j : Nat) : Mx := fun a b => M (if a = k then i else a) (if b = k then j else b)
def bor (k : Nat) (M : Mx) (i j : Nat) : Int := det (k + 1) (bord k M i j)
theorem bor_diag (k : Nat) (M : Mx) : bor k M k k = det (k + 1) M := det_congr fun a b _ _ => by
  show M (if a = k then k else a) (if b = k then k else b) = M a b
  congr 1 <;> split <;> omega
theorem bor_zero (M : Mx) (i j : Nat) : bor 0 M i j = M i j := det_one _
/-- a row that has nothing in the first places, made of row x (so often) and the first rows -/
theorem cleared {k : Nat} {M : Mx} (hD : det k M ≠ 0) (x : Nat) : ∃ (al : Int) (c : Nat → Int), al ≠ 0 ∧ ∀ b, b < k → al * M x b + sm k (fun s => c s * M s b) = 0 := by
  obtain ⟨c, ⟨i, hi, hc⟩, h⟩ := dep prI_zero k (fun a b => M (if a = k then x else a) b)
  have h' : ∀ b, b < k → c k * M x b + sm k (fun s => c s * M s b) = 0 := fun b hb => by
    have q : sm (k + 1) (fun a => c a * M (if a = k then x else a) b) = 0 := Int.zero_dvd.mp (h b hb)
    have q2 : sm k (fun a => c a * M (if a = k then x else a) b) + c k * M (if k = k then x else k) b = 0 := q
    rw [if_pos rfl, sm_congr (g := fun s => c s * M s b) fun s hs => by rw [if_neg (by omega)]] at q2
    omega
  refine ⟨c k, c, fun e => ?_, h'⟩
  have hik : i < k := by
    refine Nat.lt_of_le_of_ne (by omega) fun z => ?_
    rw [z, e] at hc
    exact hc (Int.dvd_zero 0)
  refine hD (det_of_dep M c hik (fun z => hc (by rw [z]; exact Int.dvd_zero 0)) fun b hb => ?_)
  have q := h' b hb
  rw [e, Int.zero_mul, Int.zero_add] at q
  exact q
theorem bor_cleared {k : Nat} {M : Mx} {x : Nat} {al : Int} {c : Nat → Int} (h : ∀ b, b < k → al * M x b + sm k (fun s => c s * M s b) = 0) (j : Nat) :
    bor k M x j * al = det k M * (al * M x j + sm k (fun s => c s * M s j)) := by
  have q := det_comb (n := k + 1) (r := k) (bord k M x j) al c (by omega) k (by omega) fun s hs => .inl (by omega)
  rw [Int.mul_comm]
  show al * det (k + 1) (bord k M x j) = _
  rw [← q]
  have val : ∀ b, al * bord k M x j k b + sm k (fun s => c s * bord k M x j s b) = al * M x (if b = k then j else b) + sm k (fun s => c s * M s (if b = k then j else b)) := fun b => by
    congr 1
    · show al * M (if k = k then x else k) _ = _
      rw [if_pos rfl]
    · refine sm_congr fun s hs => ?_
      show c s * M (if s = k then x else s) _ = _
      rw [if_neg (by omega)]
  rw [det_block k 1 _ fun a b h1 h2 h3 => ?_, det_one]
  · congr 1
    · refine det_congr fun a b ha hb => ?_
      rw [setR_ne _ _ _ (by omega)]
      show M (if a = k then x else a) (if b = k then j else b) = M a b
      rw [if_neg (by omega), if_neg (by omega)]
    · show setR _ k _ k (k + 0) = _
      rw [setR_at, val, if_pos (by omega)]
  · have e : a = k := by omega
    subst e
    rw [setR_at, val, if_neg (by omega)]
    exact h b h3
theorem sylvester {k : Nat} {M : Mx} (hD : det k M ≠ 0) (i j : Nat) : bor (k + 1) M i j * det k M = bor k M i j * bor k M k k - bor k M k j * bor k M i k := by
  obtain ⟨al, c, ha, hc⟩ := cleared hD k
  obtain ⟨be, d, hb, hd⟩ := cleared hD i
  have kk := bor_cleared hc k
  have kj := bor_cleared hc j
  have ik := bor_cleared hd k
  have ij := bor_cleared hd j
  -- the greater part
  have big : bor (k + 1) M i j * (al * be) = det k M * ((al * M k k + sm k (fun s => c s * M s k)) * (be * M i j + sm k (fun s => d s * M s j)) - (be * M i k + sm k (fun s => d s * M s k)) * (al * M k j + sm k (fun s => c s * M s j))) := by
    have q1 := det_comb (n := k + 2) (r := k) (bord (k + 1) M i j) al c (by omega) k (by omega) fun s hs => .inl (by omega)
    have q2 := det_comb (n := k + 2) (r := k + 1) (setR (bord (k + 1) M i j) k (fun b => al * bord (k + 1) M i j k b + sm k (fun s => c s * bord (k + 1) M i j s b))) be d (by omega) k (by omega) fun s hs => .inl (by omega)
    rw [q1] at q2
    have e0 : bor (k + 1) M i j * (al * be) = be * (al * det (k + 2) (bord (k + 1) M i j)) := by
      show det (k + 2) (bord (k + 1) M i j) * (al * be) = _
      grind
    rw [e0, ← q2]
    have v0 : ∀ a b, a < k + 1 → b < k + 1 → bord (k + 1) M i j a b = M a b := fun a b h1 h2 => by
      show M (if a = k + 1 then i else a) (if b = k + 1 then j else b) = M a b
      rw [if_neg (by omega), if_neg (by omega)]
    have v1 : ∀ a, a < k + 1 → bord (k + 1) M i j a (k + 1) = M a j := fun a h1 => by
      show M (if a = k + 1 then i else a) (if k + 1 = k + 1 then j else k + 1) = _
      rw [if_neg (by omega), if_pos rfl]
    have v2 : ∀ b, b < k + 1 → bord (k + 1) M i j (k + 1) b = M i b := fun b h1 => by
      show M (if k + 1 = k + 1 then i else k + 1) (if b = k + 1 then j else b) = _
      rw [if_pos rfl, if_neg (by omega)]
    have v3 : bord (k + 1) M i j (k + 1) (k + 1) = M i j := by
      show M (if k + 1 = k + 1 then i else k + 1) (if k + 1 = k + 1 then j else k + 1) = _
      rw [if_pos rfl, if_pos rfl]
    have r1 : ∀ b, b < k + 1 → al * bord (k + 1) M i j k b + sm k (fun s => c s * bord (k + 1) M i j s b) = al * M k b + sm k (fun s => c s * M s b) := fun b hb => by
      rw [v0 k b (by omega) hb, sm_congr fun s hs => by rw [v0 s b (by omega) hb]]
    have r1' : al * bord (k + 1) M i j k (k + 1) + sm k (fun s => c s * bord (k + 1) M i j s (k + 1)) = al * M k j + sm k (fun s => c s * M s j) := by
      rw [v1 k (by omega), sm_congr fun s hs => by rw [v1 s (by omega)]]
    have r2 : ∀ b, b < k + 1 → be * setR (bord (k + 1) M i j) k (fun b => al * bord (k + 1) M i j k b + sm k (fun s => c s * bord (k + 1) M i j s b)) (k + 1) b + sm k (fun s => d s * setR (bord (k + 1) M i j) k (fun b => al * bord (k + 1) M i j k b + sm k (fun s => c s * bord (k + 1) M i j s b)) s b) = be * M i b + sm k (fun s => d s * M s b) := fun b hb => by
      rw [setR_ne _ _ _ (by omega), v2 b hb, sm_congr fun s hs => by rw [setR_ne _ _ _ (by omega), v0 s b (by omega) hb]]
    have r2' : be * setR (bord (k + 1) M i j) k (fun b => al * bord (k + 1) M i j k b + sm k (fun s => c s * bord (k + 1) M i j s b)) (k + 1) (k + 1) + sm k (fun s => d s * setR (bord (k + 1) M i j) k (fun b => al * bord (k + 1) M i j k b + sm k (fun s => c s * bord (k + 1) M i j s b)) s (k + 1)) = be * M i j + sm k (fun s => d s * M s j) := by
      rw [setR_ne _ _ _ (by omega), v3, sm_congr fun s hs => by rw [setR_ne _ _ _ (by omega), v1 s (by omega)]]
    rw [det_block k 2 _ fun a b h1 h2 h3 => ?_, det_two]
    · congr 1
      · refine det_congr fun a b ha hb => ?_
        rw [setR_ne _ _ _ (by omega), setR_ne _ _ _ (by omega), v0 a b (by omega) (by omega)]
      · simp only [Nat.add_zero]
        have z1 : k ≠ k + 1 := by omega
        rw [setR_ne _ _ k z1, setR_ne _ _ (k + 1) z1, setR_at, setR_at, setR_at, setR_at, r1 k (by omega), r1', r2 k (by omega), r2']
    · by_cases e : a = k
      · subst e
        rw [setR_ne _ _ _ (by omega), setR_at, r1 b (by omega)]
        exact hc b h3
      · have e2 : a = k + 1 := by omega
        subst e2
        rw [setR_at, r2 b (by omega)]
        exact hd b h3
  generalize hY1 : al * M k k + sm k (fun s => c s * M s k) = y1 at big kk
  generalize hY2 : be * M i j + sm k (fun s => d s * M s j) = y2 at big ij
  generalize hY3 : be * M i k + sm k (fun s => d s * M s k) = y3 at big ik
  generalize hY4 : al * M k j + sm k (fun s => c s * M s j) = y4 at big kj
  generalize bor (k + 1) M i j = B at big ⊢
  generalize bor k M k k = b1 at kk ⊢
  generalize bor k M i j = b2 at ij ⊢
  generalize bor k M i k = b3 at ik ⊢
  generalize bor k M k j = b4 at kj ⊢
  generalize det k M = D at big kk kj ik ij hD ⊢
  have hab : al * be ≠ 0 := fun z => (Int.mul_eq_zero.mp z).elim ha hb
  refine Int.eq_of_mul_eq_mul_right hab ?_
  calc B * D * (al * be) = (B * (al * be)) * D := by grind
    _ = D * (y1 * y2 - y3 * y4) * D := by rw [big]
    _ = (D * y1) * (D * y2) - (D * y3) * (D * y4) := by grind
    _ = (b1 * al) * (b2 * be) - (b3 * be) * (b4 * al) := by rw [← kk, ← ij, ← ik, ← kj]
    _ = (b2 * b1 - b4 * b3) * (al * be) := by grind
/-- where no row further down has anything in a column, there is no determinant -/
theorem det_no_pivot {k n : Nat} {M : Mx} (hk : k < n) (hD : det k M ≠ 0) (h : ∀ i, k ≤ i → i < n → bor k M i k = 0) : det n M = 0 := by
  -- for each further row one that has nothing up to the column k
  have each : ∀ i : Nat, ∃ (w : Int × (Nat → Int)), w.1 ≠ 0 ∧ (k ≤ i → i < n → ∀ b, b < k + 1 → w.1 * M i b + sm k (fun s => w.2 s * M s b) = 0) := fun i => by
    obtain ⟨al, c, ha, hc⟩ := cleared hD i
    refine ⟨(al, c), ha, fun h1 h2 b hb => ?_⟩
    by_cases e : b = k
    · subst e
      have q := bor_cleared hc b
      rw [h i h1 h2, Int.zero_mul] at q
      rcases Int.mul_eq_zero.mp q.symm with z | z
      · exact absurd z hD
      · exact z
    · exact hc b (by omega)
  obtain ⟨W, hW⟩ : ∃ W : Nat → Int × (Nat → Int), ∀ i, (W i).1 ≠ 0 ∧ (k ≤ i → i < n → ∀ b, b < k + 1 → (W i).1 * M i b + sm k (fun s => (W i).2 s * M s b) = 0) :=
    ⟨fun i => Classical.choose (each i), fun i => Classical.choose_spec (each i)⟩
  obtain ⟨m, rfl⟩ : ∃ m, n = k + (m + 1) := ⟨n - k - 1, by omega⟩
  obtain ⟨be, ⟨t0, ht0, hb0⟩, hbe⟩ := dep prI_zero m (fun t j => (W (k + t)).1 * M (k + t) (k + 1 + j) + sm k (fun s => (W (k + t)).2 s * M s (k + 1 + j)))
  have all : ∀ b, b < k + (m + 1) → sm (m + 1) (fun t => be t * ((W (k + t)).1 * M (k + t) b + sm k (fun s => (W (k + t)).2 s * M s b))) = 0 := fun b hb => by
    by_cases e : b < k + 1
    · exact sm_zero fun t ht => by rw [(hW (k + t)).2 (by omega) (by omega) b e, Int.mul_zero]
    · have q := Int.zero_dvd.mp (hbe (b - (k + 1)) (by omega))
      rw [show k + 1 + (b - (k + 1)) = b by omega] at q
      exact q
  refine det_of_dep (r := k + t0) M (fun i => if i < k then sm (m + 1) (fun t => be t * (W (k + t)).2 i) else be (i - k) * (W i).1) (by omega) ?_ fun b hb => ?_
  · rw [if_neg (by omega), show k + t0 - k = t0 by omega]
    intro z
    rcases Int.mul_eq_zero.mp z with z | z
    · exact hb0 (by rw [z]; exact Int.dvd_zero 0)
    · exact (hW (k + t0)).1 z
  · rw [sm_split]
    rw [sm_congr (n := k) (g := fun i => sm (m + 1) (fun t => be t * ((W (k + t)).2 i * M i b))) fun i hi => by
      rw [if_pos hi, ← sm_mulr]
      exact sm_congr fun t _ => Int.mul_assoc _ _ _]
    rw [sm_swap, sm_congr (n := m + 1) (g := fun t => be t * ((W (k + t)).1 * M (k + t) b)) (f := fun i => (if k + i < k then sm (m + 1) (fun t => be t * (W (k + t)).2 (k + i)) else be (k + i - k) * (W (k + i)).1) * M (k + i) b) fun t ht => by
      rw [if_neg (by omega), show k + t - k = t by omega, Int.mul_assoc]]
    rw [← sm_add, ← all b hb]
    refine sm_congr fun t ht => ?_
    rw [sm_mul]
    grind
/-- how great a determinant is -/
theorem sm_abs {f : Nat → Int} {B : Nat} : ∀ {n : Nat}, (∀ i, i < n → (f i).natAbs ≤ B) → (sm n f).natAbs ≤ n * B
  | 0, _ => by show Int.natAbs 0 ≤ 0 * B; simp
  | n + 1, h => by
    have h1 := sm_abs (n := n) fun i hi => h i (by omega)
    have h2 := h n (by omega)
    show (sm n f + f n).natAbs ≤ (n + 1) * B
    have h3 := Int.natAbs_add_le (sm n f) (f n)
    rw [Nat.add_mul, Nat.one_mul]
    omega
theorem det_abs {b N : Nat} : ∀ {n : Nat} {M : Mx}, n ≤ N → (∀ i j, i < n → j < n → (M i j).natAbs ≤ b) → (det n M).natAbs ≤ (N * b) ^ n
  | 0, _, _, _ => by show (1 : Int).natAbs ≤ _; simp
  | n + 1, M, hn, h => by
    have q := sm_abs (n := n + 1) (B := b * (N * b) ^ n) (f := fun i => sg i * M i 0 * det n (minor i M)) fun i hi => by
      rw [Int.natAbs_mul, Int.natAbs_mul, sg_abs, Nat.one_mul]
      exact Nat.mul_le_mul (h i 0 hi (by omega)) (det_abs (by omega) fun r c hr hc => h _ _ (sk_below hr) (by omega))
    refine Nat.le_trans q ?_
    rw [Nat.pow_succ, Nat.mul_comm ((N * b) ^ n), ← Nat.mul_assoc]
    exact Nat.mul_le_mul (Nat.mul_le_mul hn (Nat.le_refl b)) (Nat.le_refl _)
/-! ### the elimination -/
/-- behind k turns: R are bordered parts of M' (M with rows exchanged, sign s), D the determinant of its first part -/
structure Bar (n b : Nat) (M : Mx) (k : Nat) (R : Mx) (s D : Int) (M' : Mx) : Prop where
  sign : s = 1 ∨ s = -1
  dt : det n M = s * det n M'
  de : D = det k M'
  ne : D ≠ 0
  ent : ∀ i j, k ≤ i → i < n → k ≤ j → j < n → R i j = bor k M' i j
  zer : ∀ i j, k ≤ i → i < n → j < k → R i j = 0
  bnd : ∀ i j, i < n → j < n → (M' i j).natAbs ≤ b
theorem Bar.start {n b : Nat} {M : Mx} (h : ∀ i j, i < n → j < n → (M i j).natAbs ≤ b) : Bar n b M 0 M 1 1 M :=
  ⟨.inl rfl, (Int.one_mul _).symm, rfl, by decide, fun i j _ _ _ _ => (bor_zero M i j).symm, fun _ _ _ _ h => absurd h (by omega), h⟩
/-- no row with anything in the column -/
theorem Bar.none {n b k : Nat} {M R M' : Mx} {s D : Int} (B : Bar n b M k R s D M') (hk : k < n) (h : ∀ i, k ≤ i → i < n → R i k = 0) : Tf.det n M = 0 := by
  rw [B.dt, det_no_pivot hk (by rw [← B.de]; exact B.ne) fun i h1 h2 => by rw [← B.ent i k h1 h2 (Nat.le_refl k) hk, h i h1 h2], Int.mul_zero]
theorem Bar.swap {n b k r : Nat} {M R M' : Mx} {s D : Int} (B : Bar n b M k R s D M') (hr : k < r) (hn : r < n) : Bar n b M k (swR k r R) (0 - s) D (swR k r M') := by
  have dk : Tf.det k (swR k r M') = Tf.det k M' := det_congr fun i j hi hj => by
    show M' (if i = k then r else if i = r then k else i) j = M' i j
    rw [if_neg (by omega), if_neg (by omega)]
  have ix : ∀ i, k ≤ i → i < n → k ≤ (if i = k then r else if i = r then k else i) ∧ (if i = k then r else if i = r then k else i) < n := fun i h1 h2 => by
    split
    · omega
    · split <;> omega
  refine ⟨?_, ?_, by rw [dk]; exact B.de, B.ne, fun i j h1 h2 h3 h4 => ?_, fun i j h1 h2 h3 => ?_, fun i j h1 h2 => ?_⟩
  · rcases B.sign with e | e <;> rw [e] <;> decide
  · obtain ⟨d, rfl⟩ : ∃ d, r = k + (d + 1) := ⟨r - k - 1, by omega⟩
    rw [det_swap d M' hn, B.dt]
    grind
  · have q := ix i h1 h2
    show R (if i = k then r else if i = r then k else i) j = _
    rw [B.ent _ j q.1 q.2 h3 h4]
    refine det_congr fun a c ha hc => ?_
    show M' (if a = k then _ else a) _ = M' (if (if a = k then i else a) = k then r else if (if a = k then i else a) = r then k else (if a = k then i else a)) _
    by_cases e : a = k
    · rw [if_pos e, if_pos e]
    · simp only [if_neg e, if_neg (show ¬ a = r by omega)]
  · have q := ix i h1 h2
    exact B.zer _ j q.1 q.2 h3
  · have q : (if i = k then r else if i = r then k else i) < n := by
      split
      · omega
      · split <;> omega
    exact B.bnd _ j q h2
/-- a row taken away from those below -/
theorem Bar.clear {n b k : Nat} {M R R' M' : Mx} {s D : Int} (B : Bar n b M k R s D M') (hk : k < n) (hp : R k k ≠ 0)
    (h : ∀ i j, k < i → i < n → j < n → R' i j = (R i j * R k k - R k j * R i k).fdiv D) : Bar n b M (k + 1) R' s (R k k) M' := by
  have e : R k k = bor k M' k k := B.ent k k (Nat.le_refl k) hk (Nat.le_refl k) hk
  refine ⟨B.sign, B.dt, by rw [e, bor_diag], hp, fun i j h1 h2 h3 h4 => ?_, fun i j h1 h2 h3 => ?_, B.bnd⟩
  · rw [h i j (by omega) h2 h4, B.ent i j (by omega) h2 (by omega) h4, e, B.ent k j (Nat.le_refl k) hk (by omega) h4, B.ent i k (by omega) h2 (Nat.le_refl k) hk,
      ← sylvester (by rw [← B.de]; exact B.ne), ← B.de]
    exact Int.mul_fdiv_cancel _ B.ne
  · rw [h i j (by omega) h2 (by omega)]
    by_cases z : j = k
    · subst z
      rw [show R i j * R j j - R j j * R i j = 0 by grind]
      exact Int.zero_fdiv _
    · rw [B.zer i j (by omega) h2 (by omega), B.zer k j (Nat.le_refl k) hk (by omega), Int.zero_mul, Int.zero_mul]
      exact Int.zero_fdiv _
theorem Bar.stop {n b : Nat} {M R M' : Mx} {s D : Int} (B : Bar n b M n R s D M') : s * D = Tf.det n M := by rw [B.de, B.dt]
theorem Bar.small {n b k N : Nat} {M R M' : Mx} {s D : Int} (B : Bar n b M k R s D M') (hn : n ≤ N) (hb : 0 < N * b) (i j : Nat) (h1 : k ≤ i) (h2 : i < n) (h3 : j < n) : (R i j).natAbs ≤ (N * b) ^ N := by
  by_cases e : k ≤ j
  · rw [B.ent i j h1 h2 e h3]
    refine Nat.le_trans (det_abs (N := N) (b := b) (by omega) fun a c ha hc => B.bnd _ _ ?_ ?_) (Nat.pow_le_pow_right hb (by omega))
    · split <;> omega
    · split <;> omega
  · rw [B.zer i j h1 h2 (by omega)]
    exact Nat.zero_le _
theorem Bar.smallD {n b k N : Nat} {M R M' : Mx} {s D : Int} (B : Bar n b M k R s D M') (hn : n ≤ N) (hk : k ≤ n) (hb : 0 < N * b) : D.natAbs ≤ (N * b) ^ N := by
  rw [B.de]
  exact Nat.le_trans (det_abs (N := N) (b := b) (by omega) fun a c ha hc => B.bnd _ _ (by omega) (by omega)) (Nat.pow_le_pow_right hb (by omega))
end Tf
end
section
/-! Rank over a prime ideal (core Lean alone). -/
namespace Tf
theorem sm_pad {f : Nat → Int} {n m : Nat} (h : n ≤ m) (hz : ∀ i, n ≤ i → i < m → f i = 0) : sm m f = sm n f := by
  obtain ⟨k, rfl⟩ := Nat.exists_eq_add_of_le h
  rw [sm_split, sm_zero (f := fun i => f (n + i)) fun i hi => hz _ (by omega) (by omega), Int.add_zero]
theorem sm_prod (f : Nat → Int) (b : Nat) : ∀ a : Nat, sm (a * b) f = sm a (fun i => sm b (fun j => f (i * b + j)))
  | 0 => by rw [Nat.zero_mul]; rfl
  | a + 1 => by
    rw [Nat.succ_mul, sm_split, sm_prod f b a]
    rfl
theorem sm_sub (f g : Nat → Int) (n : Nat) : sm n (fun i => f i - g i) = sm n f - sm n g := by
  rw [show (fun i => f i - g i) = fun i => f i + (-1) * g i from funext fun i => by omega, sm_add, sm_mul]
  omega
/-- the rows below r of A do not hang together -/
def Ind (p : Int) (r n : Nat) (A : Mx) : Prop := ∀ c : Nat → Int, (∀ x, x < n → p ∣ sm r (fun j => c j * A j x)) → ∀ j, j < r → p ∣ c j
/-- the rows below m of T are put together from the rows below r of A -/
def Gen (p : Int) (m n r : Nat) (T A : Mx) : Prop := ∀ i, i < m → ∃ (d : Int) (c : Nat → Int), ¬ p ∣ d ∧ ∀ x, x < n → p ∣ d * T i x - sm r (fun j => c j * A j x)
theorem dvd_of_sub {p a b : Int} (h : p ∣ a - b) (hb : p ∣ b) : p ∣ a := by
  have := Int.dvd_add h hb
  rwa [Int.sub_add_cancel] at this
theorem dvd_sub' {p a b : Int} (h : p ∣ a - b) : p ∣ b - a := by
  have := Int.dvd_neg.mpr h
  rwa [Int.neg_sub] at this
theorem dvd_sub_trans {p a b c : Int} (h : p ∣ a - b) (h' : p ∣ b - c) : p ∣ a - c := by
  have := Int.dvd_add h h'
  rwa [show a - b + (b - c) = a - c by omega] at this
theorem ind_le_gen {p : Int} {k n r : Nat} {A B : Mx} (hp : PrI p) (hi : Ind p k n B) (hg : Gen p k n r B A) : k ≤ r := by
  refine Classical.byContradiction fun hlt => ?_
  have hlt : r + 1 ≤ k := by omega
  have hg' : ∀ i, ∃ (dc : Int × (Nat → Int)), i < k → ¬ p ∣ dc.1 ∧ ∀ x, x < n → p ∣ dc.1 * B i x - sm r (fun j => dc.2 j * A j x) := fun i => by
    by_cases h : i < k
    · obtain ⟨d, c, h1, h2⟩ := hg i h
      exact ⟨(d, c), fun _ => ⟨h1, h2⟩⟩
    · exact ⟨(0, fun _ => 0), fun z => absurd z h⟩
  obtain ⟨dc, hdc⟩ := Classical.axiomOfChoice hg'
  obtain ⟨e, ⟨i0, hi0, he0⟩, he⟩ := dep hp r (fun i j => (dc i).2 j)
  have := hi (fun i => if i < r + 1 then e i * (dc i).1 else 0) (fun x hx => ?_) i0 (by omega)
  · simp only [if_pos hi0] at this
    rcases hp.mul _ _ this with h | h
    · exact he0 h
    · exact (hdc i0 (by omega)).1 h
  · rw [sm_pad hlt fun i h1 h2 => by rw [if_neg (by omega), Int.zero_mul]]
    rw [sm_congr (g := fun i => e i * ((dc i).1 * B i x - sm r (fun j => (dc i).2 j * A j x)) + sm r (fun j => e i * (dc i).2 j * A j x)) fun i hi => by
      rw [if_pos hi, show sm r (fun j => e i * (dc i).2 j * A j x) = e i * sm r (fun j => (dc i).2 j * A j x) by
        rw [← sm_mul]; exact sm_congr fun j _ => Int.mul_assoc _ _ _]
      grind]
    rw [sm_add]
    refine Int.dvd_add (sm_dvd fun i hi => Int.dvd_mul_of_dvd_right ((hdc i (by omega)).2 x hx)) ?_
    rw [sm_swap]
    refine sm_dvd fun j hj => ?_
    rw [sm_mulr]
    exact Int.dvd_mul_of_dvd_left (he j hj)
/-- T, of m rows and n places, has rank r -/
def RankIs (p : Int) (m n : Nat) (T : Mx) (r : Nat) : Prop := ∃ R : Nat → Nat, (∀ j, j < r → R j < m) ∧ Ind p r n (fun j => T (R j)) ∧ Gen p m n r T (fun j => T (R j))
section
variable {p : Int} {m n r k : Nat} {T A : Mx}
theorem Gen.sub {l : Nat} {R : Nat → Nat} (h : Gen p m n r T A) (hR : ∀ j, j < l → R j < m) : Gen p l n r (fun j => T (R j)) A := fun i hi => h (R i) (hR i hi)
theorem RankIs.le (hp : PrI p) (h : RankIs p m n T r) (g : Gen p m n k T A) : r ≤ k := by
  obtain ⟨R, h1, h2, h3⟩ := h
  exact ind_le_gen hp h2 (g.sub h1)
theorem RankIs.ge (hp : PrI p) (h : RankIs p m n T r) {S : Nat → Nat} (hS : ∀ j, j < k → S j < m) (hi : Ind p k n (fun j => T (S j))) : k ≤ r := by
  obtain ⟨R, h1, h2, h3⟩ := h
  exact ind_le_gen hp hi (h3.sub hS)
theorem RankIs.uniq (hp : PrI p) (h : RankIs p m n T r) (h' : RankIs p m n T k) : r = k := by
  obtain ⟨R, h1, h2, h3⟩ := h
  have a := h'.ge hp h1 h2
  obtain ⟨R', h1', h2', h3'⟩ := h'
  have b := ind_le_gen hp h2' (h3.sub h1')
  omega
theorem Ind.congr {B : Mx} (h : Ind p r n A) (e : ∀ j x, j < r → x < n → p ∣ A j x - B j x) : Ind p r n B := fun c hc => h c fun x hx => by
  refine dvd_of_sub (b := sm r (fun j => c j * B j x)) ?_ (hc x hx)
  rw [← sm_sub]
  refine sm_dvd fun j hj => ?_
  rw [← Int.mul_sub]
  exact Int.dvd_mul_of_dvd_right (e j x hj hx)
theorem Gen.congr {T' A' : Mx} (h : Gen p m n r T A) (e : ∀ j x, j < m → x < n → p ∣ T j x - T' j x) (e' : ∀ j x, j < r → x < n → p ∣ A j x - A' j x) : Gen p m n r T' A' := fun i hi => by
  obtain ⟨d, c, h1, h2⟩ := h i hi
  refine ⟨d, c, h1, fun x hx => ?_⟩
  have a := h2 x hx
  have b := Int.dvd_mul_of_dvd_right (a := p) (b := d) (e i x hi hx)
  have c' : p ∣ sm r (fun j => c j * A j x) - sm r (fun j => c j * A' j x) := by
    rw [← sm_sub]
    refine sm_dvd fun j hj => ?_
    rw [← Int.mul_sub]
    exact Int.dvd_mul_of_dvd_right (e' j x hj hx)
  have := Int.dvd_add (Int.dvd_sub a b) c'
  rwa [show d * T i x - sm r (fun j => c j * A j x) - d * (T i x - T' i x) + (sm r (fun j => c j * A j x) - sm r (fun j => c j * A' j x)) = d * T' i x - sm r (fun j => c j * A' j x) by rw [Int.mul_sub]; omega] at this
theorem RankIs.congr {T' : Mx} (h : RankIs p m n T r) (e : ∀ j x, j < m → x < n → p ∣ T j x - T' j x) : RankIs p m n T' r := by
  obtain ⟨R, h1, h2, h3⟩ := h
  exact ⟨R, h1, h2.congr fun j x hj hx => e _ _ (h1 j hj) hx, h3.congr e fun j x hj hx => e _ _ (h1 j hj) hx⟩
theorem Ind.le (hp : PrI p) (h : Ind p r n A) : r ≤ n := ind_le_gen (A := fun j x => if j = x then 1 else 0) hp h fun i hi => ⟨1, fun j => A i j, hp.one, fun x hx => by
  rw [sm_one hx fun j hj hne => by show A i j * (if j = x then 1 else 0) = 0; rw [if_neg hne, Int.mul_zero]]
  show p ∣ 1 * A i x - A i x * (if x = x then 1 else 0)
  rw [if_pos rfl, Int.mul_one, Int.one_mul, Int.sub_self]
  exact Int.dvd_zero p⟩
theorem Ind.row (hp : PrI p) (h : Ind p r n A) {j : Nat} (hj : j < r) : ∃ x, x < n ∧ ¬ p ∣ A j x := by
  refine Classical.byContradiction fun hne => ?_
  have := h (fun i => if i = j then 1 else 0) (fun x hx => by
    rw [sm_one hj fun i hi hne => by rw [if_neg hne, Int.zero_mul], if_pos rfl, Int.one_mul]
    exact Classical.byContradiction fun z => hne ⟨x, hx, z⟩) j hj
  rw [if_pos rfl] at this
  exact hp.one this
/-- the square of the rows and some columns stands -/
theorem Ind.det (hp : PrI p) (h : Ind p r r A) : ¬ p ∣ det r A := fun hd => by
  obtain ⟨c, ⟨i, hi, hc⟩, h2⟩ := dep_of_det hp r A hd
  exact hc (h c h2 i hi)
/-! ### two tables put together -/
theorem div_mul_add {b i j : Nat} (hj : j < b) : (i * b + j) / b = i := by
  rw [Nat.add_comm, Nat.add_mul_div_right _ _ (by omega), Nat.div_eq_of_lt hj, Nat.zero_add]
theorem mod_mul_add {b i j : Nat} (hj : j < b) : (i * b + j) % b = j := by
  rw [Nat.add_comm, Nat.add_mul_mod_self_right, Nat.mod_eq_of_lt hj]
theorem lt_mul_add {a b i j : Nat} (hi : i < a) (hj : j < b) : i * b + j < a * b := by
  have : (i + 1) * b ≤ a * b := Nat.mul_le_mul_right b hi
  rw [Nat.add_mul, Nat.one_mul] at this
  omega
theorem div_lt' {a b u : Nat} (h : u < a * b) : u / b < a := Nat.div_lt_of_lt_mul (by rwa [Nat.mul_comm])
theorem mod_lt' {a b u : Nat} (h : u < a * b) : u % b < b := Nat.mod_lt _ (by
  rcases Nat.eq_zero_or_pos b with h0 | h0
  · subst h0; omega
  · exact h0)
theorem rank_times {m2 n2 r2 : Nat} {B : Mx} (hp : PrI p) (h1 : RankIs p m n A r) (h2 : RankIs p m2 n2 B r2) : RankIs p (m * m2) (n * n2) (fun u w => A (u / m2) (w / n2) * B (u % m2) (w % n2)) (r * r2) := by
  obtain ⟨R, a1, a2, a3⟩ := h1
  obtain ⟨S, b1, b2, b3⟩ := h2
  refine ⟨fun u => R (u / r2) * m2 + S (u % r2), fun u hu => lt_mul_add (a1 _ (div_lt' hu)) (b1 _ (mod_lt' hu)), fun c hc => ?_, fun u hu => ?_⟩
  · have hc2 : ∀ x, x < n → ∀ y, y < n2 → p ∣ sm r (fun i => sm r2 (fun j => c (i * r2 + j) * B (S j) y) * A (R i) x) := fun x hx y hy => by
      have := hc (x * n2 + y) (lt_mul_add hx hy)
      rw [sm_prod] at this
      rw [sm_congr (g := fun i => sm r2 (fun j => c (i * r2 + j) * B (S j) y) * A (R i) x) fun i hi => by
        rw [← sm_mulr]
        refine sm_congr fun j hj => ?_
        show c (i * r2 + j) * (A ((R ((i * r2 + j) / r2) * m2 + S ((i * r2 + j) % r2)) / m2) ((x * n2 + y) / n2) * B ((R ((i * r2 + j) / r2) * m2 + S ((i * r2 + j) % r2)) % m2) ((x * n2 + y) % n2)) = _
        rw [div_mul_add hj, mod_mul_add hj, div_mul_add (b1 j hj), mod_mul_add (b1 j hj), div_mul_add hy, mod_mul_add hy]
        grind] at this
      exact this
    have h3 : ∀ i, i < r → ∀ j, j < r2 → p ∣ c (i * r2 + j) := fun i hi => b2 (fun j => c (i * r2 + j)) fun y hy => a2 (fun i => sm r2 (fun j => c (i * r2 + j) * B (S j) y)) (fun x hx => hc2 x hx y hy) i hi
    intro u hu
    have := h3 (u / r2) (div_lt' hu) (u % r2) (mod_lt' hu)
    rwa [Nat.mul_comm, Nat.div_add_mod] at this
  · obtain ⟨d, c, q1, q2⟩ := a3 (u / m2) (div_lt' hu)
    obtain ⟨e, f, t1, t2⟩ := b3 (u % m2) (mod_lt' hu)
    refine ⟨d * e, fun k => c (k / r2) * f (k % r2), fun z => (hp.mul _ _ z).elim q1 t1, fun w hw => ?_⟩
    have s1 : sm (r * r2) (fun k => c (k / r2) * f (k % r2) * (A ((R (k / r2) * m2 + S (k % r2)) / m2) (w / n2) * B ((R (k / r2) * m2 + S (k % r2)) % m2) (w % n2))) = sm r (fun i => c i * A (R i) (w / n2)) * sm r2 (fun j => f j * B (S j) (w % n2)) := by
      rw [sm_prod, ← sm_mulr]
      refine sm_congr fun i hi => ?_
      rw [← sm_mul]
      refine sm_congr fun j hj => ?_
      rw [div_mul_add hj, mod_mul_add hj, div_mul_add (b1 j hj), mod_mul_add (b1 j hj)]
      grind
    simp only [s1]
    have x1 := Int.dvd_mul_of_dvd_left (a := p) (c := e * B (u % m2) (w % n2)) (q2 (w / n2) (div_lt' hw))
    have x2 := Int.dvd_mul_of_dvd_right (a := p) (b := sm r (fun i => c i * A (R i) (w / n2))) (t2 (w % n2) (mod_lt' hw))
    have := Int.dvd_add x1 x2
    generalize sm r (fun i => c i * A (R i) (w / n2)) = X at this ⊢
    generalize sm r2 (fun j => f j * B (S j) (w % n2)) = Y at this ⊢
    rwa [show (d * A (u / m2) (w / n2) - X) * (e * B (u % m2) (w % n2)) + X * (e * B (u % m2) (w % n2) - Y) = d * e * (A (u / m2) (w / n2) * B (u % m2) (w % n2)) - X * Y by grind] at this
theorem gen_both {m2 n2 r2 : Nat} {B : Mx} (hp : PrI p) (h1 : RankIs p m n A r) (h2 : RankIs p m2 n2 B r2) : ∃ G, Gen p (m * m2) (n * n2) (r + r2) (fun u w => 10 * A (u / m2) (w / n2) + B (u % m2) (w % n2)) G := by
  obtain ⟨R, a1, a2, a3⟩ := h1
  obtain ⟨S, b1, b2, b3⟩ := h2
  refine ⟨fun j w => if j < r then A (R j) (w / n2) else B (S (j - r)) (w % n2), fun u hu => ?_⟩
  obtain ⟨d, c, q1, q2⟩ := a3 (u / m2) (div_lt' hu)
  obtain ⟨e, f, t1, t2⟩ := b3 (u % m2) (mod_lt' hu)
  refine ⟨d * e, fun k => if k < r then 10 * e * c k else d * f (k - r), fun z => (hp.mul _ _ z).elim q1 t1, fun w hw => ?_⟩
  have s1 : sm (r + r2) (fun j => (if j < r then 10 * e * c j else d * f (j - r)) * (if j < r then A (R j) (w / n2) else B (S (j - r)) (w % n2))) = 10 * e * sm r (fun i => c i * A (R i) (w / n2)) + d * sm r2 (fun j => f j * B (S j) (w % n2)) := by
    rw [sm_split, ← sm_mul, ← sm_mul]
    congr 1
    · exact sm_congr fun i hi => by rw [if_pos hi, if_pos hi]; grind
    · exact sm_congr fun i hi => by rw [if_neg (by omega), if_neg (by omega), show r + i - r = i by omega]; grind
  simp only [s1]
  have x1 := Int.dvd_mul_of_dvd_right (a := p) (b := 10 * e) (q2 (w / n2) (div_lt' hw))
  have x2 := Int.dvd_mul_of_dvd_right (a := p) (b := d) (t2 (w % n2) (mod_lt' hw))
  have := Int.dvd_add x1 x2
  generalize sm r (fun i => c i * A (R i) (w / n2)) = X at this ⊢
  generalize sm r2 (fun j => f j * B (S j) (w % n2)) = Y at this ⊢
  rwa [show 10 * e * (d * A (u / m2) (w / n2) - X) + d * (e * B (u % m2) (w % n2) - Y) = d * e * (10 * A (u / m2) (w / n2) + B (u % m2) (w % n2)) - (10 * e * X + d * Y) by grind] at this
/-- every row is one of k rows -/
theorem gen_like (hp : PrI p) {D : Nat → Nat} (h : ∀ i, i < m → ∃ j, j < k ∧ ∀ x, x < n → T i x = T (D j) x) : Gen p m n k T (fun j => T (D j)) := fun i hi => by
  obtain ⟨j, hj, e⟩ := h i hi
  refine ⟨1, fun l => if l = j then 1 else 0, hp.one, fun x hx => ?_⟩
  rw [sm_one hj fun l hl hne => by show (if l = j then (1 : Int) else 0) * T (D l) x = 0; rw [if_neg hne, Int.zero_mul]]
  show p ∣ 1 * T i x - (if j = j then 1 else 0) * T (D j) x
  rw [if_pos rfl, Int.one_mul, Int.one_mul, e x hx, Int.sub_self]
  exact Int.dvd_zero p
/-- a sum of k pieces, each a row's share times a column's -/
theorem gen_pieces (hp : PrI p) {c : Nat → Nat → Int} {G : Mx} (h : ∀ i x, i < m → x < n → p ∣ T i x - sm k (fun j => c i j * G j x)) : Gen p m n k T G := fun i hi =>
  ⟨1, c i, hp.one, fun x hx => by rw [Int.one_mul]; exact h i x hi hx⟩
end
end Tf
end
section
/-! What led_down and ranked compute, and that it is a paper of the rank (core Lean alone). -/
namespace Tf
def gl (l : List Int) (i : Nat) : Int := l.getD i 0
section
variable {l l' : List Int} {i n : Nat} {f : Int → Int}
theorem gl_map (h : f 0 = 0) (i : Nat) : gl (l.map f) i = f (gl l i) := by
  unfold gl
  rw [List.getD_eq_getElem?_getD, List.getD_eq_getElem?_getD, List.getElem?_map]
  cases l[i]? with
  | none => exact h.symm
  | some x => rfl
theorem gl_some {x : Int} (h : l[i]? = some x) : gl l i = x := by unfold gl; rw [List.getD_eq_getElem?_getD, h]; rfl
theorem gl_get (h : i < l.length) : l[i]? = some (gl l i) := by
  rw [List.getElem?_eq_getElem h, gl_some (List.getElem?_eq_getElem h)]
theorem gl_out (h : l.length ≤ i) : gl l i = 0 := by
  unfold gl
  rw [List.getD_eq_getElem?_getD, List.getElem?_eq_none h]; rfl
theorem gl_zip {g : Int × Int → Int} (h : i < l.length) (h' : i < l'.length) : gl ((l.zip l').map g) i = g (gl l i, gl l' i) := by
  refine gl_some ?_
  rw [List.getElem?_map, (List.getElem?_zip_eq_some (z := (gl l i, gl l' i))).mpr ⟨gl_get h, gl_get h'⟩]
  rfl
theorem gl_left (h : i < l.length) : gl (l ++ l') i = gl l i := by
  refine gl_some ?_
  rw [List.getElem?_append_left h]
  exact gl_get h
theorem gl_right (i : Nat) : gl (l ++ l') (l.length + i) = gl l' i := by
  unfold gl
  rw [List.getD_eq_getElem?_getD, List.getD_eq_getElem?_getD, List.getElem?_append_right (by omega), show l.length + i - l.length = i by omega]
theorem gl_zeros (n i : Nat) : gl (List.replicate n 0) i = 0 := by
  by_cases h : i < n
  · refine gl_some ?_
    rw [List.getElem?_replicate, if_pos h]
  · exact gl_out (by rw [List.length_replicate]; omega)
theorem gl_pad (n i : Nat) : gl (l ++ List.replicate n 0) i = gl l i := by
  by_cases h : i < l.length
  · exact gl_left h
  · obtain ⟨k, rfl⟩ := Nat.exists_eq_add_of_le (Nat.le_of_not_lt h)
    rw [gl_right, gl_zeros, gl_out (by omega)]
theorem gl_mem {x : Int} (h : x ∈ l) : ∃ i, i < l.length ∧ gl l i = x := by
  obtain ⟨i, hi, e⟩ := List.getElem_of_mem h
  exact ⟨i, hi, gl_some (by rw [List.getElem?_eq_getElem hi, e])⟩
end
/-! ### lessened -/
def gcdF (s : Int) (c : List Int) : Int := c.foldl (fun a x => (Int.gcd a x : Int)) s
def gcdL (s : Int) (c : List Int) : Int := ((gcdF s c).natAbs : Int)
theorem gcdF_dvd : ∀ (c : List Int) (s : Int), gcdF s c ∣ s ∧ ∀ x ∈ c, gcdF s c ∣ x
  | [], s => ⟨Int.dvd_refl s, fun _ h => nomatch h⟩
  | x :: c, s => by
    obtain ⟨h1, h2⟩ := gcdF_dvd c (Int.gcd s x : Int)
    have e : gcdF s (x :: c) = gcdF (Int.gcd s x : Int) c := rfl
    rw [e]
    refine ⟨Int.dvd_trans h1 (Int.gcd_dvd_left ..), fun y hy => ?_⟩
    rcases List.mem_cons.mp hy with rfl | hy
    · exact Int.dvd_trans h1 (Int.gcd_dvd_right ..)
    · exact h2 y hy
theorem gcdL_dvd (s : Int) (c : List Int) : gcdL s c ∣ s ∧ ∀ i, gcdL s c ∣ gl c i := by
  obtain ⟨h1, h2⟩ := gcdF_dvd c s
  refine ⟨Int.natAbs_dvd.mpr h1, fun i => ?_⟩
  by_cases h : i < c.length
  · exact Int.natAbs_dvd.mpr (h2 _ (List.mem_of_getElem? (gl_get h)))
  · rw [gl_out (by omega)]; exact Int.dvd_zero _
theorem gcdL_pos {s : Int} {c : List Int} (h : s ≠ 0) : 0 < gcdL s c := by
  have := (gcdL_dvd s c).1
  have h0 : gcdL s c ≠ 0 := fun z => by rw [z] at this; exact h (Int.zero_dvd.mp this)
  have : 0 ≤ gcdL s c := Int.natCast_nonneg _
  omega
theorem gcdL_le {s : Int} {c : List Int} (h : s ≠ 0) : (gcdL s c).natAbs ≤ s.natAbs := Nat.le_of_dvd (Int.natAbs_pos.mpr h) (Int.natAbs_dvd_natAbs.mpr (gcdL_dvd s c).1)
abbrev LS := Int × List Int × List Int
def lessF (p s : Int) (c l : List Int) : LS := if 0 < p then (s % p, c.map (· % p), l.map (· % p)) else (s / gcdL s c, c.map (· / gcdL s c), l.map (· / gcdL s c))
/-- a number as it stands behind lessened -/
def Sz (p : Int) (e : Nat) (x : Int) : Prop := (0 < p → 0 ≤ x ∧ x < p) ∧ (p = 0 → x.natAbs < 2 ^ e)
/-- .. or what is against it -/
def Sw (p : Int) (e : Nat) (x : Int) : Prop := (0 < p → -p < x ∧ x < p) ∧ (p = 0 → x.natAbs < 2 ^ e)
theorem Sz.w {p x : Int} {e : Nat} (h : Sz p e x) : Sw p e x := ⟨fun hp => by have := h.1 hp; omega, h.2⟩
theorem Sz.mono {p x : Int} {e e' : Nat} (h : Sz p e x) (he : e ≤ e') : Sz p e' x := ⟨h.1, fun hp => Nat.lt_of_lt_of_le (h.2 hp) (Nat.pow_le_pow_right (by omega) he)⟩
theorem Sw.mono {p x : Int} {e e' : Nat} (h : Sw p e x) (he : e ≤ e') : Sw p e' x := ⟨h.1, fun hp => Nat.lt_of_lt_of_le (h.2 hp) (Nat.pow_le_pow_right (by omega) he)⟩
theorem Sz.zero (p : Int) (e : Nat) : Sz p e 0 := ⟨fun hp => ⟨by omega, hp⟩, fun _ => Nat.two_pow_pos e⟩
theorem Sz.iff {p x : Int} {e : Nat} (h0 : 0 ≤ p) (h : Sz p e x) : p ∣ x ↔ x = 0 := by
  constructor
  · intro hd
    by_cases hp : 0 < p
    · obtain ⟨h1, h2⟩ := h.1 hp
      have := Int.emod_eq_zero_of_dvd hd
      rwa [Int.emod_eq_of_lt h1 h2] at this
    · have : p = 0 := by omega
      subst this
      exact Int.zero_dvd.mp hd
  · rintro rfl
    exact Int.dvd_zero p
theorem Sw.wide {p x : Int} {e : Nat} (h0 : 0 ≤ p) (h97 : p ≤ 97) (he : 7 ≤ e) (h : Sw p e x) : x.natAbs < 2 ^ e := by
  by_cases hp : 0 < p
  · have := h.1 hp
    have : (2 : Nat) ^ 7 ≤ 2 ^ e := Nat.pow_le_pow_right (by omega) he
    have : (2 : Nat) ^ 7 = 128 := by decide
    omega
  · exact h.2 (by omega)
structure LedI (p : Int) (n m : Nat) (A : Mx) (a : Nat → Int) (e : Nat) (st : LS) : Prop where
  sc : ¬ p ∣ st.1
  cl : st.2.1.length = m
  ll : st.2.2.length = n
  rel : ∀ x, x < n → p ∣ st.1 * a x - sm m (fun j => gl st.2.1 j * A j x) - gl st.2.2 x
  sz1 : Sz p e st.1
  sz2 : ∀ j, Sz p e (gl st.2.1 j)
  sz3 : ∀ x, Sz p e (gl st.2.2 x)
theorem LedI.mono {p : Int} {n m : Nat} {A : Mx} {a : Nat → Int} {e e' : Nat} {st : LS} (h : LedI p n m A a e st) (he : e ≤ e') : LedI p n m A a e' st :=
  ⟨h.sc, h.cl, h.ll, h.rel, h.sz1.mono he, fun j => (h.sz2 j).mono he, fun x => (h.sz3 x).mono he⟩
theorem dvd_sub_mod (p x : Int) : p ∣ x - x % p := by
  rw [Int.emod_def, show x - (x - p * (x / p)) = p * (x / p) by omega]
  exact Int.dvd_mul_right p _
theorem ediv_zero_iff {s d : Int} (h : d ∣ s) (hd : d ≠ 0) : s / d = 0 ↔ s = 0 := by
  obtain ⟨q, rfl⟩ := h
  rw [Int.mul_ediv_cancel_left _ hd]
  constructor
  · rintro rfl; exact Int.mul_zero d
  · intro z; exact (Int.mul_eq_zero.mp z).resolve_left hd
theorem natAbs_div_lt {x d : Int} {B : Nat} (h : x.natAbs < B) (hd : d ∣ x) : (x / d).natAbs < B := by
  obtain ⟨q, rfl⟩ := hd
  by_cases h0 : d = 0
  · subst h0
    rw [Int.zero_mul, Int.zero_ediv]
    simpa using h
  · rw [Int.mul_ediv_cancel_left _ h0]
    rw [Int.natAbs_mul] at h
    have : 1 ≤ d.natAbs := Int.natAbs_pos.mpr h0
    have := Nat.mul_le_mul_right q.natAbs this
    omega
theorem less_ok {p : Int} {n m : Nat} {A : Mx} {a : Nat → Int} {e : Nat} {s : Int} {c l : List Int} (h0 : 0 ≤ p) (hs : ¬ p ∣ s) (hc : c.length = m) (hl : l.length = n)
    (hr : ∀ x, x < n → p ∣ s * a x - sm m (fun j => gl c j * A j x) - gl l x) (hz : p = 0 → s.natAbs < 2 ^ e ∧ (∀ j, (gl c j).natAbs < 2 ^ e) ∧ ∀ x, (gl l x).natAbs < 2 ^ e) :
    LedI p n m A a e (lessF p s c l) ∧ ∀ x, gl l x = 0 → gl (lessF p s c l).2.2 x = 0 := by
  unfold lessF
  by_cases hp : 0 < p
  · rw [if_pos hp]
    have gm : ∀ (y : List Int) (i : Nat), gl (y.map (· % p)) i = gl y i % p := fun y i => gl_map (f := (· % p)) (Int.zero_emod p) i
    have sz : ∀ x : Int, Sz p e (x % p) := fun x => ⟨fun _ => ⟨Int.emod_nonneg _ (by omega), Int.emod_lt_of_pos _ hp⟩, fun z => by omega⟩
    refine ⟨⟨fun hd => hs (dvd_of_sub (dvd_sub_mod p s) hd), by rw [List.length_map, hc], by rw [List.length_map, hl], fun x hx => ?_, sz _, fun j => by rw [gm]; exact sz _, fun j => by rw [gm]; exact sz _⟩, fun x hx => by rw [gm, hx]; exact Int.zero_emod p⟩
    show p ∣ s % p * a x - sm m (fun j => gl (c.map (· % p)) j * A j x) - gl (l.map (· % p)) x
    rw [gm, sm_congr (g := fun j => gl c j % p * A j x) fun j _ => by rw [gm]]
    have d1 : p ∣ (s - s % p) * a x := Int.dvd_mul_of_dvd_left (dvd_sub_mod p s)
    have d2 : p ∣ sm m (fun j => gl c j * A j x) - sm m (fun j => gl c j % p * A j x) := by
      rw [← sm_sub]
      refine sm_dvd fun j _ => ?_
      rw [← Int.sub_mul]
      exact Int.dvd_mul_of_dvd_left (dvd_sub_mod p _)
    have d3 := dvd_sub_mod p (gl l x)
    have := Int.dvd_add (Int.dvd_sub (hr x hx) d1) (Int.dvd_add d2 d3)
    rw [Int.sub_mul] at this
    generalize sm m (fun j => gl c j * A j x) = X at this ⊢
    generalize sm m (fun j => gl c j % p * A j x) = Y at this ⊢
    rwa [show s * a x - X - gl l x - (s * a x - s % p * a x) + (X - Y + (gl l x - gl l x % p)) = s % p * a x - Y - gl l x % p by omega] at this
  · have : p = 0 := by omega
    subst this
    rw [if_neg hp]
    obtain ⟨z1, z2, z3⟩ := hz rfl
    have hs0 : s ≠ 0 := fun z => hs (by rw [z]; exact Int.dvd_zero 0)
    have hd := gcdL_pos (c := c) hs0
    obtain ⟨q1, q2⟩ := gcdL_dvd s c
    have gm : ∀ (y : List Int) (i : Nat), gl (y.map (· / gcdL s c)) i = gl y i / gcdL s c := fun y i => gl_map (f := (· / gcdL s c)) (Int.zero_ediv _) i
    have hr' : ∀ x, x < n → gl l x = s * a x - sm m (fun j => gl c j * A j x) := fun x hx => by
      have := Int.zero_dvd.mp (hr x hx)
      omega
    have q3 : ∀ x, gcdL s c ∣ gl l x := fun x => by
      by_cases hx : x < n
      · rw [hr' x hx]
        exact Int.dvd_sub (Int.dvd_mul_of_dvd_left q1) (sm_dvd fun j _ => Int.dvd_mul_of_dvd_left (q2 j))
      · rw [gl_out (by omega)]; exact Int.dvd_zero _
    have hd0 : gcdL s c ≠ 0 := by omega
    refine ⟨⟨fun hz => hs ?_, by rw [List.length_map, hc], by rw [List.length_map, hl], fun x hx => ?_, ⟨fun z => by omega, fun _ => natAbs_div_lt z1 q1⟩, fun j => by rw [gm]; exact ⟨fun z => by omega, fun _ => natAbs_div_lt (z2 j) (q2 j)⟩, fun j => by rw [gm]; exact ⟨fun z => by omega, fun _ => natAbs_div_lt (z3 j) (q3 j)⟩⟩, fun x hx => by rw [gm, hx]; exact Int.zero_ediv _⟩
    · have := Int.zero_dvd.mp hz
      rw [ediv_zero_iff q1 hd0] at this
      exact absurd this hs0
    · show (0 : Int) ∣ s / gcdL s c * a x - sm m (fun j => gl (c.map (· / gcdL s c)) j * A j x) - gl (l.map (· / gcdL s c)) x
      rw [gm, sm_congr (g := fun j => gl c j / gcdL s c * A j x) fun j _ => by rw [gm], hr' x hx]
      refine Int.zero_dvd.mpr ?_
      have e1 : s * a x - sm m (fun j => gl c j * A j x) = gcdL s c * (s / gcdL s c * a x - sm m (fun j => gl c j / gcdL s c * A j x)) := by
        rw [Int.mul_sub, ← sm_mul, ← Int.mul_assoc, Int.mul_ediv_cancel' q1]
        congr 1
        exact sm_congr fun j _ => by rw [← Int.mul_assoc, Int.mul_ediv_cancel' (q2 j)]
      rw [e1, Int.mul_ediv_cancel_left _ hd0, Int.sub_self]

/-! ### led_down -/
abbrev Kn := List Int × List Int × Nat
def stepF (p : Int) (st : LS) (k : Kn) : LS :=
  if gl st.2.2 k.2.2 = 0 then st else
    lessF p (gl k.2.1 k.2.2 * st.1) ((st.2.1.zip (k.1 ++ List.replicate st.2.1.length 0)).map fun x => gl k.2.1 k.2.2 * x.1 + gl st.2.2 k.2.2 * x.2)
      ((st.2.2.zip k.2.1).map fun x => gl k.2.1 k.2.2 * x.1 - gl st.2.2 k.2.2 * x.2)
def led0 (p : Int) (row : List Int) (m : Nat) : LS := lessF p 1 (List.replicate m 0) row
def ledF (p : Int) (row : List Int) (K : List Kn) : LS := K.foldl (stepF p) (led0 p row K.length)
structure KnOk (p : Int) (n : Nat) (A : Mx) (e j : Nat) (k : Kn) : Prop where
  wl : k.1.length = j + 1
  vl : k.2.1.length = n
  sn : k.2.2 < n
  nz : ¬ p ∣ gl k.2.1 k.2.2
  top : ¬ p ∣ gl k.1 j
  rel : ∀ x, x < n → p ∣ sm (j + 1) (fun i => gl k.1 i * A i x) - gl k.2.1 x
  szw : ∀ i, Sw p e (gl k.1 i)
  szv : ∀ x, Sz p e (gl k.2.1 x)
theorem lt_two {f g a b : Int} {e : Nat} (hf : f.natAbs < 2 ^ e) (hg : g.natAbs < 2 ^ e) (ha : a.natAbs < 2 ^ e) (hb : b.natAbs < 2 ^ e) {s : Int} (hs : s = f * a + g * b ∨ s = f * a - g * b) : s.natAbs < 2 ^ (2 * e + 1) := by
  have h1 : (f * a).natAbs ≤ (2 ^ e - 1) * (2 ^ e - 1) := by rw [Int.natAbs_mul]; exact Nat.mul_le_mul (by omega) (by omega)
  have h2 : (g * b).natAbs ≤ (2 ^ e - 1) * (2 ^ e - 1) := by rw [Int.natAbs_mul]; exact Nat.mul_le_mul (by omega) (by omega)
  have h3 : s.natAbs ≤ (f * a).natAbs + (g * b).natAbs := by rcases hs with rfl | rfl <;> omega
  have h4 : (2 ^ e - 1) * (2 ^ e - 1) < 2 ^ e * 2 ^ e := Nat.mul_lt_mul'' (by have := Nat.two_pow_pos e; omega) (by have := Nat.two_pow_pos e; omega)
  rw [Nat.pow_succ, Nat.two_mul, Nat.pow_add]
  omega
theorem lt_one {f a : Int} {e : Nat} (hf : f.natAbs < 2 ^ e) (ha : a.natAbs < 2 ^ e) : (f * a).natAbs < 2 ^ (2 * e + 1) := lt_two (g := 0) (b := 0) hf (Nat.two_pow_pos e) ha (Nat.two_pow_pos e) (.inl (by omega))
section
variable {p : Int} {n m : Nat} {A : Mx} {a : Nat → Int}
theorem step_ok {e j : Nat} {st : LS} {k : Kn} (hp : PrI p) (h0 : 0 ≤ p) (hj : j < m) (L : LedI p n m A a e st) (G : KnOk p n A e j k) :
    LedI p n m A a (2 * e + 1) (stepF p st k) ∧ gl (stepF p st k).2.2 k.2.2 = 0 ∧ ∀ x, gl st.2.2 x = 0 → gl k.2.1 x = 0 → gl (stepF p st k).2.2 x = 0 := by
  unfold stepF
  by_cases hg : gl st.2.2 k.2.2 = 0
  · rw [if_pos hg]
    exact ⟨L.mono (by omega), hg, fun x h _ => h⟩
  · rw [if_neg hg]
    have gc : ∀ i, i < m → gl ((st.2.1.zip (k.1 ++ List.replicate st.2.1.length 0)).map fun x => gl k.2.1 k.2.2 * x.1 + gl st.2.2 k.2.2 * x.2) i = gl k.2.1 k.2.2 * gl st.2.1 i + gl st.2.2 k.2.2 * gl k.1 i := fun i hi => by
      rw [gl_zip (by rw [L.cl]; exact hi) (by rw [List.length_append, List.length_replicate, L.cl]; omega), gl_pad]
    have gv : ∀ x, x < n → gl ((st.2.2.zip k.2.1).map fun x => gl k.2.1 k.2.2 * x.1 - gl st.2.2 k.2.2 * x.2) x = gl k.2.1 k.2.2 * gl st.2.2 x - gl st.2.2 k.2.2 * gl k.2.1 x := fun x hx => by
      rw [gl_zip (by rw [L.ll]; exact hx) (by rw [G.vl]; exact hx)]
    have lc : ((st.2.1.zip (k.1 ++ List.replicate st.2.1.length 0)).map fun x => gl k.2.1 k.2.2 * x.1 + gl st.2.2 k.2.2 * x.2).length = m := by
      rw [List.length_map, List.length_zip, List.length_append, List.length_replicate, L.cl]; omega
    have lv : ((st.2.2.zip k.2.1).map fun x => gl k.2.1 k.2.2 * x.1 - gl st.2.2 k.2.2 * x.2).length = n := by
      rw [List.length_map, List.length_zip, L.ll, G.vl]; omega
    obtain ⟨q1, q2⟩ := less_ok (p := p) (n := n) (m := m) (A := A) (a := a) (e := 2 * e + 1) (s := gl k.2.1 k.2.2 * st.1)
      (c := (st.2.1.zip (k.1 ++ List.replicate st.2.1.length 0)).map fun x => gl k.2.1 k.2.2 * x.1 + gl st.2.2 k.2.2 * x.2)
      (l := (st.2.2.zip k.2.1).map fun x => gl k.2.1 k.2.2 * x.1 - gl st.2.2 k.2.2 * x.2) h0 (fun z => (hp.mul _ _ z).elim G.nz L.sc) lc lv (fun x hx => by
        rw [gv x hx, sm_congr (g := fun i => gl k.2.1 k.2.2 * (gl st.2.1 i * A i x) + gl st.2.2 k.2.2 * (gl k.1 i * A i x)) fun i hi => by rw [gc i hi]; grind, sm_add, sm_mul, sm_mul,
          sm_pad (f := fun i => gl k.1 i * A i x) (n := j + 1) (m := m) (by omega) (fun i h1 h2 => by rw [gl_out (by rw [G.wl]; exact h1), Int.zero_mul])]
        have d1 := Int.dvd_mul_of_dvd_right (a := p) (b := gl k.2.1 k.2.2) (L.rel x hx)
        have d2 := Int.dvd_mul_of_dvd_right (a := p) (b := gl st.2.2 k.2.2) (G.rel x hx)
        have := Int.dvd_sub d1 d2
        generalize sm m (fun i => gl st.2.1 i * A i x) = X at this ⊢
        generalize sm (j + 1) (fun i => gl k.1 i * A i x) = Y at this ⊢
        generalize gl k.2.1 k.2.2 = f at this ⊢
        generalize gl st.2.2 k.2.2 = g at this ⊢
        rwa [show f * (st.1 * a x - X - gl st.2.2 x) - g * (Y - gl k.2.1 x) = f * st.1 * a x - (f * X + g * Y) - (f * gl st.2.2 x - g * gl k.2.1 x) by grind] at this)
      (fun hz => by
        have f1 := (G.szv k.2.2).2 hz
        have g1 := (L.sz3 k.2.2).2 hz
        refine ⟨lt_one f1 (L.sz1.2 hz), fun i => ?_, fun x => ?_⟩
        · by_cases hi : i < m
          · exact lt_two f1 g1 ((L.sz2 i).2 hz) ((G.szw i).2 hz) (.inl (gc i hi))
          · rw [gl_out (by rw [lc]; omega)]; exact Nat.two_pow_pos _
        · by_cases hx : x < n
          · exact lt_two f1 g1 ((L.sz3 x).2 hz) ((G.szv x).2 hz) (.inr (gv x hx))
          · rw [gl_out (by rw [lv]; omega)]; exact Nat.two_pow_pos _)
    refine ⟨q1, q2 _ ?_, fun x h1 h2 => q2 _ ?_⟩
    · rw [gv _ G.sn]; grind
    · by_cases hx : x < n
      · rw [gv x hx, h1, h2]; omega
      · exact gl_out (by rw [lv]; omega)
def ex (i : Nat) : Nat := 8 * 2 ^ i - 1
theorem ex_succ (i : Nat) : ex (i + 1) = 2 * ex i + 1 := by
  unfold ex
  have := Nat.two_pow_pos i
  rw [Nat.pow_succ]; omega
theorem ex_le {i j : Nat} (h : i ≤ j) : ex i ≤ ex j := by
  unfold ex
  have : (2 : Nat) ^ i ≤ 2 ^ j := Nat.pow_le_pow_right (by omega) h
  omega
/-- the rows that stand, with the places where they were found -/
structure KnAll (p : Int) (n : Nat) (A : Mx) (K : List Kn) : Prop where
  ok : ∀ (j : Nat) (k : Kn), K[j]? = some k → KnOk p n A (ex j) j k
  zr : ∀ (j : Nat) (k : Kn) (i : Nat) (k' : Kn), K[j]? = some k → i < j → K[i]? = some k' → gl k.2.1 k'.2.2 = 0
theorem led0_ok {row : List Int} (hp : PrI p) (h0 : 0 ≤ p) (hl : row.length = n) (ha : ∀ x, x < n → a x = gl row x) (hs : ∀ x, (gl row x).natAbs < 2 ^ 7) : LedI p n m A a (ex 0) (led0 p row m) := by
  have hz : ∀ j, gl (List.replicate m (0 : Int)) j = 0 := gl_zeros m
  refine (less_ok h0 hp.one (by rw [List.length_replicate]) hl (fun x hx => ?_) fun _ => ⟨by decide, fun j => by rw [hz]; exact Nat.two_pow_pos _, hs⟩).1
  rw [sm_zero fun j _ => by rw [hz, Int.zero_mul], ha x hx, Int.one_mul, Int.sub_zero, Int.sub_self]
  exact Int.dvd_zero p
theorem led_ok {K : List Kn} (hp : PrI p) (h0 : 0 ≤ p) (G : KnAll p n A K) {st : LS} (L : LedI p n K.length A a (ex 0) st) : ∀ i, i ≤ K.length → LedI p n K.length A a (ex i) ((K.take i).foldl (stepF p) st) ∧ ∀ (j : Nat) (k : Kn), j < i → K[j]? = some k → gl ((K.take i).foldl (stepF p) st).2.2 k.2.2 = 0
  | 0, _ => ⟨L, fun j k h => absurd h (Nat.not_lt_zero j)⟩
  | i + 1, hi => by
    obtain ⟨h1, h2⟩ := led_ok hp h0 G L i (by omega)
    have e : K[i]? = some K[i] := List.getElem?_eq_getElem hi
    have s := step_ok hp h0 (st := (K.take i).foldl (stepF p) st) hi h1 (G.ok i _ e)
    have ht : K.take (i + 1) = K.take i ++ [K[i]] := by rw [List.take_add_one, e]; rfl
    rw [ht, List.foldl_append, List.foldl_cons, List.foldl_nil, ex_succ]
    refine ⟨s.1, fun j k hj hk => ?_⟩
    by_cases hji : j = i
    · subst hji
      rw [e] at hk
      cases hk
      exact s.2.1
    · exact s.2.2 _ (h2 j k (by omega) hk) (G.zr i _ j k e (by omega) hk)
theorem ledF_ok {K : List Kn} {row : List Int} (hp : PrI p) (h0 : 0 ≤ p) (G : KnAll p n A K) (hl : row.length = n) (ha : ∀ x, x < n → a x = gl row x) (hs : ∀ x, (gl row x).natAbs < 2 ^ 7) : LedI p n K.length A a (ex K.length) (ledF p row K) ∧ ∀ (j : Nat) (k : Kn), K[j]? = some k → gl (ledF p row K).2.2 k.2.2 = 0 := by
  have := led_ok hp h0 G (led0_ok (m := K.length) (A := A) hp h0 hl ha hs) K.length (Nat.le_refl _)
  rw [List.take_length] at this
  refine ⟨this.1, fun j k hk => this.2 j k ?_ hk⟩
  exact (List.getElem?_eq_some_iff.mp hk).1
end
end Tf
end
section
/-! What ranked computes (core Lean alone). -/
namespace Tf
def gn (l : List Nat) (i : Nat) : Nat := l.getD i 0
theorem gn_some {l : List Nat} {i x : Nat} (h : l[i]? = some x) : gn l i = x := by unfold gn; rw [List.getD_eq_getElem?_getD, h]; rfl
theorem gn_get {l : List Nat} {i : Nat} (h : i < l.length) : l[i]? = some (gn l i) := by
  rw [List.getElem?_eq_getElem h, gn_some (List.getElem?_eq_getElem h)]
theorem gn_left {l l' : List Nat} {i : Nat} (h : i < l.length) : gn (l ++ l') i = gn l i := gn_some (by rw [List.getElem?_append_left h]; exact gn_get h)
theorem gn_end (l : List Nat) (x : Nat) : gn (l ++ [x]) l.length = x := gn_some (by simp)
def gt (t : List (List Int)) : Mx := fun i x => gl (t.getD i []) x
theorem gt_some {t : List (List Int)} {i x : Nat} {r : List Int} (h : t[i]? = some r) : gt t i x = gl r x := by unfold gt; rw [List.getD_eq_getElem?_getD, h]; rfl
structure RS where
  rows : List Nat
  cols : List Nat
  known : List Kn
  found : List (Int × List Int)
def spotsF (l : List Int) : List Nat := (l.zipIdx.filter fun x => !decide (x.1 = 0)).map (·.2)
def rstep (p : Int) (st : RS) (x : List Int × Nat) : RS :=
  match spotsF (ledF p x.1 st.known).2.2 with
  | [] => { st with found := st.found ++ [((ledF p x.1 st.known).1, (ledF p x.1 st.known).2.1)] }
  | s :: _ => ⟨st.rows ++ [x.2], st.cols ++ [s], st.known ++ [((ledF p x.1 st.known).2.1.map (fun o => 0 - o) ++ [(ledF p x.1 st.known).1], (ledF p x.1 st.known).2.2, s)], st.found ++ [(1, List.replicate st.known.length 0 ++ [1])]⟩
def rs0 : RS := ⟨[], [], [], []⟩
def rankedF (p : Int) (t : List (List Int)) : RS := t.zipIdx.foldl (rstep p) rs0
theorem spots_nil {l : List Int} (h : spotsF l = []) (x : Nat) : gl l x = 0 := by
  by_cases hx : x < l.length
  · refine Classical.byContradiction fun hne => ?_
    have : x ∈ spotsF l := List.mem_map.mpr ⟨(gl l x, x), List.mem_filter.mpr ⟨by
      rw [List.mem_iff_getElem?]
      exact ⟨x, by rw [List.getElem?_zipIdx, gl_get hx]; simp⟩, by simp [hne]⟩, rfl⟩
    rw [h] at this
    nomatch this
  · exact gl_out (by omega)
theorem spots_cons {l : List Int} {s : Nat} {r : List Nat} (h : spotsF l = s :: r) : s < l.length ∧ gl l s ≠ 0 := by
  have : s ∈ spotsF l := by rw [h]; exact List.mem_cons_self
  obtain ⟨⟨y, k⟩, h1, h2⟩ := List.mem_map.mp this
  obtain ⟨h3, h4⟩ := List.mem_filter.mp h1
  cases h2
  obtain ⟨i, hi⟩ := List.mem_iff_getElem?.mp h3
  rw [List.getElem?_zipIdx] at hi
  cases hl : l[i]? with
  | none => rw [hl] at hi; cases hi
  | some z =>
    rw [hl] at hi
    simp at hi
    obtain ⟨rfl, rfl⟩ := hi
    refine ⟨(List.getElem?_eq_some_iff.mp hl).1, ?_⟩
    rw [gl_some hl]
    simpa using h4
structure RInv (p : Int) (n : Nat) (T : Mx) (i : Nat) (st : RS) : Prop where
  lc : st.cols.length = st.rows.length
  lk : st.known.length = st.rows.length
  lf : st.found.length = i
  asc : ∀ a b, a < b → b < st.rows.length → gn st.rows a < gn st.rows b
  low : ∀ a, a < st.rows.length → gn st.rows a < i
  kn : KnAll p n (fun l x => T (gn st.rows l) x) st.known
  sp : ∀ (j : Nat) (k : Kn), st.known[j]? = some k → gn st.cols j = k.2.2
  fnd : ∀ (i' : Nat) (f : Int × List Int), st.found[i']? = some f → ¬ p ∣ f.1 ∧ f.2.length ≤ st.rows.length ∧ (∀ x, x < n → p ∣ f.1 * T i' x - sm st.rows.length (fun j => gl f.2 j * T (gn st.rows j) x)) ∧ Sw p (ex i) f.1 ∧ ∀ j, Sw p (ex i) (gl f.2 j)
  own : ∀ j, j < st.rows.length → st.found[gn st.rows j]? = some (1, List.replicate j 0 ++ [1])
theorem gl_unit (m j : Nat) : gl (List.replicate m 0 ++ [1]) j = if j = m then 1 else 0 := by
  by_cases h : j = m
  · subst h
    rw [if_pos rfl]
    exact gl_some (by rw [List.getElem?_append_right (by rw [List.length_replicate]; omega), List.length_replicate, Nat.sub_self]; rfl)
  · rw [if_neg h]
    by_cases h2 : j < m
    · rw [gl_left (by rw [List.length_replicate]; exact h2), gl_zeros]
    · exact gl_out (by rw [List.length_append, List.length_replicate, List.length_singleton]; omega)
theorem KnOk.congr {p : Int} {n e j : Nat} {A B : Mx} {k : Kn} (h : KnOk p n A e j k) (q : ∀ i x, i ≤ j → A i x = B i x) : KnOk p n B e j k :=
  ⟨h.wl, h.vl, h.sn, h.nz, h.top, fun x hx => by rw [sm_congr (g := fun i => gl k.1 i * A i x) fun i hi => by rw [q i x (by omega)]]; exact h.rel x hx, h.szw, h.szv⟩
theorem getE_snoc {α : Type} {l : List α} {y z : α} {j : Nat} (h : (l ++ [y])[j]? = some z) : (j < l.length ∧ l[j]? = some z) ∨ (j = l.length ∧ z = y) := by
  by_cases hj : j < l.length
  · rw [List.getElem?_append_left hj] at h
    exact .inl ⟨hj, h⟩
  · rw [List.getElem?_append_right (by omega)] at h
    by_cases e : j = l.length
    · subst e
      rw [Nat.sub_self] at h
      exact .inr ⟨rfl, (Option.some.inj h).symm⟩
    · rw [List.getElem?_eq_none (by rw [List.length_singleton]; omega)] at h
      cases h
section
variable {p : Int} {n : Nat} {T : Mx}
theorem ex_pos (i : Nat) : 7 ≤ ex i := by
  have := ex_le (Nat.zero_le i)
  have e : ex 0 = 7 := rfl
  omega
theorem Sw.one {e : Nat} (hp : PrI p) (h0 : 0 ≤ p) (he : 1 ≤ e) : Sw p e 1 := ⟨fun h => by
  have : p ≠ 1 := fun z => hp.one (z ▸ Int.dvd_refl 1)
  omega, fun _ => by
  have : (2 : Nat) ^ 1 ≤ 2 ^ e := Nat.pow_le_pow_right (by omega) he
  have e1 : (1 : Int).natAbs = 1 := rfl
  omega⟩
theorem rstep_ok {i : Nat} {st : RS} {row : List Int} (hp : PrI p) (h0 : 0 ≤ p) (I : RInv p n T i st) (hl : row.length = n) (ha : ∀ x, x < n → T i x = gl row x) (hs : ∀ x, (gl row x).natAbs < 2 ^ 7) : RInv p n T (i + 1) (rstep p st (row, i)) := by
  obtain ⟨L, Z⟩ := ledF_ok hp h0 I.kn hl ha hs
  rw [I.lk] at L
  have le1 : st.rows.length ≤ i := by
    by_cases h : st.rows.length = 0
    · omega
    · have key : ∀ b, b < st.rows.length → b ≤ gn st.rows b := fun b => by
        induction b with
        | zero => intro _; omega
        | succ b ih => intro hb; have := I.asc b (b + 1) (by omega) hb; have := ih (by omega); omega
      have := key (st.rows.length - 1) (by omega)
      have := I.low (st.rows.length - 1) (by omega)
      omega
  have ex1 : ex st.rows.length ≤ ex (i + 1) := ex_le (by omega)
  have ex2 : ex i ≤ ex (i + 1) := ex_le (by omega)
  unfold rstep
  generalize hR : ledF p row st.known = R at L Z ⊢
  show RInv p n T (i + 1) (match spotsF R.2.2 with
    | [] => { st with found := st.found ++ [(R.1, R.2.1)] }
    | s :: _ => ⟨st.rows ++ [i], st.cols ++ [s], st.known ++ [(R.2.1.map (fun o => 0 - o) ++ [R.1], R.2.2, s)], st.found ++ [(1, List.replicate st.known.length 0 ++ [1])]⟩)
  split
  · next hsp =>
    refine ⟨I.lc, I.lk, by rw [List.length_append, I.lf]; rfl, I.asc, fun a h => Nat.lt_succ_of_lt (I.low a h), I.kn, I.sp, fun i' f hf => ?_, fun j hj => ?_⟩
    · rcases getE_snoc hf with ⟨h1, h2⟩ | ⟨h1, h2⟩
      · obtain ⟨q1, q2, q3, q4, q5⟩ := I.fnd i' f h2
        exact ⟨q1, q2, q3, q4.mono ex2, fun j => (q5 j).mono ex2⟩
      · subst h2
        rw [I.lf] at h1
        subst h1
        refine ⟨L.sc, Nat.le_of_eq L.cl, fun x hx => ?_, (L.sz1.w).mono ex1, fun j => ((L.sz2 j).w).mono ex1⟩
        have := L.rel x hx
        rw [spots_nil hsp x, Int.sub_zero] at this
        exact this
    · show (st.found ++ _)[gn st.rows j]? = _
      rw [List.getElem?_append_left (by rw [I.lf]; exact I.low j hj)]
      exact I.own j hj
  · next s r hsp =>
    obtain ⟨hs1, hs2⟩ := spots_cons hsp
    have lr : (st.rows ++ [i]).length = st.rows.length + 1 := by rw [List.length_append]; rfl
    have wl : (R.2.1.map (fun o => 0 - o)).length = st.rows.length := by rw [List.length_map, L.cl]
    have wi : ∀ j, j < st.rows.length → gl (R.2.1.map (fun o => 0 - o) ++ [R.1]) j = 0 - gl R.2.1 j := fun j hj => by
      rw [gl_left (by rw [wl]; exact hj), gl_map (f := fun o => 0 - o) rfl]
    have wt : gl (R.2.1.map (fun o => 0 - o) ++ [R.1]) st.rows.length = R.1 := by
      have := gl_right (l := R.2.1.map (fun o => 0 - o)) (l' := [R.1]) 0
      rw [wl] at this
      exact this
    have A' : ∀ l x, l < st.rows.length → T (gn (st.rows ++ [i]) l) x = T (gn st.rows l) x := fun l x h => by rw [gn_left h]
    refine ⟨by show (st.cols ++ [s]).length = _; rw [lr, List.length_append, I.lc]; rfl, by show (st.known ++ _).length = _; rw [lr, List.length_append, I.lk]; rfl, by show (st.found ++ _).length = _; rw [List.length_append, I.lf]; rfl, fun a b hab hb => ?_, fun a ha => ?_, ⟨fun j k hk => ?_, fun j k i' k' hk hij hk' => ?_⟩, fun j k hk => ?_, fun i' f hf => ?_, fun j hj => ?_⟩
    · have hb : b < (st.rows ++ [i]).length := hb
      show gn (st.rows ++ [i]) a < gn (st.rows ++ [i]) b
      rw [lr] at hb
      rw [gn_left (by omega)]
      by_cases e : b = st.rows.length
      · subst e
        rw [gn_end]
        exact I.low a hab
      · rw [gn_left (by omega)]
        exact I.asc a b hab (by omega)
    · have ha : a < (st.rows ++ [i]).length := ha
      show gn (st.rows ++ [i]) a < i + 1
      rw [lr] at ha
      by_cases e : a = st.rows.length
      · subst e
        rw [gn_end]; omega
      · rw [gn_left (by omega)]
        have := I.low a (by omega)
        omega
    · rcases getE_snoc hk with ⟨h1, h2⟩ | ⟨h1, h2⟩
      · refine (I.kn.ok j k h2).congr fun l x hl => (A' l x ?_).symm
        rw [I.lk] at h1
        omega
      · subst h2
        rw [I.lk] at h1
        subst h1
        refine ⟨by rw [List.length_append, wl]; rfl, L.ll, by rw [← L.ll]; exact hs1, fun hd => hs2 ((L.sz3 s).iff h0 |>.mp hd), by rw [wt]; exact L.sc, fun x hx => ?_, fun j => ?_, L.sz3⟩
        · show p ∣ sm st.rows.length (fun l => gl (R.2.1.map (fun o => 0 - o) ++ [R.1]) l * T (gn (st.rows ++ [i]) l) x) + gl (R.2.1.map (fun o => 0 - o) ++ [R.1]) st.rows.length * T (gn (st.rows ++ [i]) st.rows.length) x - gl R.2.2 x
          rw [wt, gn_end, sm_congr (g := fun l => (-1) * (gl R.2.1 l * T (gn st.rows l) x)) fun l hl => by rw [A' l x hl, wi l hl]; grind, sm_mul]
          have := L.rel x hx
          generalize sm st.rows.length (fun l => gl R.2.1 l * T (gn st.rows l) x) = X at this ⊢
          rwa [show -1 * X + R.1 * T i x - gl R.2.2 x = R.1 * T i x - X - gl R.2.2 x by omega]
        · by_cases h : j < st.rows.length
          · show Sw p _ (gl (R.2.1.map (fun o => 0 - o) ++ [R.1]) j)
            rw [wi j h]
            have := L.sz2 j
            exact ⟨fun z => by have := this.1 z; omega, fun z => by have := this.2 z; omega⟩
          · by_cases e : j = st.rows.length
            · subst e
              show Sw p _ (gl (R.2.1.map (fun o => 0 - o) ++ [R.1]) st.rows.length)
              rw [wt]
              exact L.sz1.w
            · show Sw p _ (gl (R.2.1.map (fun o => 0 - o) ++ [R.1]) j)
              rw [gl_out (by rw [List.length_append, wl, List.length_singleton]; omega)]
              exact (Sz.zero p _).w
    · rcases getE_snoc hk with ⟨h1, h2⟩ | ⟨h1, h2⟩
      · rcases getE_snoc hk' with ⟨h3, h4⟩ | ⟨h3, h4⟩
        · exact I.kn.zr j k i' k' h2 hij h4
        · omega
      · rcases getE_snoc hk' with ⟨h3, h4⟩ | ⟨h3, h4⟩
        · subst h2
          exact Z i' k' h4
        · omega
    · rcases getE_snoc hk with ⟨h1, h2⟩ | ⟨h1, h2⟩
      · show gn (st.cols ++ [s]) j = _
        rw [gn_left (by rw [I.lc, ← I.lk]; exact h1)]
        exact I.sp j k h2
      · subst h2
        rw [I.lk, ← I.lc] at h1
        subst h1
        exact gn_end _ _
    · show ¬ p ∣ f.1 ∧ f.2.length ≤ (st.rows ++ [i]).length ∧ (∀ x, x < n → p ∣ f.1 * T i' x - sm (st.rows ++ [i]).length (fun j => gl f.2 j * T (gn (st.rows ++ [i]) j) x)) ∧ _
      rw [lr]
      rcases getE_snoc hf with ⟨h1, h2⟩ | ⟨h1, h2⟩
      · obtain ⟨q1, q2, q3, q4, q5⟩ := I.fnd i' f h2
        refine ⟨q1, by omega, fun x hx => ?_, q4.mono ex2, fun j => (q5 j).mono ex2⟩
        show p ∣ f.1 * T i' x - (sm st.rows.length (fun j => gl f.2 j * T (gn (st.rows ++ [i]) j) x) + gl f.2 st.rows.length * T (gn (st.rows ++ [i]) st.rows.length) x)
        rw [gl_out (l := f.2) q2, Int.zero_mul, Int.add_zero, sm_congr (g := fun j => gl f.2 j * T (gn st.rows j) x) fun j hj => by rw [A' j x hj]]
        exact q3 x hx
      · subst h2
        rw [I.lf] at h1
        subst h1
        rw [I.lk]
        refine ⟨hp.one, by simp, fun x hx => ?_, Sw.one hp h0 (by have := ex_pos (i' + 1); omega), fun j => ?_⟩
        · rw [sm_one (r := st.rows.length) (by omega) fun j hj hne => by
            show gl (List.replicate st.rows.length 0 ++ [1]) j * _ = 0
            rw [gl_unit, if_neg hne, Int.zero_mul]]
          show p ∣ 1 * T i' x - gl (List.replicate st.rows.length 0 ++ [1]) st.rows.length * T (gn (st.rows ++ [i']) st.rows.length) x
          rw [gl_unit, if_pos rfl, gn_end, Int.sub_self]
          exact Int.dvd_zero p
        · show Sw p _ (gl (List.replicate st.rows.length 0 ++ [1]) j)
          rw [gl_unit]
          split
          · exact Sw.one hp h0 (by have := ex_pos (i' + 1); omega)
          · exact (Sz.zero p _).w
    · have hj : j < (st.rows ++ [i]).length := hj
      show (st.found ++ [(1, List.replicate st.known.length 0 ++ [1])])[gn (st.rows ++ [i]) j]? = _
      rw [lr] at hj
      by_cases e : j = st.rows.length
      · subst e
        rw [gn_end, List.getElem?_append_right (by rw [I.lf]; omega), I.lf, Nat.sub_self, I.lk]
        rfl
      · rw [gn_left (by omega), List.getElem?_append_left (by rw [I.lf]; exact I.low j (by omega))]
        exact I.own j (by omega)
theorem rs0_ok : RInv p n T 0 rs0 := by
  refine ⟨rfl, rfl, rfl, ?_, ?_, ⟨?_, ?_⟩, ?_, ?_, ?_⟩ <;> intros <;> simp_all [rs0]
/-- a table of n places, with answers below 2 ^ 7 -/
structure Tab (n : Nat) (t : List (List Int)) : Prop where
  len : ∀ r ∈ t, r.length = n
  low : ∀ r ∈ t, ∀ x ∈ r, 0 ≤ x ∧ x ≤ 99
theorem Tab.get {t : List (List Int)} (h : Tab n t) {i : Nat} (hi : i < t.length) : ∃ r, t[i]? = some r ∧ r.length = n ∧ (∀ x, gt t i x = gl r x) ∧ ∀ x, 0 ≤ gl r x ∧ gl r x ≤ 99 := by
  have e : t[i]? = some t[i] := List.getElem?_eq_getElem hi
  refine ⟨t[i], e, h.len _ (List.getElem_mem hi), fun x => gt_some e, fun x => ?_⟩
  by_cases hx : x < (t[i]).length
  · exact h.low _ (List.getElem_mem hi) _ (List.mem_of_getElem? (gl_get hx))
  · rw [gl_out (by omega)]; omega
theorem ranked_ok {t : List (List Int)} (hp : PrI p) (h0 : 0 ≤ p) (ht : Tab n t) : ∀ i, i ≤ t.length → RInv p n (gt t) i ((t.zipIdx.take i).foldl (rstep p) rs0)
  | 0, _ => rs0_ok
  | i + 1, hi => by
    have ih := ranked_ok hp h0 ht i (by omega)
    obtain ⟨r, h1, h2, h3, h4⟩ := ht.get (i := i) (by omega)
    have e : t.zipIdx[i]? = some (r, i) := by rw [List.getElem?_zipIdx, h1]; simp
    rw [List.take_add_one, e, Option.toList_some, List.foldl_append, List.foldl_cons, List.foldl_nil]
    exact rstep_ok hp h0 ih h2 (fun x _ => h3 x) fun x => by have := h4 x; have : (2 : Nat) ^ 7 = 128 := by decide
                                                             omega
theorem rankedF_ok {t : List (List Int)} (hp : PrI p) (h0 : 0 ≤ p) (ht : Tab n t) : RInv p n (gt t) t.length (rankedF p t) := by
  have := ranked_ok hp h0 ht t.length (Nat.le_refl _)
  rwa [show t.zipIdx.take t.length = t.zipIdx from List.take_of_length_le (by rw [List.length_zipIdx]; omega)] at this
/-! ### the rows that stand do not hang together -/
theorem RInv.at_ {i j : Nat} {st : RS} (I : RInv p n T i st) (h : j < st.rows.length) : ∃ k, st.known[j]? = some k := by
  rw [← I.lk] at h
  exact ⟨_, List.getElem?_eq_getElem h⟩
theorem RInv.ind {i : Nat} {st : RS} (hp : PrI p) (I : RInv p n T i st) : ∀ m, m ≤ st.rows.length → Ind p m m (fun j l => T (gn st.rows j) (gn st.cols l))
  | 0, _ => fun c _ j hj => by omega
  | m + 1, hm => fun c hc => by
    have ih := I.ind hp m (by omega)
    obtain ⟨k, hk⟩ := I.at_ (j := m) (by omega)
    have K := I.kn.ok m k hk
    have sp := I.sp m k hk
    have cl : ∀ l, l < st.rows.length → gn st.cols l < n := fun l hl => by
      obtain ⟨k', hk'⟩ := I.at_ (j := l) (by omega)
      rw [I.sp l _ hk']
      exact (I.kn.ok l _ hk').sn
    -- the top row turned into its vector
    have key : ∀ x, x < n → p ∣ sm (m + 1) (fun j => c j * T (gn st.rows j) x) → p ∣ c m * gl k.2.1 x + sm m (fun j => (gl k.1 m * c j - c m * gl k.1 j) * T (gn st.rows j) x) := fun x hx hd => by
      have h1 := Int.dvd_mul_of_dvd_right (a := p) (b := gl k.1 m) hd
      have h2 := Int.dvd_mul_of_dvd_right (a := p) (b := c m) (K.rel x hx)
      have := Int.dvd_sub h1 h2
      have e1 : sm (m + 1) (fun j => c j * T (gn st.rows j) x) = sm m (fun j => c j * T (gn st.rows j) x) + c m * T (gn st.rows m) x := rfl
      have e2 : sm (m + 1) (fun j => gl k.1 j * T (gn st.rows j) x) = sm m (fun j => gl k.1 j * T (gn st.rows j) x) + gl k.1 m * T (gn st.rows m) x := rfl
      rw [e1, e2] at this
      rw [sm_congr (g := fun j => gl k.1 m * (c j * T (gn st.rows j) x) - c m * (gl k.1 j * T (gn st.rows j) x)) fun j _ => by grind, sm_sub, sm_mul, sm_mul]
      generalize sm m (fun j => c j * T (gn st.rows j) x) = X at this ⊢
      generalize sm m (fun j => gl k.1 j * T (gn st.rows j) x) = Y at this ⊢
      rwa [show gl k.1 m * (X + c m * T (gn st.rows m) x) - c m * (Y + gl k.1 m * T (gn st.rows m) x - gl k.2.1 x) = c m * gl k.2.1 x + (gl k.1 m * X - c m * Y) by grind] at this
    have h3 := ih (fun j => gl k.1 m * c j - c m * gl k.1 j) fun l hl => by
      have := key (gn st.cols l) (cl l (by omega)) (hc l (by omega))
      obtain ⟨k', hk'⟩ := I.at_ (j := l) (by omega)
      rw [show gl k.2.1 (gn st.cols l) = 0 by rw [I.sp l _ hk']; exact I.kn.zr m k l _ hk hl hk', Int.mul_zero, Int.zero_add] at this
      exact this
    have h4 : p ∣ c m := by
      have := key (gn st.cols m) (cl m (by omega)) (hc m (by omega))
      have h5 : p ∣ sm m (fun j => (gl k.1 m * c j - c m * gl k.1 j) * T (gn st.rows j) (gn st.cols m)) := sm_dvd fun j hj => Int.dvd_mul_of_dvd_left (h3 j hj)
      have h6 : p ∣ c m * gl k.2.1 (gn st.cols m) := by
        have := Int.dvd_sub this h5
        rwa [Int.add_sub_cancel] at this
      rw [sp] at h6
      exact (hp.mul _ _ h6).resolve_right K.nz
    intro j hj
    by_cases e : j = m
    · subst e; exact h4
    · have h7 : p ∣ gl k.1 m * c j := dvd_of_sub (h3 j (by omega)) (Int.dvd_mul_of_dvd_left h4)
      exact (hp.mul _ _ h7).resolve_left K.top
/-! ### the paper -/
def srI (l : List Int) : List Int := l.mergeSort (fun a b => decide (a ≤ b))
def srt (l : List Nat) : List Nat := (srI (l.map fun (i : Nat) => (i : Int))).map Int.toNat
theorem srt_eq (l : List Nat) : (srt l).map (fun (i : Nat) => (i : Int)) = srI (l.map fun (i : Nat) => (i : Int)) := by
  unfold srt
  rw [List.map_map]
  conv => rhs; rw [← List.map_id (srI (l.map fun (i : Nat) => (i : Int)))]
  refine List.map_congr_left fun x hx => ?_
  have : x ∈ l.map fun (i : Nat) => (i : Int) := (List.mergeSort_perm _ _).mem_iff.mp hx
  obtain ⟨i, _, rfl⟩ := List.mem_map.mp this
  rfl
theorem srt_perm (l : List Nat) : (srt l).Perm l := by
  have h := ((List.mergeSort_perm (l.map fun (i : Nat) => (i : Int)) (fun a b => decide (a ≤ b))).map Int.toNat)
  rw [List.map_map] at h
  exact h.trans (List.Perm.of_eq (by
    conv => rhs; rw [← List.map_id l]
    exact List.map_congr_left fun x _ => rfl))
theorem srt_le (l : List Nat) : (srt l).Pairwise (· ≤ ·) := by
  have h : (srI (l.map fun (i : Nat) => (i : Int))).Pairwise (fun a b => decide (a ≤ b) = true) := List.pairwise_mergeSort (fun a b c h1 h2 => by simp at *; omega) (fun a b => by simp; omega) _
  unfold srt
  rw [List.pairwise_map]
  exact h.imp fun {a b} h => by have : a ≤ b := by simpa using h
                                omega
structure Paper (p : Int) (m n : Nat) (T : Mx) (rows cols : List Nat) (sums : List (Int × List Int)) : Prop where
  lc : cols.length = rows.length
  ls : sums.length = m
  ra : ∀ a b, a < b → b < rows.length → gn rows a < gn rows b
  rl : ∀ a, a < rows.length → gn rows a < m
  ca : ∀ a b, a < b → b < rows.length → gn cols a < gn cols b
  cl : ∀ a, a < rows.length → gn cols a < n
  sm : ∀ (i : Nat) (f : Int × List Int), sums[i]? = some f → ¬ p ∣ f.1 ∧ f.2.length = rows.length ∧ (∀ x, x < n → p ∣ f.1 * T i x - sm rows.length (fun j => gl f.2 j * T (gn rows j) x)) ∧ Sw p (ex m) f.1 ∧ ∀ j, Sw p (ex m) (gl f.2 j)
  own : 0 < rows.length → ∃ u, sums[gn rows 0]? = some (1, u) ∧ ∀ j, gl u (j + 1) = 0
  ind : Ind p rows.length rows.length (fun j l => T (gn rows j) (gn cols l))
def sumsF (st : RS) : List (Int × List Int) := st.found.map fun f => (f.1, f.2 ++ List.replicate (st.rows.length - f.2.length) 0)
theorem gn_mem {l : List Nat} {x : Nat} (h : x ∈ l) : ∃ i, i < l.length ∧ gn l i = x := by
  obtain ⟨i, hi, e⟩ := List.getElem_of_mem h
  exact ⟨i, hi, gn_some (by rw [List.getElem?_eq_getElem hi, e])⟩
theorem RInv.paper {m : Nat} {st : RS} (hp : PrI p) (I : RInv p n T m st) : Paper p m n T st.rows (srt st.cols) (sumsF st) := by
  have ls : (srt st.cols).length = st.rows.length := by rw [(srt_perm st.cols).length_eq, I.lc]
  have clt : ∀ l, l < st.rows.length → gn st.cols l < n := fun l hl => by
    obtain ⟨k', hk'⟩ := I.at_ (j := l) (by omega)
    rw [I.sp l _ hk']
    exact (I.kn.ok l _ hk').sn
  have inj : ∀ a b, a < b → b < st.rows.length → gn st.cols a ≠ gn st.cols b := fun a b hab hb e => by
    obtain ⟨k1, hk1⟩ := I.at_ (j := a) (by omega)
    obtain ⟨k2, hk2⟩ := I.at_ (j := b) (by omega)
    have := I.kn.zr b k2 a k1 hk2 hab hk1
    rw [← I.sp a _ hk1, e, I.sp b _ hk2] at this
    exact (I.kn.ok b _ hk2).nz (by rw [this]; exact Int.dvd_zero p)
  have nd : (srt st.cols).Nodup := (srt_perm st.cols).nodup_iff.mpr (by
    rw [List.nodup_iff_pairwise_ne, List.pairwise_iff_getElem]
    intro a b ha hb hab
    have := inj a b hab (by rw [← I.lc]; exact hb)
    rwa [gn_some (List.getElem?_eq_getElem ha), gn_some (List.getElem?_eq_getElem hb)] at this)
  refine ⟨ls, by unfold sumsF; rw [List.length_map, I.lf], I.asc, I.low, fun a b hab hb => ?_, fun a ha => ?_, fun i f hf => ?_, fun h => ?_, fun c hc => ?_⟩
  · have h1 := List.pairwise_iff_getElem.mp (srt_le st.cols) a b (by omega) (by omega) hab
    have h2 := List.pairwise_iff_getElem.mp (List.nodup_iff_pairwise_ne.mp nd) a b (by omega) (by omega) hab
    rw [gn_some (List.getElem?_eq_getElem (by omega : a < (srt st.cols).length)), gn_some (List.getElem?_eq_getElem (by omega : b < (srt st.cols).length))]
    omega
  · have h1 : gn (srt st.cols) a ∈ st.cols := (srt_perm st.cols).mem_iff.mp (List.mem_of_getElem? (gn_get (by omega)))
    obtain ⟨j, hj, e⟩ := gn_mem h1
    rw [← e]
    exact clt j (by rw [← I.lc]; exact hj)
  · unfold sumsF at hf
    rw [List.getElem?_map] at hf
    cases hg : st.found[i]? with
    | none => rw [hg] at hf; cases hf
    | some g =>
      rw [hg] at hf
      cases hf
      obtain ⟨q1, q2, q3, q4, q5⟩ := I.fnd i g hg
      refine ⟨q1, by rw [List.length_append, List.length_replicate]; omega, fun x hx => ?_, q4, fun j => by rw [gl_pad]; exact q5 j⟩
      rw [sm_congr (g := fun j => gl g.2 j * T (gn st.rows j) x) fun j _ => by rw [gl_pad]]
      exact q3 x hx
  · refine ⟨_, by unfold sumsF; rw [List.getElem?_map, I.own 0 h]; rfl, fun j => ?_⟩
    rw [gl_pad, gl_unit, if_neg (by omega)]
  · refine I.ind hp _ (Nat.le_refl _) c fun l hl => ?_
    have h1 : gn st.cols l ∈ srt st.cols := (srt_perm st.cols).mem_iff.mpr (List.mem_of_getElem? (gn_get (by rw [I.lc]; exact hl)))
    obtain ⟨j, hj, e⟩ := gn_mem h1
    have := hc j (by rw [← ls]; exact hj)
    simp only [e] at this
    exact this
theorem Paper.rank {m : Nat} {rows cols : List Nat} {sums : List (Int × List Int)} (Q : Paper p m n T rows cols sums) : RankIs p m n T rows.length :=
  ⟨gn rows, Q.rl, fun c hc => Q.ind c fun l hl => hc _ (Q.cl l hl), fun i hi => by
    obtain ⟨q1, q2, q3, _⟩ := Q.sm i _ (List.getElem?_eq_getElem (by rw [Q.ls]; exact hi))
    exact ⟨_, _, q1, q3⟩⟩
theorem Paper.le {m : Nat} {rows cols : List Nat} {sums : List (Int × List Int)} (hp : PrI p) (Q : Paper p m n T rows cols sums) : rows.length ≤ m ∧ rows.length ≤ n := by
  obtain ⟨R, h1, h2, h3⟩ := Q.rank
  refine ⟨?_, h2.le hp⟩
  refine Q.rank.le hp (A := T) fun i hi => ⟨1, fun j => if j = i then 1 else 0, hp.one, fun x _ => ?_⟩
  rw [sm_one hi fun l hl hne => by show (if l = i then (1 : Int) else 0) * T l x = 0; rw [if_neg hne, Int.zero_mul]]
  show p ∣ 1 * T i x - (if i = i then 1 else 0) * T i x
  rw [if_pos rfl, Int.sub_self]
  exact Int.dvd_zero p
end
end Tf
end
section
/-! Small plain facts for the walks (core Lean alone). -/
namespace Tf
theorem gcd_fmod (a b : Int) : Int.gcd b (a.fmod b) = Int.gcd a b := by
  have h1 : a.fmod b = a - b * a.fdiv b := Int.fmod_def a b
  refine Nat.dvd_antisymm ?_ ?_
  · have h2 : ((Int.gcd b (a.fmod b) : Nat) : Int) ∣ a.fmod b := Int.gcd_dvd_right ..
    have h3 : ((Int.gcd b (a.fmod b) : Nat) : Int) ∣ b := Int.gcd_dvd_left ..
    refine Int.dvd_gcd ?_ h3
    have := Int.dvd_add h2 (Int.dvd_mul_of_dvd_left (c := a.fdiv b) h3)
    rwa [show a.fmod b + b * a.fdiv b = a by omega] at this
  · refine Int.dvd_gcd (Int.gcd_dvd_right ..) ?_
    rw [h1]
    exact Int.dvd_sub (Int.gcd_dvd_left ..) (Int.dvd_mul_of_dvd_left (Int.gcd_dvd_right ..))
theorem natAbs_fmod_lt {a b : Int} (h : b ≠ 0) : (a.fmod b).natAbs < b.natAbs := by
  have h1 : a.fmod b = a % b + if 0 ≤ b ∨ b ∣ a then 0 else b := Int.fmod_eq_emod
  have h2 := Int.emod_nonneg a h
  have h3 := Int.emod_lt a h
  rw [h1]
  split
  · omega
  · next hd =>
    have : a % b ≠ 0 := fun z => hd (.inr (Int.dvd_of_emod_eq_zero z))
    omega
theorem gcdF_snoc (s : Int) (l : List Int) (x : Int) : gcdF s (l ++ [x]) = (Int.gcd (gcdF s l) x : Int) := by
  unfold gcdF
  rw [List.foldl_append]; rfl
theorem log2_lt {x : Nat} {e : Nat} (h : x < 2 ^ e) (he : 0 < e) : x.log2 < e := by
  by_cases h0 : x = 0
  · subst h0; exact he
  · exact (Nat.log2_lt h0).mpr h
end Tf
end
section
/-! Primes below 98, inverses, what expressed and factors give (core Lean alone). -/
namespace Tf
def prN : List Nat := [2, 3, 5, 7, 11, 13, 17, 19, 23, 29, 31, 37, 41, 43, 47, 53, 59, 61, 67, 71, 73, 79, 83, 89, 97]
theorem pr_check : (prN.all fun q => (List.range (q + 1)).all fun d => d == 0 || d == 1 || d == q || q % d != 0) = true := by decide +kernel
theorem inv_check : (prN.all fun q => (List.range q).all fun r => r == 0 || (List.range q).any fun x => x * r % q == 1) = true := by decide +kernel
theorem prN_bd : ∀ q ∈ prN, 2 ≤ q ∧ q ≤ 97 := by decide
theorem prN_prI {q : Nat} (h : q ∈ prN) : PrI (q : Int) := by
  have hb := prN_bd q h
  refine prI_nat (by omega) fun d hd => ?_
  have h1 := List.all_eq_true.mp pr_check q h
  have hle : d ≤ q := Nat.le_of_dvd (by omega) hd
  have h2 := List.all_eq_true.mp h1 d (List.mem_range.mpr (by omega))
  have h0 : d ≠ 0 := fun z => by subst z; have := Nat.zero_dvd.mp hd; omega
  have h3 : q % d = 0 := Nat.mod_eq_zero_of_dvd hd
  simp [h0, h3] at h2
  exact h2
theorem prN_inv {q r : Nat} (h : q ∈ prN) (hr : r < q) (h0 : r ≠ 0) : ∃ x, 1 ≤ x ∧ x < q ∧ x * r % q = 1 := by
  have hb := prN_bd q h
  have h1 := List.all_eq_true.mp (List.all_eq_true.mp inv_check q h) r (List.mem_range.mpr hr)
  simp only [Bool.or_eq_true, beq_iff_eq, h0, false_or, List.any_eq_true, List.mem_range] at h1
  obtain ⟨x, hx, h2⟩ := h1
  refine ⟨x, ?_, hx, h2⟩
  by_cases z : x = 0
  · subst z
    rw [Nat.zero_mul, Nat.zero_mod] at h2
    omega
  · omega
/-- the number that inverse gives -/
def invs (a p : Int) : List Int := ((List.range (p - 1).toNat).map fun (i : Nat) => (1 : Int) + (i : Int)).filter fun o => decide (o * a % p = 1)
def invF (a p : Int) : Int := (invs a p).headD 0
theorem invs_ok {a : Int} {q : Nat} (h : q ∈ prN) (ha : ¬ (q : Int) ∣ a) : ∃ r, invs a q = invF a q :: r ∧ 1 ≤ invF a q ∧ invF a q < q ∧ invF a q * a % (q : Int) = 1 := by
  have hb := prN_bd q h
  have h1 := Int.emod_nonneg a (b := (q : Int)) (by omega)
  have h2 := Int.emod_lt_of_pos a (b := (q : Int)) (by omega)
  have h3 : a % (q : Int) ≠ 0 := fun z => ha (Int.dvd_of_emod_eq_zero z)
  obtain ⟨x, x1, x2, x3⟩ := prN_inv (r := (a % (q : Int)).toNat) h (by omega) (by omega)
  have hx : ((x : Int)) * a % (q : Int) = 1 := by
    rw [Int.mul_emod, ← Int.emod_emod_of_dvd a (Int.dvd_refl (q : Int)), ← Int.mul_emod]
    have e : a % (q : Int) = (((a % (q : Int)).toNat : Nat) : Int) := by omega
    rw [e]
    have : ((x * (a % (q : Int)).toNat % q : Nat) : Int) = 1 := by rw [x3]; rfl
    push_cast at this
    exact this
  have hmem : (x : Int) ∈ invs a q := by
    refine List.mem_filter.mpr ⟨List.mem_map.mpr ⟨x - 1, List.mem_range.mpr (by omega), by omega⟩, decide_eq_true hx⟩
  cases hl : invs a q with
  | nil => rw [hl] at hmem; nomatch hmem
  | cons y r =>
    have e : invF a q = y := by unfold invF; rw [hl]; rfl
    have hy : y ∈ invs a q := by rw [hl]; exact List.mem_cons_self
    obtain ⟨hy1, hy2⟩ := List.mem_filter.mp hy
    obtain ⟨i, hi, rfl⟩ := List.mem_map.mp hy1
    have hi := List.mem_range.mp hi
    rw [e]
    exact ⟨r, rfl, by omega, by omega, of_decide_eq_true hy2⟩
def exF (p : Int) (sums : List (Int × List Int)) : List (List Int) := sums.map fun f => f.2.map fun o => invF f.1 p * o % p
def rtF (p : Int) (t : List (List Int)) (rows : List Nat) : List (List Int) := rows.map fun i => (t.getD i []).map (· % p)
theorem dvd_mod_sub (p x : Int) : p ∣ x % p - x := dvd_sub' (dvd_sub_mod p x)
/-- the two factors put together again -/
theorem factors_ok {t : List (List Int)} {q m n : Nat} {rows cols : List Nat} {sums : List (Int × List Int)} (h : q ∈ prN) (ht : t.length = m) (Q : Paper (q : Int) m n (gt t) rows cols sums) {i x : Nat} (hi : i < m) (hx : x < n) : (q : Int) ∣ sm rows.length (fun j => gt (exF q sums) i j * gt (rtF q t rows) j x) - gt t i x := by
  have hb := prN_bd q h
  have hl : i < sums.length := by rw [Q.ls]; exact hi
  obtain ⟨f, e⟩ : ∃ f, sums[i]? = some f := ⟨_, List.getElem?_eq_getElem hl⟩
  obtain ⟨q1, q2, q3, _⟩ := Q.sm i _ e
  obtain ⟨r, _, _, _, hinv⟩ := invs_ok h q1
  have hex : ∀ j, gt (exF q sums) i j = invF f.1 q * gl f.2 j % (q : Int) := fun j => by
    unfold exF
    rw [gt_some (r := f.2.map fun o => invF f.1 q * o % (q : Int)) (by rw [List.getElem?_map, e]; rfl)]
    exact gl_map (f := fun o => invF f.1 q * o % (q : Int)) (by rw [Int.mul_zero]; exact Int.zero_emod _) j
  have hrt : ∀ j, j < rows.length → gt (rtF q t rows) j x = gt t (gn rows j) x % (q : Int) := fun j hj => by
    unfold rtF
    rw [gt_some (r := (t.getD (gn rows j) []).map (· % (q : Int))) (by rw [List.getElem?_map, gn_get hj]; rfl)]
    exact gl_map (f := (· % (q : Int))) (Int.zero_emod _) x
  have h1 : (q : Int) ∣ sm rows.length (fun j => gt (exF q sums) i j * gt (rtF q t rows) j x) - sm rows.length (fun j => invF f.1 q * (gl f.2 j * gt t (gn rows j) x)) := by
    rw [← sm_sub]
    refine sm_dvd fun j hj => ?_
    rw [hex, hrt j hj]
    have a1 := dvd_mod_sub (q : Int) (invF f.1 q * gl f.2 j)
    have a2 := dvd_mod_sub (q : Int) (gt t (gn rows j) x)
    have := Int.dvd_add (Int.dvd_mul_of_dvd_left (c := gt t (gn rows j) x % (q : Int)) a1) (Int.dvd_mul_of_dvd_right (b := invF f.1 q * gl f.2 j) a2)
    generalize invF f.1 q * gl f.2 j % (q : Int) = u at this ⊢
    generalize gt t (gn rows j) x % (q : Int) = v at this ⊢
    rwa [show (u - invF f.1 q * gl f.2 j) * v + invF f.1 q * gl f.2 j * (v - gt t (gn rows j) x) = u * v - invF f.1 q * (gl f.2 j * gt t (gn rows j) x) by grind] at this
  rw [sm_mul] at h1
  have h2 := Int.dvd_mul_of_dvd_right (b := invF f.1 q) (q3 x hx)
  have h3 : (q : Int) ∣ (invF f.1 q * f.1 - 1) * gt t i x := Int.dvd_mul_of_dvd_left (by
    have := Int.emod_emod_of_dvd (invF f.1 q * f.1) (Int.dvd_refl (q : Int))
    have h4 := dvd_sub_mod (q : Int) (invF f.1 q * f.1)
    rwa [hinv] at h4)
  generalize sm rows.length (fun j => gt (exF q sums) i j * gt (rtF q t rows) j x) = S at h1 ⊢
  generalize sm rows.length (fun j => gl f.2 j * gt t (gn rows j) x) = C at h1 h2 ⊢
  have := Int.dvd_add (Int.dvd_sub h1 h2) h3
  rwa [show S - invF f.1 q * C - invF f.1 q * (f.1 * gt t i x - C) + (invF f.1 q * f.1 - 1) * gt t i x = S - gt t i x by grind] at this
end Tf
end
section
/-! Numbering of like rows; cuts (core Lean alone). -/
namespace Tf
def ixOf : List (List Int) → List Int → Nat
  | [], _ => 0
  | y :: l, x => if y = x then 0 else ixOf l x + 1
theorem ixOf_get : ∀ {l : List (List Int)} {x : List Int}, x ∈ l → l[ixOf l x]? = some x ∧ ∀ m z, m < ixOf l x → l[m]? = some z → z ≠ x
  | y :: l, x, h => by
    unfold ixOf
    by_cases e : y = x
    · rw [if_pos e]
      exact ⟨by rw [e]; rfl, fun m z hm _ => absurd hm (Nat.not_lt_zero m)⟩
    · rw [if_neg e]
      have hx : x ∈ l := (List.mem_cons.mp h).resolve_left fun z => e z.symm
      obtain ⟨h1, h2⟩ := ixOf_get hx
      refine ⟨by rw [List.getElem?_cons_succ]; exact h1, fun m z hm hz => ?_⟩
      cases m with
      | zero => rw [List.getElem?_cons_zero] at hz; cases hz; exact e
      | succ m => rw [List.getElem?_cons_succ] at hz; exact h2 m z (by omega) hz
abbrev NS := List (List Int) × List Nat
def nmSeen (s : List (List Int)) (x : List Int) : List (List Int) := if x ∈ s then s else s ++ [x]
def nmStep (st : NS) (x : List Int) : NS := (nmSeen st.1 x, st.2 ++ [ixOf (nmSeen st.1 x) x])
def nm (t : List (List Int)) : NS := t.foldl nmStep ([], [])
def numF (t : List (List Int)) : List Nat := (nm t).2
theorem nm_snoc (t : List (List Int)) (x : List Int) : nm (t ++ [x]) = nmStep (nm t) x := by
  unfold nm
  rw [List.foldl_append]; rfl
theorem nmSeen_mem (s : List (List Int)) (x : List Int) : x ∈ nmSeen s x := by
  unfold nmSeen
  split
  · assumption
  · simp
theorem nmSeen_pre {s : List (List Int)} {x y : List Int} {i : Nat} (h : s[i]? = some y) : (nmSeen s x)[i]? = some y := by
  unfold nmSeen
  split
  · exact h
  · rw [List.getElem?_append_left (List.getElem?_eq_some_iff.mp h).1]
    exact h
theorem nm_ok : ∀ (k : Nat) (t : List (List Int)), t.length = k → (nm t).2.length = t.length ∧ (nm t).1.length ≤ t.length ∧ ∀ i, i < t.length → (nm t).1[gn (nm t).2 i]? = t[i]? ∧ gn (nm t).2 i < t.length
  | 0, t, h => by
    obtain rfl := List.eq_nil_of_length_eq_zero h
    exact ⟨rfl, Nat.le_refl 0, fun i hi => absurd hi (Nat.not_lt_zero i)⟩
  | k + 1, t, h => by
    have hne : t ≠ [] := fun z => by rw [z] at h; cases h
    obtain ⟨u, x, rfl⟩ : ∃ u x, t = u ++ [x] := ⟨_, _, (List.dropLast_concat_getLast hne).symm⟩
    have hu : u.length = k := by simpa using h
    obtain ⟨h1, h2, h3⟩ := nm_ok k u hu
    rw [nm_snoc]
    unfold nmStep
    have hsl : (nmSeen (nm u).1 x).length ≤ u.length + 1 := by
      unfold nmSeen
      split
      · omega
      · rw [List.length_append, List.length_singleton]; omega
    obtain ⟨g1, g2⟩ := ixOf_get (nmSeen_mem (nm u).1 x)
    refine ⟨by simp [h1], by simpa using hsl, fun i hi => ?_⟩
    dsimp only
    rw [List.length_append, List.length_singleton] at hi ⊢
    by_cases e : i = u.length
    · subst e
      have : gn ((nm u).2 ++ [ixOf (nmSeen (nm u).1 x) x]) u.length = ixOf (nmSeen (nm u).1 x) x := by
        rw [← h1]; exact gn_end _ _
      rw [this, g1, List.getElem?_append_right (Nat.le_refl _), Nat.sub_self]
      refine ⟨rfl, ?_⟩
      have := (List.getElem?_eq_some_iff.mp g1).1
      omega
    · obtain ⟨q1, q2⟩ := h3 i (by omega)
      rw [gn_left (by omega), List.getElem?_append_left (by omega)]
      refine ⟨?_, by omega⟩
      rw [← q1]
      cases hs : (nm u).1[gn (nm u).2 i]? with
      | none =>
        rw [hs] at q1
        rw [List.getElem?_eq_getElem (by omega : i < u.length)] at q1
        cases q1
      | some y => exact nmSeen_pre hs
theorem numF_len (t : List (List Int)) : (numF t).length = t.length := (nm_ok _ t rfl).1
theorem numF_like {t : List (List Int)} {i j : Nat} (hi : i < t.length) (hj : j < t.length) (h : gn (numF t) i = gn (numF t) j) : t[i]? = t[j]? := by
  obtain ⟨_, _, h3⟩ := nm_ok _ t rfl
  rw [← (h3 i hi).1, ← (h3 j hj).1]
  unfold numF at h
  rw [h]
/-- the first places -/
def fpC (l : List Nat) (i : Nat) : Bool := !decide ((gn l i : Int) ∈ (l.take i).map fun (j : Nat) => (j : Int))
def fpF (l : List Nat) : List Nat := (List.range l.length).filter (fpC l)
theorem fp_like {t : List (List Int)} {i : Nat} (hi : i < t.length) : ∃ j, j < (fpF (numF t)).length ∧ t[i]? = t[gn (fpF (numF t)) j]? := by
  have hl := numF_len t
  -- the first place with the number
  have key : ∀ n, ∀ i, i ≤ n → i < t.length → ∃ k, k < t.length ∧ gn (numF t) k = gn (numF t) i ∧ fpC (numF t) k = true := by
    intro n
    induction n with
    | zero =>
      intro i h1 h2
      obtain rfl : i = 0 := by omega
      refine ⟨0, h2, rfl, ?_⟩
      unfold fpC
      simp
    | succ n ih =>
      intro i h1 h2
      by_cases hc : fpC (numF t) i = true
      · exact ⟨i, h2, rfl, hc⟩
      · unfold fpC at hc
        simp only [Bool.not_eq_true', decide_eq_false_iff_not, Classical.not_not] at hc
        obtain ⟨y, hy, e⟩ := List.mem_map.mp hc
        obtain ⟨m, hm⟩ := List.mem_iff_getElem?.mp hy
        rw [List.getElem?_take] at hm
        split at hm
        · next hlt =>
          have hm' := gn_some hm
          obtain ⟨k, k1, k2, k3⟩ := ih m (by omega) (by omega)
          exact ⟨k, k1, by rw [k2, hm']; omega, k3⟩
        · cases hm
  obtain ⟨k, k1, k2, k3⟩ := key i i (Nat.le_refl i) hi
  have hk : k ∈ fpF (numF t) := List.mem_filter.mpr ⟨List.mem_range.mpr (by omega), k3⟩
  obtain ⟨j, hj, e⟩ := gn_mem hk
  refine ⟨j, hj, ?_⟩
  rw [e]
  exact numF_like hi k1 k2.symm
theorem fp_lt {l : List Nat} {x : Nat} (h : x ∈ fpF l) : x < l.length := List.mem_range.mp (List.mem_filter.mp h).1
/-- the rows of a table are like those at its first places -/
theorem gen_fp {p : Int} {n : Nat} {t : List (List Int)} (hp : PrI p) : ∃ A, Gen p t.length n (fpF (numF t)).length (gt t) A :=
  ⟨_, gen_like hp (D := gn (fpF (numF t))) fun i hi => by
    obtain ⟨j, hj, e⟩ := fp_like hi
    refine ⟨j, hj, fun x _ => ?_⟩
    unfold gt
    rw [List.getD_eq_getElem?_getD, List.getD_eq_getElem?_getD, e]⟩
/-! ### cuts of a question -/
def cutF (b : List Int) (n k : Nat) : List (List Int) := (List.range (2 ^ k)).map fun i => (b.drop (i * 2 ^ (n - k))).take (2 ^ (n - k))
theorem cutF_len (b : List Int) (n k : Nat) : (cutF b n k).length = 2 ^ k := by simp [cutF]
theorem cut_room {n k i : Nat} (hk : k ≤ n) (hi : i < 2 ^ k) : (i + 1) * 2 ^ (n - k) ≤ 2 ^ n := by
  have : (i + 1) * 2 ^ (n - k) ≤ 2 ^ k * 2 ^ (n - k) := Nat.mul_le_mul_right _ hi
  rwa [← Nat.pow_add, show k + (n - k) = n by omega] at this
theorem cutF_row {b : List Int} {n k : Nat} (hb : b.length = 2 ^ n) (hk : k ≤ n) : ∀ r ∈ cutF b n k, r.length = 2 ^ (n - k) := fun r hr => by
  obtain ⟨i, hi, rfl⟩ := List.mem_map.mp hr
  have := cut_room hk (List.mem_range.mp hi)
  rw [List.length_take, List.length_drop, hb]
  rw [Nat.add_mul, Nat.one_mul] at this
  omega
theorem cutF_tab {b : List Int} {n k : Nat} (hb : b.length = 2 ^ n) (h01 : ∀ x ∈ b, x = 0 ∨ x = 1) (hk : k ≤ n) : Tab (2 ^ (n - k)) (cutF b n k) :=
  ⟨cutF_row hb hk, fun r hr x hx => by
    obtain ⟨i, hi, rfl⟩ := List.mem_map.mp hr
    have := h01 x (List.mem_of_mem_drop (List.mem_of_mem_take hx))
    omega⟩
end Tf
end
section
/-! Trees: what they answer, their ends (core Lean alone). -/
namespace Tf
inductive Tree where
  | leaf (a : Int)
  /-- c: the column's turn; its signs; where 0 goes, where 1 goes -/
  | node (c : Bool) (s : List Int) (t u : Tree)
def Tree.depth : Tree → Nat
  | .leaf _ => 0
  | .node _ _ t u => max t.depth u.depth + 1
def Tree.ev : Tree → Nat → Nat → Int
  | .leaf a, _, _ => a
  | .node c s t u, i, j => if gl s (if c then j else i) = 0 then t.ev i j else u.ev i j
def Tree.path : Tree → Nat → Nat → List Int
  | .leaf _, _, _ => []
  | .node c s t u, i, j => gl s (if c then j else i) :: (if gl s (if c then j else i) = 0 then t.path i j else u.path i j)
/-- its signs are 0 and 1, as many as there are rows, or places -/
def Tree.Ok (m n : Nat) : Tree → Prop
  | .leaf _ => True
  | .node c s t u => s.length = (if c then n else m) ∧ (∀ x ∈ s, x = 0 ∨ x = 1) ∧ t.Ok m n ∧ u.Ok m n
/-- its answers are below b -/
def Tree.Low (b : Int) : Tree → Prop
  | .leaf a => 0 ≤ a ∧ a < b
  | .node _ _ t u => t.Low b ∧ u.Low b
theorem Tree.ev_low {b : Int} : ∀ {T : Tree} (i j : Nat), T.Low b → 0 ≤ T.ev i j ∧ T.ev i j < b
  | .leaf _, _, _, h => h
  | .node c s t u, i, j, h => by
    show 0 ≤ (if gl s (if c then j else i) = 0 then t.ev i j else u.ev i j) ∧ (if gl s (if c then j else i) = 0 then t.ev i j else u.ev i j) < b
    generalize (if c then j else i) = z
    split
    · exact Tree.ev_low i j h.1
    · exact Tree.ev_low i j h.2
theorem Tree.path_len : ∀ (T : Tree) (i j : Nat), (T.path i j).length ≤ T.depth
  | .leaf _, _, _ => Nat.le_refl 0
  | .node c s t u, i, j => by
    unfold Tree.path Tree.depth
    rw [List.length_cons]
    have h1 := Tree.path_len t i j
    have h2 := Tree.path_len u i j
    generalize (if c then j else i) = z
    split <;> omega
/-! ### the ends -/
abbrev End := List Nat × List Nat × Int
def sel (l : List Nat) (s : List Int) (g : Int) : List Nat := l.filter fun i => decide (gl s i = g)
def Tree.ends : Tree → List Nat → List Nat → List End
  | .leaf a, r, c => [(r, c, a)]
  | .node false s t u, r, c => t.ends (sel r s 0) c ++ u.ends (sel r s 1) c
  | .node true s t u, r, c => t.ends r (sel c s 0) ++ u.ends r (sel c s 1)
/-- what an end adds at a place -/
def at_ (i j : Nat) (e : End) : Int := if i ∈ e.1 ∧ j ∈ e.2.1 then e.2.2 else 0
def tot (i j : Nat) (es : List End) : Int := (es.map (at_ i j)).sum
theorem tot_app (i j : Nat) (a b : List End) : tot i j (a ++ b) = tot i j a + tot i j b := by
  unfold tot
  rw [List.map_append, List.sum_append]
theorem sel_mem {l : List Nat} {s : List Int} {g : Int} {i : Nat} : i ∈ sel l s g ↔ i ∈ l ∧ gl s i = g := by
  unfold sel
  rw [List.mem_filter, decide_eq_true_iff]
/-- nothing where a row or a column is not -/
theorem Tree.ends_out : ∀ (T : Tree) {r c : List Nat} {i j : Nat}, (i ∉ r ∨ j ∉ c) → tot i j (T.ends r c) = 0
  | .leaf a, r, c, i, j, h => by
    show at_ i j (r, c, a) + 0 = 0
    unfold at_
    rw [if_neg (fun z => h.elim (fun q => q z.1) (fun q => q z.2))]
    rfl
  | .node false s t u, r, c, i, j, h => by
    show tot i j (t.ends (sel r s 0) c ++ u.ends (sel r s 1) c) = 0
    rw [tot_app, Tree.ends_out t (h.imp (fun q z => q (sel_mem.mp z).1) id), Tree.ends_out u (h.imp (fun q z => q (sel_mem.mp z).1) id)]
    rfl
  | .node true s t u, r, c, i, j, h => by
    show tot i j (t.ends r (sel c s 0) ++ u.ends r (sel c s 1)) = 0
    rw [tot_app, Tree.ends_out t (h.imp id (fun q z => q (sel_mem.mp z).1)), Tree.ends_out u (h.imp id (fun q z => q (sel_mem.mp z).1))]
    rfl
theorem gl01 {s : List Int} (h : ∀ x ∈ s, x = 0 ∨ x = 1) (i : Nat) : gl s i = 0 ∨ gl s i = 1 := by
  by_cases hi : i < s.length
  · exact h _ (List.mem_of_getElem? (gl_get hi))
  · exact .inl (gl_out (by omega))
/-- the ends' sum is what the tree answers -/
theorem Tree.ends_in {m n : Nat} : ∀ (T : Tree) {r c : List Nat} {i j : Nat}, T.Ok m n → i ∈ r → j ∈ c → tot i j (T.ends r c) = T.ev i j
  | .leaf a, r, c, i, j, _, hi, hj => by
    show at_ i j (r, c, a) + 0 = a
    unfold at_
    rw [if_pos ⟨hi, hj⟩, Int.add_zero]
  | .node false s t u, r, c, i, j, h, hi, hj => by
    show tot i j (t.ends (sel r s 0) c ++ u.ends (sel r s 1) c) = if gl s i = 0 then t.ev i j else u.ev i j
    rw [tot_app]
    rcases gl01 h.2.1 i with e | e
    · rw [if_pos e, Tree.ends_in t h.2.2.1 (sel_mem.mpr ⟨hi, e⟩) hj, Tree.ends_out u (.inl fun z => by have := (sel_mem.mp z).2; omega), Int.add_zero]
    · rw [if_neg (by omega), Tree.ends_in u h.2.2.2 (sel_mem.mpr ⟨hi, e⟩) hj, Tree.ends_out t (.inl fun z => by have := (sel_mem.mp z).2; omega), Int.zero_add]
  | .node true s t u, r, c, i, j, h, hi, hj => by
    show tot i j (t.ends r (sel c s 0) ++ u.ends r (sel c s 1)) = if gl s j = 0 then t.ev i j else u.ev i j
    rw [tot_app]
    rcases gl01 h.2.1 j with e | e
    · rw [if_pos e, Tree.ends_in t h.2.2.1 hi (sel_mem.mpr ⟨hj, e⟩), Tree.ends_out u (.inr fun z => by have := (sel_mem.mp z).2; omega), Int.add_zero]
    · rw [if_neg (by omega), Tree.ends_in u h.2.2.2 hi (sel_mem.mpr ⟨hj, e⟩), Tree.ends_out t (.inr fun z => by have := (sel_mem.mp z).2; omega), Int.zero_add]
/-- the ends that count -/
def fullE (p : Int) (es : List End) : List End := es.filter fun e => !decide (p ∣ e.2.2)
theorem tot_full (p : Int) (i j : Nat) : ∀ es : List End, p ∣ tot i j es - tot i j (fullE p es)
  | [] => by
    show p ∣ (0 : Int) - 0
    exact Int.dvd_zero p
  | e :: es => by
    have ih := tot_full p i j es
    have e1 : tot i j (e :: es) = at_ i j e + tot i j es := rfl
    unfold fullE at ih ⊢
    rw [List.filter_cons, e1]
    by_cases h : p ∣ e.2.2
    · rw [if_neg (by simp [h])]
      have h2 : p ∣ at_ i j e := by
        unfold at_
        split
        · exact h
        · exact Int.dvd_zero p
      have := Int.dvd_add h2 ih
      rwa [show at_ i j e + tot i j es - tot i j (es.filter fun e => !decide (p ∣ e.2.2)) = at_ i j e + (tot i j es - tot i j (es.filter fun e => !decide (p ∣ e.2.2))) by omega]
    · rw [if_pos (by simp [h])]
      have e2 : tot i j (e :: es.filter fun e => !decide (p ∣ e.2.2)) = at_ i j e + tot i j (es.filter fun e => !decide (p ∣ e.2.2)) := rfl
      rw [e2]
      rwa [show at_ i j e + tot i j es - (at_ i j e + tot i j (es.filter fun e => !decide (p ∣ e.2.2))) = tot i j es - tot i j (es.filter fun e => !decide (p ∣ e.2.2)) by omega]
theorem sum_sm' : ∀ (l : List Int), l.sum = sm l.length (gl l)
  | [] => rfl
  | a :: l => by
    rw [List.sum_cons, List.length_cons, Nat.add_comm, sm_split, sum_sm' l]
    show a + _ = (0 + gl (a :: l) 0) + _
    rw [Int.zero_add]
    congr 1
    exact sm_congr fun i _ => by rw [Nat.add_comm]; rfl
/-- no more rank than ends that count -/
theorem gen_tree {p : Int} {m n : Nat} {T : Tree} {A : Mx} (hp : PrI p) (hT : T.Ok m n) (hA : ∀ i j, i < m → j < n → A i j = T.ev i j) : ∃ G, Gen p m n (fullE p (T.ends (List.range m) (List.range n))).length A G := by
  refine ⟨fun l j => if j ∈ ((fullE p (T.ends (List.range m) (List.range n))).getD l ([], [], 0)).2.1 then ((fullE p (T.ends (List.range m) (List.range n))).getD l ([], [], 0)).2.2 else 0,
    gen_pieces hp (c := fun i l => if i ∈ ((fullE p (T.ends (List.range m) (List.range n))).getD l ([], [], 0)).1 then 1 else 0) fun i j hi hj => ?_⟩
  rw [hA i j hi hj, ← Tree.ends_in T hT (List.mem_range.mpr hi) (List.mem_range.mpr hj)]
  have h := tot_full p i j (T.ends (List.range m) (List.range n))
  generalize fullE p (T.ends (List.range m) (List.range n)) = es at h ⊢
  have e : tot i j es = sm es.length (fun l => (if i ∈ (es.getD l ([], [], 0)).1 then 1 else 0) * (if j ∈ (es.getD l ([], [], 0)).2.1 then (es.getD l ([], [], 0)).2.2 else 0)) := by
    unfold tot
    rw [sum_sm', List.length_map]
    refine sm_congr fun l hl => gl_some ?_
    rw [List.getElem?_map, List.getD_eq_getElem?_getD, List.getElem?_eq_getElem hl]
    show some (at_ i j es[l]) = _
    unfold at_
    show _ = some ((if i ∈ es[l].1 then 1 else 0) * (if j ∈ es[l].2.1 then es[l].2.2 else 0))
    by_cases h1 : i ∈ es[l].1 <;> by_cases h2 : j ∈ es[l].2.1 <;> simp [h1, h2]
  rwa [e] at h
/-! ### two trees in one -/
def soF (s : List Int) (k : Nat) : List Int := (s.map fun x => List.replicate k x).flatten
def Tree.second (k l : Nat) (a : Int) : Tree → Tree
  | .leaf b => .leaf (10 * a + b)
  | .node c s t u => .node c (List.replicate (if c then l else k) s).flatten (t.second k l a) (u.second k l a)
def Tree.first (m n k l : Nat) : Tree → Tree → Tree
  | .leaf a, o => o.second m n a
  | .node c s t u, o => .node c (soF s (if c then l else k)) (t.first m n k l o) (u.first m n k l o)
theorem soF_len (s : List Int) (k : Nat) : (soF s k).length = s.length * k := by
  unfold soF
  induction s with
  | nil => simp
  | cons x s ih => rw [List.map_cons, List.flatten_cons, List.length_append, List.length_replicate, ih, List.length_cons, Nat.add_mul, Nat.one_mul, Nat.add_comm]
theorem soF_get {s : List Int} {k i : Nat} (h : i < s.length * k) : gl (soF s k) i = gl s (i / k) := by
  have hk : 0 < k := by
    rcases Nat.eq_zero_or_pos k with z | z
    · subst z; omega
    · exact z
  induction s generalizing i with
  | nil => simp at h
  | cons x s ih =>
    have e : soF (x :: s) k = List.replicate k x ++ soF s k := rfl
    rw [e]
    rw [List.length_cons, Nat.add_mul, Nat.one_mul] at h
    by_cases hi : i < k
    · rw [gl_left (by rw [List.length_replicate]; exact hi), Nat.div_eq_of_lt hi]
      refine gl_some ?_
      rw [List.getElem?_replicate, if_pos hi]
      rfl
    · obtain ⟨d, rfl⟩ := Nat.exists_eq_add_of_le (Nat.le_of_not_lt hi)
      have e2 := gl_right (l := List.replicate k x) (l' := soF s k) d
      rw [List.length_replicate] at e2
      rw [e2, ih (by omega), Nat.add_div_left _ hk]
      rfl
theorem rep_len (s : List Int) (k : Nat) : (List.replicate k s).flatten.length = k * s.length := by simp
theorem rep_get {s : List Int} {k i : Nat} (h : i < k * s.length) : gl (List.replicate k s).flatten i = gl s (i % s.length) := by
  induction k generalizing i with
  | zero => simp at h
  | succ k ih =>
    rw [List.replicate_succ, List.flatten_cons]
    rw [Nat.add_mul, Nat.one_mul] at h
    by_cases hi : i < s.length
    · rw [gl_left hi, Nat.mod_eq_of_lt hi]
    · obtain ⟨d, rfl⟩ := Nat.exists_eq_add_of_le (Nat.le_of_not_lt hi)
      rw [gl_right, ih (by omega), Nat.add_mod_left]
theorem mem_rep {s : List Int} {k : Nat} {x : Int} (h : x ∈ (List.replicate k s).flatten) : x ∈ s := by
  obtain ⟨l, hl, hx⟩ := List.mem_flatten.mp h
  rw [(List.mem_replicate.mp hl).2] at hx
  exact hx
theorem mem_so {s : List Int} {k : Nat} {x : Int} (h : x ∈ soF s k) : x ∈ s := by
  obtain ⟨l, hl, hx⟩ := List.mem_flatten.mp h
  obtain ⟨y, hy, rfl⟩ := List.mem_map.mp hl
  rw [(List.mem_replicate.mp hx).2]
  exact hy
/-- one of m rows and n places, the other of k rows and l places -/
theorem Tree.second_ok {m n k l : Nat} (a : Int) : ∀ (o : Tree), o.Ok k l → (o.second m n a).Ok (m * k) (n * l) ∧ ∀ i j, i < m * k → j < n * l → (o.second m n a).ev i j = 10 * a + o.ev (i % k) (j % l)
  | .leaf b, _ => ⟨trivial, fun _ _ _ _ => rfl⟩
  | .node c s t u, h => by
    obtain ⟨h1, h2, h3, h4⟩ := h
    obtain ⟨t1, t2⟩ := Tree.second_ok (m := m) (n := n) a t h3
    obtain ⟨u1, u2⟩ := Tree.second_ok (m := m) (n := n) a u h4
    refine ⟨⟨?_, fun x hx => h2 x (mem_rep hx), t1, u1⟩, fun i j hi hj => ?_⟩
    · rw [rep_len, h1]
      cases c <;> rfl
    · show (if gl (List.replicate (if c then n else m) s).flatten (if c then j else i) = 0 then (t.second m n a).ev i j else (u.second m n a).ev i j) = 10 * a + if gl s (if c then j % l else i % k) = 0 then t.ev (i % k) (j % l) else u.ev (i % k) (j % l)
      have e : gl (List.replicate (if c then n else m) s).flatten (if c then j else i) = gl s (if c then j % l else i % k) := by
        cases c with
        | false =>
          have h1 : s.length = k := h1
          show gl (List.replicate m s).flatten i = gl s (i % k)
          rw [rep_get (by rw [h1]; exact hi), h1]
        | true =>
          have h1 : s.length = l := h1
          show gl (List.replicate n s).flatten j = gl s (j % l)
          rw [rep_get (by rw [h1]; exact hj), h1]
      rw [e, t2 i j hi hj, u2 i j hi hj]
      generalize (if c then j % l else i % k) = z
      split <;> rfl
theorem Tree.first_ok {m n k l : Nat} {o : Tree} (ho : o.Ok k l) : ∀ (T : Tree), T.Ok m n → (T.first m n k l o).Ok (m * k) (n * l) ∧ ∀ i j, i < m * k → j < n * l → (T.first m n k l o).ev i j = 10 * T.ev (i / k) (j / l) + o.ev (i % k) (j % l)
  | .leaf a, _ => Tree.second_ok a o ho
  | .node c s t u, h => by
    obtain ⟨h1, h2, h3, h4⟩ := h
    obtain ⟨t1, t2⟩ := Tree.first_ok ho t h3
    obtain ⟨u1, u2⟩ := Tree.first_ok ho u h4
    refine ⟨⟨?_, fun x hx => h2 x (mem_so hx), t1, u1⟩, fun i j hi hj => ?_⟩
    · rw [soF_len, h1]
      cases c <;> rfl
    · show (if gl (soF s (if c then l else k)) (if c then j else i) = 0 then (t.first m n k l o).ev i j else (u.first m n k l o).ev i j) = 10 * (if gl s (if c then j / l else i / k) = 0 then t.ev (i / k) (j / l) else u.ev (i / k) (j / l)) + o.ev (i % k) (j % l)
      have e : gl (soF s (if c then l else k)) (if c then j else i) = gl s (if c then j / l else i / k) := by
        cases c with
        | false =>
          have h1 : s.length = m := h1
          exact soF_get (by rw [h1]; exact hi)
        | true =>
          have h1 : s.length = n := h1
          exact soF_get (by rw [h1]; exact hj)
      rw [e, t2 i j hi hj, u2 i j hi hj]
      generalize (if c then j / l else i / k) = z
      split <;> rfl
theorem Tree.second_depth (k l : Nat) (a : Int) : ∀ o : Tree, (o.second k l a).depth = o.depth
  | .leaf _ => rfl
  | .node c s t u => by
    show max (t.second k l a).depth (u.second k l a).depth + 1 = max t.depth u.depth + 1
    rw [Tree.second_depth k l a t, Tree.second_depth k l a u]
theorem Tree.first_depth (m n k l : Nat) (o : Tree) : ∀ T : Tree, (T.first m n k l o).depth ≤ T.depth + o.depth
  | .leaf a => by
    show (o.second m n a).depth ≤ 0 + o.depth
    rw [Tree.second_depth]; omega
  | .node c s t u => by
    show max (t.first m n k l o).depth (u.first m n k l o).depth + 1 ≤ max t.depth u.depth + 1 + o.depth
    have h1 := Tree.first_depth m n k l o t
    have h2 := Tree.first_depth m n k l o u
    omega
end Tf
end
section
set_option maxHeartbeats 1000000
/-! A layer over HandS: expressions by what plain data they give, blocks by what stands in the slots. -/
namespace Tf
open PySem PySem.Spec PyProof.Rows L2
abbrev D := PyData
abbrev Ws := Addr → Prop
/-! ### hidden addresses -/
open Classical in
noncomputable def hide (W : Ws) (H : Hp) : Hp := fun a => if W a then none else H a
section
variable {W W' : Ws} {H H' : Hp} {a l : Addr} {o : HO}
theorem hide_no (h : W a) : hide W H a = none := if_pos h
theorem hide_at (h : ¬ W a) : hide W H a = H a := if_neg h
theorem hide_some (h : hide W H a = some o) : ¬ W a ∧ H a = some o := by
  unfold hide at h
  split at h
  · cases h
  · next hn => exact ⟨hn, h⟩
theorem hide_same (e : Same H H') : Same (hide W H) (hide W H') := fun b u h => by
  obtain ⟨h1, h2⟩ := hide_some h
  rw [hide_at h1]
  exact e b u h2
theorem hide_sub (s : ∀ a, W a → W' a) : Same (hide W' H) (hide W H) := fun b u h => by
  obtain ⟨h1, h2⟩ := hide_some h
  rw [hide_at fun z => h1 (s b z)]
  exact h2
theorem hide_le : Same (hide W H) H := fun b u h => (hide_some h).2
theorem hide_mut (h : W a) : hide W (upd H a o) = hide W H := by
  funext b
  unfold hide
  split
  · rfl
  · next hn => exact upd_ne fun e => hn (by rw [e]; exact h)
theorem hide_add (hn : H l = none) : hide (fun a => W a ∨ a = l) (upd H l o) = hide W H := by
  funext b
  by_cases e : b = l
  · subst e
    rw [hide_no (.inr rfl)]
    by_cases hw : W b
    · rw [hide_no hw]
    · rw [hide_at hw, hn]
  · by_cases hw : W b
    · rw [hide_no (.inl hw), hide_no hw]
    · rw [hide_at (by rintro (z | z); exact hw z; exact e z), hide_at hw, upd_ne e]
theorem same_new (h : H a = none) : Same H (upd H a o) := fun b x e => by
  rw [upd_ne (ne_of_none e h)]
  exact e
theorem same_none (e : Same H H') (h : H' a = none) : H a = none := e.free h
theorem same_ne (e : Same H H') (h : H a ≠ none) : H' a ≠ none := by
  cases q : H a with
  | none => exact absurd q h
  | some o => rw [e a o q]; exact fun z => nomatch z
end
theorem seqT_same {K : PySem.W.Frag} {H H' : Hp} {a : Addr} {xs : List V} (e : Same H H') (h : SqT K H a xs) : SqT K H' a xs := by
  rcases h with (h | ⟨o, h⟩) | h
  · exact .inl (.inl (e _ _ h))
  · exact .inl (.inr ⟨o, e _ _ h⟩)
  · exact .inr h
/-! ### what plain data a value is: lists are tracked, tuples are read -/
mutual
inductive Is (K : PySem.W.Frag) (H : Hp) : V → D → Prop
  | non : Is K H .non .none
  | bl (b : Bool) : Is K H (.bl b) (.bool b)
  | int (i : Int) : Is K H (.int i) (.int i)
  | str (x : Str) : Is K H (.str x) (.str x)
  | lst {a : Addr} {xs : List V} {ds : List D} : H a = some (.lst xs) → IsA K H xs ds → Is K H (.ref a) (.list ds)
  | tup {a : Addr} {xs : List V} {ds : List D} : SqT K H a xs → IsA K H xs ds → Is K H (.ref a) (.tuple ds)
  /-- a dict of texts and ints, that is read -/
  | dct {a : Addr} {kvs : List (Str × Int)} : H a = some (.dK (kvs.map fun p => (Sum.inr p.1, V.int p.2))) → Is K H (.ref a) (.dict (kvs.map fun p => (PyData.str p.1, PyData.int p.2)))
inductive IsA (K : PySem.W.Frag) (H : Hp) : List V → List D → Prop
  | nil : IsA K H [] []
  | cons {v : V} {vs : List V} {d : D} {ds : List D} : Is K H v d → IsA K H vs ds → IsA K H (v :: vs) (d :: ds)
end
mutual
theorem Is.dp {K : PySem.W.Frag} {H : Hp} : ∀ {v : V} {d : D}, Is K H v d → d.canLay0 = true → Dp K H v d
  | _, _, .non, _ => .non
  | _, _, .bl b, _ => .bl b
  | _, _, .int i, _ => .int i
  | _, _, .str x, _ => .str x
  | _, _, .lst h a, c => .lst (.inl (.inl h)) (IsA.dp a (by simpa only [PyData.canLay0] using c))
  | _, _, .tup h a, c => .tup h (IsA.dp a (by simpa only [PyData.canLay0] using c))
  | _, _, .dct _, c => by simp only [PyData.canLay0] at c; cases c
theorem IsA.dp {K : PySem.W.Frag} {H : Hp} : ∀ {vs : List V} {ds : List D}, IsA K H vs ds → PyData.canLayAll0 ds = true → DpAll K H vs ds
  | _, _, .nil, _ => .nil
  | _, _, .cons h t, c => by
    simp only [PyData.canLayAll0, Bool.and_eq_true] at c
    exact .cons (Is.dp h c.1) (IsA.dp t c.2)
end
mutual
theorem dp_same {K : PySem.W.Frag} {H H' : Hp} (e : Same H H') : ∀ {v : V} {d : D}, Is K H v d → Is K H' v d
  | _, _, .non => .non
  | _, _, .bl b => .bl b
  | _, _, .int i => .int i
  | _, _, .str x => .str x
  | _, _, .lst h a => .lst (e _ _ h) (dpa_same e a)
  | _, _, .tup h a => .tup (seqT_same e h) (dpa_same e a)
  | _, _, .dct h => .dct (e _ _ h)
theorem dpa_same {K : PySem.W.Frag} {H H' : Hp} (e : Same H H') : ∀ {vs : List V} {ds : List D}, IsA K H vs ds → IsA K H' vs ds
  | _, _, .nil => .nil
  | _, _, .cons h t => .cons (dp_same e h) (dpa_same e t)
end
section
variable {K : PySem.W.Frag} {H : Hp}
theorem dpa_len : ∀ {vs : List V} {ds : List D}, IsA K H vs ds → vs.length = ds.length
  | _, _, .nil => rfl
  | _, _, .cons _ t => congrArg Nat.succ (dpa_len t)
theorem dpa_get : ∀ {vs : List V} {ds : List D} {i : Nat} {d : D}, IsA K H vs ds → ds[i]? = some d → ∃ v, vs[i]? = some v ∧ Is K H v d
  | _, _, _, _, .nil, h => by simp at h
  | _, _, 0, d, .cons h t, e => by
    simp at e
    subst e
    exact ⟨_, rfl, h⟩
  | _, _, i + 1, d, .cons h t, e => by
    obtain ⟨v, h1, h2⟩ := dpa_get (i := i) (d := d) t (by simpa using e)
    exact ⟨v, by simpa using h1, h2⟩
theorem dpa_get' : ∀ {vs : List V} {ds : List D} {i : Nat} {v : V}, IsA K H vs ds → vs[i]? = some v → ∃ d, ds[i]? = some d ∧ Is K H v d
  | _, _, _, _, .nil, h => by simp at h
  | _, _, 0, d, .cons h t, e => by
    simp at e
    subst e
    exact ⟨_, rfl, h⟩
  | _, _, i + 1, d, .cons h t, e => by
    obtain ⟨v, h1, h2⟩ := dpa_get' (i := i) (v := d) t (by simpa using e)
    exact ⟨v, by simpa using h1, h2⟩
theorem dpa_app : ∀ {vs ws : List V} {ds es : List D}, IsA K H vs ds → IsA K H ws es → IsA K H (vs ++ ws) (ds ++ es)
  | _, _, _, _, .nil, h => h
  | _, _, _, _, .cons h t, r => .cons h (dpa_app t r)
theorem dpa_set {v : V} {d : D} (hv : Is K H v d) : ∀ {vs : List V} {ds : List D} (i : Nat), IsA K H vs ds → IsA K H (vs.set i v) (ds.set i d)
  | _, _, _, .nil => .nil
  | _, _, 0, .cons _ t => .cons hv t
  | _, _, i + 1, .cons h t => .cons h (dpa_set hv i t)
theorem dpa_take : ∀ {vs : List V} {ds : List D} (n : Nat), IsA K H vs ds → IsA K H (vs.take n) (ds.take n)
  | _, _, 0, _ => .nil
  | _, _, _ + 1, .nil => .nil
  | _, _, n + 1, .cons h t => .cons h (dpa_take n t)
theorem dpa_drop : ∀ {vs : List V} {ds : List D} (n : Nat), IsA K H vs ds → IsA K H (vs.drop n) (ds.drop n)
  | _, _, 0, h => h
  | _, _, _ + 1, .nil => .nil
  | _, _, n + 1, .cons _ t => dpa_drop n t
theorem dpa_ints : ∀ {vs : List V} {ns : List Int}, IsA K H vs (ns.map PyData.int) → vs = ns.map V.int
  | _, [], .nil => rfl
  | _, n :: ns, .cons h t => by
    cases h
    rw [dpa_ints t] <;> rfl
theorem dpa_of_ints : ∀ ns : List Int, IsA K H (ns.map V.int) (ns.map PyData.int)
  | [] => .nil
  | n :: ns => .cons (.int n) (dpa_of_ints ns)
theorem dpa_rep {vs : List V} {ds : List D} (h : IsA K H vs ds) : ∀ k : Nat, IsA K H (List.replicate k vs).flatten (List.replicate k ds).flatten
  | 0 => .nil
  | k + 1 => by
    rw [List.replicate_succ, List.replicate_succ, List.flatten_cons, List.flatten_cons]
    exact dpa_app h (dpa_rep h k)
theorem dp_int_inv {v : V} {i : Int} (h : Is K H v (.int i)) : v = .int i := by cases h; rfl
theorem dp_bl_inv {v : V} {b : Bool} (h : Is K H v (.bool b)) : v = .bl b := by cases h; rfl
theorem dp_str_inv {v : V} {x : Str} (h : Is K H v (.str x)) : v = .str x := by cases h; rfl
theorem dp_non_inv {v : V} (h : Is K H v .none) : v = .non := by cases h; rfl
theorem dp_lst_inv {v : V} {ds : List D} (h : Is K H v (.list ds)) : ∃ a vs, v = .ref a ∧ H a = some (.lst vs) ∧ IsA K H vs ds := by
  cases h with
  | lst h1 h2 => exact ⟨_, _, rfl, h1, h2⟩
theorem dp_tup_inv {v : V} {ds : List D} (h : Is K H v (.tuple ds)) : ∃ a vs, v = .ref a ∧ SqT K H a vs ∧ IsA K H vs ds := by
  cases h with
  | tup h1 h2 => exact ⟨_, _, rfl, h1, h2⟩
end
/-! ### what stands in a slot -/
inductive Sl where
  | any
  | val (d : D)
  /-- a list of one's own, that may be changed -/
  | lst (xs : List D)
  /-- a list of a caller's, that is read -/
  | ro (xs : List D)
  /-- the dict of draws: at most b of them were made, its cells stand at c -/
  | well (b k : Nat) (w c : Addr)
  /-- a function that a def made -/
  | fn (mk : Addr → NdefX.NF)
  /-- a list of one's own at a known address -/
  | own (l : Addr) (xs : List D)
  /-- the script -/
  | scr (ns : List Int)
/-- a frame: what is hidden at the entry (W), what of it may change (L), the heap at the entry, tables of code objects -/
structure Fc where
  K : PySem.W.Frag
  W : Ws
  L : Ws
  H : Hp
  T : List NdefX.NTab
def slot (σ : L2.St) (i : Nat) : Option V := (σ[i]?).join
theorem slot_some {σ : L2.St} {i : Nat} {v : V} (h : slot σ i = some v) : σ[i]? = some (some v) := by
  unfold slot at h
  cases e : σ[i]? with
  | none => rw [e] at h; cases h
  | some o =>
    rw [e] at h
    have h : o = some v := h
    rw [h]
theorem slot_of {σ : L2.St} {i : Nat} {v : V} (h : σ[i]? = some (some v)) : slot σ i = some v := by unfold slot; rw [h]; rfl
theorem slot_set_ne {σ : L2.St} {i j : Nat} {o : Option V} (h : j ≠ i) : slot (σ.set i o) j = slot σ j := by
  unfold slot
  rw [List.getElem?_set_ne h.symm]
theorem slot_set_eq {σ : L2.St} {i : Nat} {o : Option V} (h : i < σ.length) : slot (σ.set i o) i = o := by
  unfold slot
  rw [List.getElem?_set_self h]; rfl
def wellD (c : Addr) (seed at_ : Int) : HO := .dK [(Sum.inr "cells", .ref c), (Sum.inr "seed", .int seed), (Sum.inr "at", .int at_)]
def SlOk (F : Fc) (W : Ws) (H : Hp) : Sl → Option V → Prop
  | .any, _ => True
  | .val d, o => ∃ v, o = some v ∧ Is F.K (hide W H) v d
  | .lst xs, o => ∃ l vs, o = some (.ref l) ∧ W l ∧ H l = some (.lst vs) ∧ IsA F.K (hide W H) vs xs
  | .ro xs, o => ∃ l vs, o = some (.ref l) ∧ (W l ∧ F.W l ∧ ¬ F.L l) ∧ H l = some (.lst vs) ∧ IsA F.K (hide W H) vs xs
  | .fn mk, o => ∃ f c, o = some (.ref f) ∧ hide W H f = some (NdefX.FnO f (mk c)) ∧ H (mk c).c = some (LamX.CodeO (mk c).c (mk c).qual)
  | .own l xs, o => ∃ vs, o = some (.ref l) ∧ W l ∧ H l = some (.lst vs) ∧ IsA F.K (hide W H) vs xs
  | .well b k w c, o => ∃ (cs : List Int) (seed at_ : Int), o = some (.ref w) ∧ W w ∧ W c ∧ w ≠ c ∧ H w = some (wellD c seed at_) ∧ H c = some (.lst (cs.map V.int)) ∧ cs.length ≤ k ∧ 0 ≤ at_ ∧ at_ ≤ (b : Int) ∧ 0 ≤ seed ∧ seed ≤ 2 ^ 40
  | .scr ns, o => ∃ a, o = some (.ref a) ∧ SqL F.K (hide W H) a (ns.map V.int)
def Own : Sl → Option V → Addr → Prop
  | .lst _, o, a => o = some (.ref a)
  | .own _ _, o, a => o = some (.ref a)
  | .well _ _ _ c, o, a => o = some (.ref a) ∨ a = c
  | _, _, _ => False
structure At (F : Fc) (W : Ws) (env : List Sl) (σ : L2.St) (H : Hp) : Prop where
  sub : ∀ a, F.W a → W a
  dom : ∀ a, W a → H a ≠ none
  ent : ∀ a, F.W a → F.H a ≠ none
  new : ∀ a, W a → F.W a ∨ F.H a = none
  low : ∀ a, F.L a → F.W a
  frm : ∀ a o, ¬ F.L a → F.H a = some o → H a = some o
  tab : NdefX.TabsN F.T H
  tin : ∀ p ∈ F.T, F.L p.1
  len : σ.length = env.length
  ok : ∀ i s, env[i]? = some s → SlOk F W H s (slot σ i)
  wr : ∀ i s a, env[i]? = some s → Own s (slot σ i) a → F.H a = none ∨ F.L a
  sep : ∀ i j s t a, i ≠ j → env[i]? = some s → env[j]? = some t → Own s (slot σ i) a → Own t (slot σ j) a → False
  tsep : ∀ p ∈ F.T, ∀ i s, env[i]? = some s → ¬ Own s (slot σ i) p.1
section
variable {F : Fc} {W : Ws} {env : List Sl} {σ : L2.St} {H H' : Hp}
theorem SlOk.same {s : Sl} {o : Option V} (e : Same H H') (h : SlOk F W H s o) : SlOk F W H' s o := by
  cases s with
  | any => trivial
  | val d =>
    obtain ⟨v, h1, h2⟩ := h
    exact ⟨v, h1, dp_same (hide_same e) h2⟩
  | lst xs =>
    obtain ⟨l, vs, h1, h2, h3, h4⟩ := h
    exact ⟨l, vs, h1, h2, e _ _ h3, dpa_same (hide_same e) h4⟩
  | ro xs =>
    obtain ⟨l, vs, h1, h2, h3, h4⟩ := h
    exact ⟨l, vs, h1, h2, e _ _ h3, dpa_same (hide_same e) h4⟩
  | fn mk =>
    obtain ⟨f, c, h1, h2, h3⟩ := h
    exact ⟨f, c, h1, hide_same e _ _ h2, e _ _ h3⟩
  | own m xs =>
    obtain ⟨vs, h1, h2, h3, h4⟩ := h
    exact ⟨vs, h1, h2, e _ _ h3, dpa_same (hide_same e) h4⟩
  | well b k w c =>
    obtain ⟨cs, seed, at_, h1, h2, h3, h4, h5, h6, h7⟩ := h
    exact ⟨cs, seed, at_, h1, h2, h3, h4, e _ _ h5, e _ _ h6, h7⟩
  | scr ns =>
    obtain ⟨a, h1, h2⟩ := h
    exact ⟨a, h1, (hide_same e).seq h2⟩
theorem At.same (A : At F W env σ H) (e : Same H H') : At F W env σ H' :=
  ⟨A.sub, fun a h => same_ne e (A.dom a h), A.ent, A.new, A.low, fun a o h1 h2 => e _ _ (A.frm a o h1 h2), A.tab.ext e, A.tin, A.len, fun i s h => (A.ok i s h).same e, A.wr, A.sep, A.tsep⟩
theorem At.val (A : At F W env σ H) {i : Nat} {d : D} (h : env[i]? = some (.val d)) : ∃ v, σ[i]? = some (some v) ∧ Is F.K (hide W H) v d := by
  obtain ⟨v, h1, h2⟩ := A.ok i _ h
  exact ⟨v, slot_some h1, h2⟩
theorem env_set {α : Type} {env : List α} {i j : Nat} {s t : α} (h : (env.set i s)[j]? = some t) : (j = i ∧ t = s ∧ i < env.length) ∨ (j ≠ i ∧ env[j]? = some t) := by
  by_cases e : j = i
  · subst e
    by_cases hl : j < env.length
    · rw [List.getElem?_set_self hl] at h
      exact .inl ⟨rfl, (Option.some.inj h).symm, hl⟩
    · rw [List.getElem?_eq_none (by simpa using hl)] at h
      cases h
  · rw [List.getElem?_set_ne (Ne.symm e)] at h
    exact .inr ⟨e, h⟩
/-- a slot is stored; W, H as they were -/
theorem At.store (A : At F W env σ H) {i : Nat} {s : Sl} {o : Option V} (hok : SlOk F W H s o) (hown : ∀ a, ¬ Own s o a) : At F W (env.set i s) (σ.set i o) H := by
  refine ⟨A.sub, A.dom, A.ent, A.new, A.low, A.frm, A.tab, A.tin, by simpa using A.len, fun j t h => ?_, fun j t a h ho => ?_, fun j k t u a hjk h1 h2 o1 o2 => ?_, fun p hp j t h ho => ?_⟩
  · rcases env_set h with ⟨rfl, rfl, hl⟩ | ⟨hne, h⟩
    · rw [slot_set_eq (by rw [A.len]; exact hl)]
      exact hok
    · rw [slot_set_ne hne]
      exact A.ok j t h
  · rcases env_set h with ⟨rfl, rfl, hl⟩ | ⟨hne, h⟩
    · rw [slot_set_eq (by rw [A.len]; exact hl)] at ho
      exact absurd ho (hown a)
    · rw [slot_set_ne hne] at ho
      exact A.wr j t a h ho
  · rcases env_set h1 with ⟨rfl, rfl, hl⟩ | ⟨hne, h1⟩
    · rw [slot_set_eq (by rw [A.len]; exact hl)] at o1
      exact hown a o1
    · rcases env_set h2 with ⟨rfl, rfl, hl⟩ | ⟨hne2, h2⟩
      · rw [slot_set_eq (by rw [A.len]; exact hl)] at o2
        exact hown a o2
      · rw [slot_set_ne hne] at o1
        rw [slot_set_ne hne2] at o2
        exact A.sep j k t u a hjk h1 h2 o1 o2
  · rcases env_set h with ⟨rfl, rfl, hl⟩ | ⟨hne, h⟩
    · rw [slot_set_eq (by rw [A.len]; exact hl)] at ho
      exact hown _ ho
    · rw [slot_set_ne hne] at ho
      exact A.tsep p hp j t h ho
theorem At.setv (A : At F W env σ H) {i : Nat} {v : V} {d : D} (h : Is F.K (hide W H) v d) : At F W (env.set i (.val d)) (σ.set i (some v)) H := A.store ⟨v, rfl, h⟩ fun _ z => z
theorem At.wipe1 (A : At F W env σ H) (i : Nat) : At F W (env.set i .any) (σ.set i none) H := A.store trivial fun _ z => z
/-- told less of the slots -/
def Weak : List Sl → List Sl → Prop
  | [], [] => True
  | a :: as, b :: bs => (b = .any ∨ a = b) ∧ Weak as bs
  | _, _ => False
theorem weak_get : ∀ {e1 e2 : List Sl}, Weak e1 e2 → e1.length = e2.length ∧ ∀ (i : Nat) (s : Sl), e2[i]? = some s → s = .any ∨ e1[i]? = some s
  | [], [], _ => ⟨rfl, fun i s h => by simp at h⟩
  | a :: as, b :: bs, ⟨h1, h2⟩ => by
    obtain ⟨l, g⟩ := weak_get h2
    refine ⟨congrArg Nat.succ l, fun i s h => ?_⟩
    cases i with
    | zero =>
      simp at h
      subst h
      rcases h1 with h1 | h1
      · exact .inl h1
      · exact .inr (by rw [h1]; rfl)
    | succ i =>
      rcases g i s (by simpa using h) with h | h
      · exact .inl h
      · exact .inr (by simpa using h)
  | [], _ :: _, h => h.elim
  | _ :: _, [], h => h.elim
theorem At.weak {env' : List Sl} (A : At F W env σ H) (w : Weak env env') : At F W env' σ H := by
  obtain ⟨l, g⟩ := weak_get w
  refine ⟨A.sub, A.dom, A.ent, A.new, A.low, A.frm, A.tab, A.tin, A.len.trans l, fun j t h => ?_, fun j t a h ho => ?_, fun j k t u a hjk h1 h2 o1 o2 => ?_, fun p hp j t h ho => ?_⟩
  · rcases g j t h with rfl | h
    · trivial
    · exact A.ok j t h
  · rcases g j t h with rfl | h
    · exact ho.elim
    · exact A.wr j t a h ho
  · rcases g j t h1 with rfl | h1
    · exact o1.elim
    · rcases g k u h2 with rfl | h2
      · exact o2.elim
      · exact A.sep j k t u a hjk h1 h2 o1 o2
  · rcases g j t h with rfl | h
    · exact ho.elim
    · exact A.tsep p hp j t h ho
/-- an address that stands nowhere was nothing at the entry -/
theorem At.fresh (A : At F W env σ H) {l : Addr} (h : H l = none) : F.H l = none ∧ ¬ W l := by
  have nW : ¬ W l := fun z => A.dom l z h
  refine ⟨?_, nW⟩
  cases e : F.H l with
  | none => rfl
  | some o =>
    by_cases hL : F.L l
    · exact absurd (A.sub l (A.low l hL)) nW
    · have := A.frm l o hL e
      rw [h] at this
      cases this
theorem own_dom {s : Sl} {o : Option V} {a : Addr} (h : SlOk F W H s o) (ho : Own s o a) : W a ∧ H a ≠ none := by
  cases s with
  | any => exact ho.elim
  | val d => exact ho.elim
  | ro xs => exact ho.elim
  | scr ns => exact ho.elim
  | fn mk => exact ho.elim
  | lst xs =>
    obtain ⟨l, vs, h1, h2, h3, h4⟩ := h
    have ho : o = some (.ref a) := ho
    rw [h1] at ho
    cases ho
    exact ⟨h2, by rw [h3]; exact fun z => nomatch z⟩
  | own m xs =>
    obtain ⟨vs, h1, h2, h3, h4⟩ := h
    have ho : o = some (.ref a) := ho
    rw [h1] at ho
    cases ho
    exact ⟨h2, by rw [h3]; exact fun z => nomatch z⟩
  | well b k w c =>
    obtain ⟨cs, seed, at_, h1, h2, h3, h4, h5, h6, h7⟩ := h
    rcases ho with ho | ho
    · rw [h1] at ho
      cases ho
      exact ⟨h2, by rw [h5]; exact fun z => nomatch z⟩
    · subst ho
      exact ⟨h3, by rw [h6]; exact fun z => nomatch z⟩
/-- the hidden addresses may be one more: a new list -/
theorem SlOk.more {s : Sl} {o : Option V} {l : Addr} {u : HO} (hn : H l = none) (h : SlOk F W H s o) : SlOk F (fun a => W a ∨ a = l) (upd H l u) s o := by
  have e := same_new (o := u) hn
  cases s with
  | any => trivial
  | val d =>
    obtain ⟨v, h1, h2⟩ := h
    exact ⟨v, h1, by rw [hide_add hn]; exact h2⟩
  | lst xs =>
    obtain ⟨m, vs, h1, h2, h3, h4⟩ := h
    exact ⟨m, vs, h1, .inl h2, e _ _ h3, by rw [hide_add hn]; exact h4⟩
  | ro xs =>
    obtain ⟨m, vs, h1, h2, h3, h4⟩ := h
    exact ⟨m, vs, h1, ⟨.inl h2.1, h2.2⟩, e _ _ h3, by rw [hide_add hn]; exact h4⟩
  | fn mk =>
    obtain ⟨f, c, h1, h2, h3⟩ := h
    exact ⟨f, c, h1, by rw [hide_add hn]; exact h2, e _ _ h3⟩
  | own m xs =>
    obtain ⟨vs, h1, h2, h3, h4⟩ := h
    exact ⟨vs, h1, .inl h2, e _ _ h3, by rw [hide_add hn]; exact h4⟩
  | well b k w c =>
    obtain ⟨cs, seed, at_, h1, h2, h3, h4, h5, h6, h7⟩ := h
    exact ⟨cs, seed, at_, h1, .inl h2, .inl h3, h4, e _ _ h5, e _ _ h6, h7⟩
  | scr ns =>
    obtain ⟨a, h1, h2⟩ := h
    exact ⟨a, h1, by rw [hide_add hn]; exact h2⟩
theorem At.more (A : At F W env σ H) {l : Addr} {u : HO} (hn : H l = none) : At F (fun a => W a ∨ a = l) env σ (upd H l u) := by
  obtain ⟨f0, nW⟩ := A.fresh hn
  refine ⟨fun a h => .inl (A.sub a h), fun a h => ?_, A.ent, fun a h => ?_, A.low, fun a o h1 h2 => same_new hn _ _ (A.frm a o h1 h2), A.tab.ext (same_new hn), A.tin, A.len, fun i s h => (A.ok i s h).more hn, A.wr, A.sep, A.tsep⟩
  · rcases h with h | h
    · exact same_ne (same_new hn) (A.dom a h)
    · subst h
      rw [upd_same]
      exact fun z => nomatch z
  · rcases h with h | h
    · exact A.new a h
    · subst h
      exact .inr f0
/-- a new list of one's own in a slot -/
theorem At.newmut (A : At F W env σ H) {i : Nat} {l : Addr} {vs : List V} {xs : List D} (hn : H l = none) (hd : IsA F.K (hide W H) vs xs) :
    At F (fun a => W a ∨ a = l) (env.set i (.lst xs)) (σ.set i (some (.ref l))) (upd H l (.lst vs)) := by
  obtain ⟨f0, nW⟩ := A.fresh hn
  have B := A.more (u := .lst vs) hn
  have fr : ∀ j t, env[j]? = some t → ¬ Own t (slot σ j) l := fun j t h ho => nW (own_dom (A.ok j t h) ho).1
  refine ⟨B.sub, B.dom, B.ent, B.new, B.low, B.frm, B.tab, B.tin, by simpa using B.len, fun j t h => ?_, fun j t a h ho => ?_, fun j k t u a hjk h1 h2 o1 o2 => ?_, fun p hp j t h ho => ?_⟩
  · rcases env_set h with ⟨rfl, rfl, hl⟩ | ⟨hne, h⟩
    · rw [slot_set_eq (by rw [A.len]; exact hl)]
      exact ⟨l, vs, rfl, .inr rfl, upd_same, by rw [hide_add hn]; exact hd⟩
    · rw [slot_set_ne hne]
      exact B.ok j t h
  · rcases env_set h with ⟨rfl, rfl, hl⟩ | ⟨hne, h⟩
    · rw [slot_set_eq (by rw [A.len]; exact hl)] at ho
      cases ho
      exact .inl f0
    · rw [slot_set_ne hne] at ho
      exact B.wr j t a h ho
  · rcases env_set h1 with ⟨rfl, rfl, hl⟩ | ⟨hne, g1⟩
    · rw [slot_set_eq (by rw [A.len]; exact hl)] at o1
      cases o1
      rcases env_set h2 with ⟨rfl, rfl, hl2⟩ | ⟨hne2, h2⟩
      · exact hjk rfl
      · rw [slot_set_ne hne2] at o2
        exact fr k u h2 o2
    · rw [slot_set_ne hne] at o1
      rcases env_set h2 with ⟨e1, e2, hl⟩ | ⟨hne2, h2⟩
      · subst e1 e2
        rw [slot_set_eq (by rw [A.len]; exact hl)] at o2
        cases o2
        exact fr j t g1 o1
      · rw [slot_set_ne hne2] at o2
        exact A.sep j k t u a hjk g1 h2 o1 o2
  · rcases env_set h with ⟨rfl, rfl, hl⟩ | ⟨hne, h⟩
    · rw [slot_set_eq (by rw [A.len]; exact hl)] at ho
      cases ho
      exact nW (A.sub _ (A.low _ (A.tin p hp)))
    · rw [slot_set_ne hne] at ho
      exact A.tsep p hp j t h ho
/-- a list of one's own is changed -/
theorem At.turnG (A : At F W env σ H) {i : Nat} {l : Addr} {xs ys : List D} {vs : List V} {s0 s1 : Sl} (q0 : s0 = .lst xs ∨ s0 = .own l xs) (q1 : s1 = .lst ys ∨ s1 = .own l ys) (h : env[i]? = some s0) (hs : slot σ i = some (.ref l)) (hd : IsA F.K (hide W H) vs ys) : At F W (env.set i s1) σ (upd H l (.lst vs)) := by
  have ow0 : ∀ o a, Own s0 o a ↔ o = some (.ref a) := fun o a => by rcases q0 with rfl | rfl <;> exact Iff.rfl
  have ow1 : ∀ o a, Own s1 o a ↔ o = some (.ref a) := fun o a => by rcases q1 with rfl | rfl <;> exact Iff.rfl
  obtain ⟨vs', hW, hH⟩ : ∃ vs', W l ∧ H l = some (.lst vs') := by
    have hk := A.ok i _ h
    rcases q0 with rfl | rfl
    · obtain ⟨l', vs', e1, hW, hH, _⟩ := hk
      rw [hs] at e1
      cases e1
      exact ⟨vs', hW, hH⟩
    · obtain ⟨vs', e1, hW, hH, _⟩ := hk
      exact ⟨vs', hW, hH⟩
  have hm := hide_mut (H := H) (o := .lst vs) hW
  have ne : ∀ b o, b ≠ l → H b = some o → (upd H l (.lst vs)) b = some o := fun b o hb e => by rw [upd_ne hb]; exact e
  refine ⟨A.sub, fun a ha => ?_, A.ent, A.new, A.low, fun a o h1 h2 => ?_, fun p hp => ?_, A.tin, by simpa using A.len, fun j t hj => ?_, fun j t a hj ho => ?_, fun j k t u a hjk h1 h2 o1 o2 => ?_, fun p hp j t hj ho => ?_⟩
  · by_cases e : a = l
    · subst e; rw [upd_same]; exact fun z => nomatch z
    · rw [upd_ne e]; exact A.dom a ha
  · have hne : a ≠ l := fun e => by
      subst e
      rcases A.wr i _ a h ((ow0 _ _).mpr hs) with z | z
      · rw [z] at h2; cases h2
      · exact h1 z
    exact ne a o hne (A.frm a o h1 h2)
  · have hne : p.1 ≠ l := fun e => A.tsep p hp i _ h ((ow0 _ _).mpr (by rw [e]; exact hs))
    obtain ⟨ps, t1, t2, t3⟩ := A.tab p hp
    refine ⟨ps, ne _ _ hne t1, t2, fun pos cv hc => ?_⟩
    obtain ⟨c, e1, e2⟩ := t3 pos cv hc
    refine ⟨c, e1, ne _ _ (fun e => ?_) e2⟩
    rw [e, hH] at e2
    cases e2
  · rcases env_set hj with ⟨rfl, rfl, hl⟩ | ⟨hne, hj⟩
    · rcases q1 with rfl | rfl
      · exact ⟨l, vs, hs, hW, upd_same, by rw [hm]; exact hd⟩
      · exact ⟨vs, hs, hW, upd_same, by rw [hm]; exact hd⟩
    · have hok := A.ok j t hj
      cases t with
      | any => trivial
      | val d =>
        obtain ⟨v, h1, h2⟩ := hok
        exact ⟨v, h1, by rw [hm]; exact h2⟩
      | lst zs =>
        obtain ⟨m, ws, h1, h2, h3, h4⟩ := hok
        have : m ≠ l := fun e => A.sep j i _ _ l hne hj h (by rw [h1, e]; rfl) ((ow0 _ _).mpr hs)
        exact ⟨m, ws, h1, h2, ne _ _ this h3, by rw [hm]; exact h4⟩
      | ro zs =>
        obtain ⟨m, ws, h1, h2, h3, h4⟩ := hok
        refine ⟨m, ws, h1, h2, ne _ _ (fun e => ?_) h3, by rw [hm]; exact h4⟩
        subst e
        rcases A.wr i _ m h ((ow0 _ _).mpr hs) with z | z
        · exact A.ent m h2.2.1 z
        · exact h2.2.2 z
      | fn mk =>
        obtain ⟨f, c, h1, h2, h3⟩ := hok
        exact ⟨f, c, h1, by rw [hm]; exact h2, ne _ _ (fun z => by rw [z, hH] at h3; cases h3) h3⟩
      | own m zs =>
        obtain ⟨ws, h1, h2, h3, h4⟩ := hok
        have : m ≠ l := fun e => A.sep j i _ _ l hne hj h (by rw [h1, e]; rfl) ((ow0 _ _).mpr hs)
        exact ⟨ws, h1, h2, ne _ _ this h3, by rw [hm]; exact h4⟩
      | well b k w c =>
        obtain ⟨cs, seed, at_, h1, h2, h3, h4, h5, h6, h7⟩ := hok
        have n1 : w ≠ l := fun e => A.sep j i _ _ l hne hj h (.inl (by rw [h1, e])) ((ow0 _ _).mpr hs)
        have n2 : c ≠ l := fun e => A.sep j i _ _ l hne hj h (.inr e.symm) ((ow0 _ _).mpr hs)
        exact ⟨cs, seed, at_, h1, h2, h3, h4, ne _ _ n1 h5, ne _ _ n2 h6, h7⟩
      | scr ns =>
        obtain ⟨m, h1, h2⟩ := hok
        exact ⟨m, h1, by rw [hm]; exact h2⟩
  · rcases env_set hj with ⟨rfl, rfl, hl⟩ | ⟨hne, hj⟩
    · exact A.wr j _ a h ((ow0 _ _).mpr ((ow1 _ _).mp ho))
    · exact A.wr j t a hj ho
  · rcases env_set h1 with ⟨rfl, rfl, hl⟩ | ⟨hne, g1⟩
    · rcases env_set h2 with ⟨rfl, rfl, hl2⟩ | ⟨hne2, h2⟩
      · exact hjk rfl
      · exact A.sep j k _ u a hjk h h2 ((ow0 _ _).mpr ((ow1 _ _).mp o1)) o2
    · rcases env_set h2 with ⟨rfl, rfl, hl⟩ | ⟨hne2, h2⟩
      · exact A.sep j k t _ a hjk g1 h o1 ((ow0 _ _).mpr ((ow1 _ _).mp o2))
      · exact A.sep j k t u a hjk g1 h2 o1 o2
  · rcases env_set hj with ⟨rfl, rfl, hl⟩ | ⟨hne, hj⟩
    · exact A.tsep p hp j _ h ((ow0 _ _).mpr ((ow1 _ _).mp ho))
    · exact A.tsep p hp j t hj ho
theorem At.turn (A : At F W env σ H) {i : Nat} {l : Addr} {xs ys : List D} {vs : List V} (h : env[i]? = some (.lst xs)) (hs : slot σ i = some (.ref l)) (hd : IsA F.K (hide W H) vs ys) : At F W (env.set i (.lst ys)) σ (upd H l (.lst vs)) :=
  A.turnG (.inl rfl) (.inl rfl) h hs hd
end
end Tf
end
section
set_option maxHeartbeats 1000000
/-! Expressions by the plain data that they give. -/
namespace Tf
open PySem PySem.Spec PyProof.Rows L2
/-! ### the weakest readings -/
def sE (X : Cx) (e : Expr) : TE := fun σ H Q => ∀ pins s, Inv X pins σ H s → wpAny (model X.prog X.w) X.A (eval e X.env) (EP X pins σ Q) X.xe s
theorem pe_s {X : Cx} {e : Expr} : PE X e (sE X e) := ⟨fun pins s σ H Q I h => h pins s I⟩
theorem sE_of {X : Cx} {e : Expr} {t : TE} {σ : L2.St} {H : Hp} {Q : VK} (h : PE X e t) (q : t σ H Q) : sE X e σ H Q := fun pins s I => h.run pins s σ H Q I q
def sT (X : Cx) (e : Expr) : TT := fun σ H Q => ∀ pins s, Inv X pins σ H s → wpAny (model X.prog X.w) X.A (isTrue e X.env (eval e X.env)) (TP X pins σ Q) X.xe s
theorem pt_s {X : Cx} {e : Expr} : PT X e (sT X e) := ⟨fun pins s σ H Q I h => h pins s I⟩
theorem sT_of {X : Cx} {e : Expr} {t : TT} {σ : L2.St} {H : Hp} {Q : Bool → Hp → Prop} (h : PT X e t) (q : t σ H Q) : sT X e σ H Q := fun pins s I => h.run pins s σ H Q I q
def sW (X : Cx) (e : Expr) : TT := fun σ H Q => ∀ whole pins s, Inv X pins σ H s → wpAny (model X.prog X.w) X.A (isTrue e X.env whole) (TP X pins σ Q) X.xe s
theorem pw_s {X : Cx} {e : Expr} : PW X e (sW X e) := ⟨fun whole pins s σ H Q I h => h whole pins s I⟩
theorem sW_of {X : Cx} {e : Expr} {t : TT} {σ : L2.St} {H : Hp} {Q : Bool → Hp → Prop} (h : PW X e t) (q : t σ H Q) : sW X e σ H Q := fun whole pins s I => h.run whole pins s σ H Q I q
def sA (X : Cx) (es : List Expr) : TA := fun σ H Q => ∀ pos pins s, Inv X pins σ H s → wpAny (model X.prog X.w) X.A (spliced (backTo pos (starEach es X.env))) (AP X pins σ Q) X.xe s
theorem pa_s {X : Cx} {es : List Expr} : PA X es (sA X es) := ⟨fun pos pins s σ H Q I h => h pos pins s I⟩
theorem sA_of {X : Cx} {es : List Expr} {t : TA} {σ : L2.St} {H : Hp} {Q : List V → Hp → Prop} (h : PA X es t) (q : t σ H Q) : sA X es σ H Q := fun pos pins s I => h.run pos pins s σ H Q I q
def sI (X : Cx) (tg iter : Expr) : TI := fun σ H R => ∀ pins s, Inv X pins σ H s → wpAny (model X.prog X.w) X.A (eval iter X.env) (fun v s1 => wpAny (model X.prog X.w) X.A (pyIter v) (PIE X pins σ tg R) X.xe s1) X.xe s
theorem pi_s {X : Cx} {tg iter : Expr} : PI X tg iter (sI X tg iter) := ⟨fun pins s σ H R I h => h pins s I⟩
theorem sI_of {X : Cx} {tg iter : Expr} {t : TI} {σ : L2.St} {H : Hp} {R : It → Hp → Prop} (h : PI X tg iter t) (q : t σ H R) : sI X tg iter σ H R := fun pins s I => h.run pins s σ H R I q
/-! ### the judgements -/
def DomW (W : Ws) (H : Hp) : Prop := ∀ a, W a → H a ≠ none
theorem DomW.same {W : Ws} {H H' : Hp} (d : DomW W H) (e : Same H H') : DomW W H' := fun a h => same_ne e (d a h)
/-- e gives d -/
def EE (X : Cx) (F : Fc) (env : List Sl) (e : Expr) (d : D) : Prop := ∀ W σ H Q, At F W env σ H → (∀ v H', Same H H' → Is F.K (hide W H') v d → Q v H') → sE X e σ H Q
/-- e gives a list of ds (one's own perhaps) -/
def EL (X : Cx) (F : Fc) (env : List Sl) (e : Expr) (ds : List D) : Prop := ∀ W σ H Q, At F W env σ H → (∀ l vs H', Same H H' → H' l = some (.lst vs) → IsA F.K (hide W H') vs ds → Q (.ref l) H') → sE X e σ H Q
/-- a test -/
def ET (X : Cx) (F : Fc) (env : List Sl) (e : Expr) (b : Bool) : Prop := ∀ W σ H Q, At F W env σ H → (∀ H', Same H H' → Q b H') → sT X e σ H Q
def EW (X : Cx) (F : Fc) (env : List Sl) (e : Expr) (b : Bool) : Prop := ∀ W σ H Q, At F W env σ H → (∀ H', Same H H' → Q b H') → sW X e σ H Q
/-- an argument list -/
def EA (X : Cx) (F : Fc) (env : List Sl) (es : List Expr) (ds : List D) : Prop := ∀ W σ H Q, At F W env σ H → (∀ vs H', Same H H' → IsA F.K (hide W H') vs ds → Q vs H') → sA X es σ H Q
/-- an argument, as a def of one's own is given it -/
inductive Arg (K : PySem.W.Frag) (W : Ws) (H : Hp) : V → Sl → Prop
  | val {v : V} {d : D} (h : Is K (hide W H) v d) : Arg K W H v (.val d)
  | ro {l : Addr} {vs : List V} {xs : List D} (hw : W l) (h : H l = some (.lst vs)) (hx : IsA K (hide W H) vs xs) : Arg K W H (.ref l) (.ro xs)
  | fn {f c : Addr} {mk : Addr → NdefX.NF} (h1 : hide W H f = some (NdefX.FnO f (mk c))) (h2 : H (mk c).c = some (LamX.CodeO (mk c).c (mk c).qual)) : Arg K W H (.ref f) (.fn mk)
abbrev Args (K : PySem.W.Frag) (W : Ws) (H : Hp) : List V → List Sl → Prop := Paired (Arg K W H)
theorem Arg.same {K : PySem.W.Frag} {W : Ws} {H H' : Hp} {v : V} {s : Sl} (e : Same H H') (h : Arg K W H v s) : Arg K W H' v s := by
  cases h with
  | val h => exact .val (dp_same (hide_same e) h)
  | ro hw h hx => exact .ro hw (e _ _ h) (dpa_same (hide_same e) hx)
  | fn h1 h2 => exact .fn (hide_same e _ _ h1) (e _ _ h2)
/-- arguments of a def of one's own -/
def EAs (X : Cx) (F : Fc) (env : List Sl) (es : List Expr) (ss : List Sl) : Prop := ∀ W σ H Q, At F W env σ H → (∀ vs H', Same H H' → Args F.K W H' vs ss → Q vs H') → sA X es σ H Q
def dNon : D → Bool
  | .none => true
  | _ => false
section
variable {X : Cx} {F : Fc} {env : List Sl} {e a b : Expr} {es : List Expr} {d d1 d2 : D} {ds : List D} {pos : Pos}
theorem EE.eq (h : EE X F env e d) (q : d = d1) : EE X F env e d1 := q ▸ h
theorem EL.eq {ds' : List D} (h : EL X F env e ds) (q : ds = ds') : EL X F env e ds' := q ▸ h
theorem ET.eq {b c : Bool} (h : ET X F env e b) (q : b = c) : ET X F env e c := q ▸ h
/-- a list that is a value -/
theorem EE.el (h : EE X F env e (.list ds)) : EL X F env e ds := fun W σ H Q A q => h W σ H Q A fun v H' s r => by
  obtain ⟨l, vs, rfl, h1, h2⟩ := dp_lst_inv r
  exact q l vs H' s (hide_le _ _ h1) h2
/-! ### names, constants -/
theorem ee_var (i : Nat) {x : Str} (hi : env[i]? = some (.val d) := by rfl) (hN : X.N[i]? = some x := by rfl) (hv : Vis X.env.scope x := by first | exact Or.inl rfl | exact Or.inr (Or.inl rfl) | exact Or.inr (Or.inr rfl))
    (hd : (x == ("__debug__" : Str)) = false := by decide) (hcd : (x == ("__classdict__" : Str)) = false := by decide) : EE X F env (.Name x pos) d := fun W σ H Q A q => by
  obtain ⟨v, h1, h2⟩ := A.val hi
  exact sE_of (pe_var hN hv hd hcd) ⟨v, h1, q v H (Same.refl H) h2⟩
theorem el_var (i : Nat) {x : Str} (hi : env[i]? = some (.lst ds) := by rfl) (hN : X.N[i]? = some x := by rfl) (hv : Vis X.env.scope x := by first | exact Or.inl rfl | exact Or.inr (Or.inl rfl) | exact Or.inr (Or.inr rfl))
    (hd : (x == ("__debug__" : Str)) = false := by decide) (hcd : (x == ("__classdict__" : Str)) = false := by decide) : EL X F env (.Name x pos) ds := fun W σ H Q A q => by
  obtain ⟨l, vs, h1, h2, h3, h4⟩ := A.ok i _ hi
  exact sE_of (pe_var hN hv hd hcd) ⟨_, slot_some h1, q l vs H (Same.refl H) h3 h4⟩
theorem el_own (i : Nat) {m : Addr} {x : Str} (hi : env[i]? = some (.own m ds) := by rfl) (hN : X.N[i]? = some x := by rfl) (hv : Vis X.env.scope x := by first | exact Or.inl rfl | exact Or.inr (Or.inl rfl) | exact Or.inr (Or.inr rfl))
    (hd : (x == ("__debug__" : Str)) = false := by decide) (hcd : (x == ("__classdict__" : Str)) = false := by decide) : EL X F env (.Name x pos) ds := fun W σ H Q A q => by
  obtain ⟨vs, h1, h2, h3, h4⟩ := A.ok i _ hi
  exact sE_of (pe_var hN hv hd hcd) ⟨_, slot_some h1, q m vs H (Same.refl H) h3 h4⟩
theorem el_ro (i : Nat) {x : Str} (hi : env[i]? = some (.ro ds) := by rfl) (hN : X.N[i]? = some x := by rfl) (hv : Vis X.env.scope x := by first | exact Or.inl rfl | exact Or.inr (Or.inl rfl) | exact Or.inr (Or.inr rfl))
    (hd : (x == ("__debug__" : Str)) = false := by decide) (hcd : (x == ("__classdict__" : Str)) = false := by decide) : EL X F env (.Name x pos) ds := fun W σ H Q A q => by
  obtain ⟨l, vs, h1, h2, h3, h4⟩ := A.ok i _ hi
  exact sE_of (pe_var hN hv hd hcd) ⟨_, slot_some h1, q l vs H (Same.refl H) h3 h4⟩
theorem ee_int {i j} : EE X F env (.Constant (.int i) j pos) (.int i) := fun W σ H Q A q => sE_of pe_int (q _ H (Same.refl H) (.int i))
theorem ee_bl {b j} : EE X F env (.Constant (.bool b) j pos) (.bool b) := fun W σ H Q A q => sE_of pe_bl (q _ H (Same.refl H) (.bl b))
theorem ee_non {j} : EE X F env (.Constant .none j pos) .none := fun W σ H Q A q => sE_of pe_non (q _ H (Same.refl H) .non)
theorem ee_str {x j} : EE X F env (.Constant (.str x) j pos) (.str x) := fun W σ H Q A q => sE_of pe_str (q _ H (Same.refl H) (.str x))
/-- a module's constant: an int -/
theorem ee_gint {x : Str} {i : Int} (hm : ∃ t, X.mg x = some (.int i t)) (hg : Gl X x := by rfl) (hd : (x == ("__debug__" : Str)) = false := by decide) : EE X F env (.Name x pos) (.int i) := fun W σ H Q A q => by
  obtain ⟨t, hm⟩ := hm
  exact sE_of (pe_glob (v := .int i) hg hm ⟨t, rfl⟩ hd) (q _ H (Same.refl H) (.int i))
/-- a module's tuple of data -/
theorem ee_gtup {x : Str} {p : Addr} {vs : List V} (hm : X.mg x = some (.ref p)) (hs : ∀ H, SqT F.K H p vs) (ha : ∀ H, IsA F.K H vs ds) (hg : Gl X x := by rfl) (hd : (x == ("__debug__" : Str)) = false := by decide) : EE X F env (.Name x pos) (.tuple ds) := fun W σ H Q A q =>
  sE_of (pe_glob (v := .ref p) hg hm rfl hd) (q _ H (Same.refl H) (.tup (hs _) (ha _)))
/-! ### operators -/
/-- two parts and a rule for their values -/
theorem ee_bin {op : Operator} {r : R2} (ho : OpR X (binaryOp op) r) (ha : EE X F env a d1) (hb : EE X F env b d2)
    (sem : ∀ W H v1 v2 Q, DomW W H → Is F.K (hide W H) v1 d1 → Is F.K (hide W H) v2 d2 → (∀ v H', Same H H' → Is F.K (hide W H') v d → Q v H') → r v1 v2 H Q) : EE X F env (.BinOp a op b pos) d := fun W σ H Q A q =>
  sE_of (pe_op ho pe_s pe_s) (ha W σ H _ A fun v1 H1 e1 r1 => hb W σ H1 _ (A.same e1) fun v2 H2 e2 r2 =>
    sem W H2 v1 v2 Q ((A.same (e1.trans e2)).dom) (dp_same (hide_same e2) r1) r2 fun v H' e3 r3 => q v H' ((e1.trans e2).trans e3) r3)
theorem ee_i0 {op : Operator} {g : Int → Int → V} {i j : Int} (ho : OpR X (binaryOp op) (rI0 g)) (ha : EE X F env a (.int i)) (hb : EE X F env b (.int j)) (hd : ∀ K H, Is K H (g i j) d) : EE X F env (.BinOp a op b pos) d :=
  ee_bin ho ha hb fun W H v1 v2 Q _ r1 r2 q => ⟨i, j, dp_int_inv r1, dp_int_inv r2, q _ H (Same.refl H) (hd _ _)⟩
theorem ee_i {op : Operator} {C : Int → Int → Prop} {g : Int → Int → V} {i j : Int} (ho : OpR X (binaryOp op) (rI C g)) (hc : C i j) (ha : EE X F env a (.int i)) (hb : EE X F env b (.int j)) (hd : ∀ K H, Is K H (g i j) d) : EE X F env (.BinOp a op b pos) d :=
  ee_bin ho ha hb fun W H v1 v2 Q _ r1 r2 q => ⟨i, j, dp_int_inv r1, dp_int_inv r2, hc, q _ H (Same.refl H) (hd _ _)⟩
theorem ee_add {i j : Int} (ha : EE X F env a (.int i)) (hb : EE X F env b (.int j)) : EE X F env (.BinOp a .Add b pos) (.int (i + j)) := ee_i0 op_add ha hb fun _ _ => .int _
theorem ee_sub {i j : Int} (ha : EE X F env a (.int i)) (hb : EE X F env b (.int j)) : EE X F env (.BinOp a .Sub b pos) (.int (i - j)) := ee_i0 op_sub ha hb fun _ _ => .int _
theorem ee_mul {i j : Int} (ha : EE X F env a (.int i)) (hb : EE X F env b (.int j)) (hc : CMul i j) : EE X F env (.BinOp a .Mult b pos) (.int (i * j)) := ee_i op_mul hc ha hb fun _ _ => .int _
theorem ee_mulW {i j : Int} (ha : EE X F env a (.int i)) (hb : EE X F env b (.int j)) (hc : CMulW i j) : EE X F env (.BinOp a .Mult b pos) (.int (i * j)) := ee_i op_mulW hc ha hb fun _ _ => .int _
/-- % by what is above 0 -/
theorem ee_mod {i j : Int} (ha : EE X F env a (.int i)) (hb : EE X F env b (.int j)) (hc : 0 < j) : EE X F env (.BinOp a .Mod b pos) (.int (i % j)) := ee_i op_mod hc ha hb fun _ _ => .int _
theorem ee_fmod {i j : Int} (ha : EE X F env a (.int i)) (hb : EE X F env b (.int j)) (hc : j ≠ 0) : EE X F env (.BinOp a .Mod b pos) (.int (i.fmod j)) := ee_i op_modN hc ha hb fun _ _ => .int _
/-- // by what is above 0, below 2 ^ 30 -/
theorem ee_div {i j : Int} (ha : EE X F env a (.int i)) (hb : EE X F env b (.int j)) (hc : CDiv i j) : EE X F env (.BinOp a .FloorDiv b pos) (.int (i / j)) := ee_i op_fdiv hc ha hb fun _ _ => .int _
theorem ee_divW {i j : Int} (ha : EE X F env a (.int i)) (hb : EE X F env b (.int j)) (hc : CDivW i j) : EE X F env (.BinOp a .FloorDiv b pos) (.int (i / j)) := ee_i op_fdivW hc ha hb fun _ _ => .int _
/-- // by any number but 0, below 2 ^ 9000 -/
theorem op_fdivWN : OpR X (binaryOp .FloorDiv) (rI (fun _ j => j ≠ 0 ∧ j.natAbs.log2 < 9000) fun i j => .int (i.fdiv j)) := opI fun _ _ _ _ _ _ _ hc q => floordiv_int hc.1 q (.inl (PyProof.noPylong_of_log2 hc.2))
theorem ee_fdiv {i j : Int} (ha : EE X F env a (.int i)) (hb : EE X F env b (.int j)) (hc : j ≠ 0 ∧ j.natAbs.log2 < 9000) : EE X F env (.BinOp a .FloorDiv b pos) (.int (i.fdiv j)) := ee_i op_fdivWN hc ha hb fun _ _ => .int _
theorem ee_pow {i j : Int} (ha : EE X F env a (.int i)) (hb : EE X F env b (.int j)) (hc : CPow i j) : EE X F env (.BinOp a .Pow b pos) (.int (i ^ j.toNat)) := ee_i op_pow hc ha hb fun _ _ => .int _
theorem ee_shl {i j : Int} (ha : EE X F env a (.int i)) (hb : EE X F env b (.int j)) (hc : CPow i j) : EE X F env (.BinOp a .LShift b pos) (.int (i * 2 ^ j.toNat)) := ee_i op_shl hc ha hb fun _ _ => .int _
theorem ee_shr {i j : Int} (ha : EE X F env a (.int i)) (hb : EE X F env b (.int j)) (hc : 0 ≤ j) : EE X F env (.BinOp a .RShift b pos) (.int (i / 2 ^ j.toNat)) := ee_i op_shr hc ha hb fun _ _ => .int _
theorem ee_and_i {i j : Int} (ha : EE X F env a (.int i)) (hb : EE X F env b (.int j)) : EE X F env (.BinOp a .BitAnd b pos) (.int (Builtin.bitAnd i j)) := ee_i0 op_and ha hb fun _ _ => .int _
/-- list + list -/
theorem ee_cat {xs ys : List D} (ha : EL X F env a xs) (hb : EL X F env b ys) (hz : xs.length + ys.length ≤ 100000) : EE X F env (.BinOp a .Add b pos) (.list (xs ++ ys)) := fun W σ H Q A q =>
  sE_of (pe_op op_cat pe_s pe_s) (ha W σ H _ A fun l vs H1 e1 h1 r1 => hb W σ H1 _ (A.same e1) fun m ws H2 e2 h2 r2 =>
    ⟨l, m, vs, ws, rfl, rfl, e2 _ _ h1, h2, by
      have l1 := dpa_len r1
      have l2 := dpa_len r2
      rw [sizeLine_eq]; omega, fun p hp => by
      have A2 := A.same (e1.trans e2)
      have nW : ¬ W p := fun z => A2.dom p z hp
      have s3 := same_new (o := HO.lst (vs ++ ws)) hp
      refine q _ _ ((e1.trans e2).trans s3) (.lst ?_ (dpa_app (dpa_same (hide_same (e2.trans s3)) r1) (dpa_same (hide_same s3) r2)))
      rw [hide_at nW]
      exact upd_same⟩)
/-- list * int -/
theorem ee_rep {xs : List D} {k : Int} (ha : EL X F env a xs) (hb : EE X F env b (.int k)) (h1 : 0 ≤ k) (h2 : xs.length * k.toNat ≤ 100000) (h3 : k ≤ 100000) : EE X F env (.BinOp a .Mult b pos) (.list (List.replicate k.toNat xs).flatten) := fun W σ H Q A q =>
  sE_of (pe_op op_rep pe_s pe_s) (ha W σ H _ A fun l vs H1 e1 g1 r1 => hb W σ H1 _ (A.same e1) fun v H2 e2 r2 => by
    obtain rfl := dp_int_inv r2
    have l1 := dpa_len r1
    refine ⟨l, k, vs, rfl, rfl, e2 _ _ g1, by omega, by omega, by rw [sizeLine_eq, l1]; omega, fun p hp => ?_⟩
    have A2 := A.same (e1.trans e2)
    have nW : ¬ W p := fun z => A2.dom p z hp
    have s3 := same_new (o := HO.lst (List.replicate k.toNat vs).flatten) hp
    refine q _ _ ((e1.trans e2).trans s3) (.lst ?_ (dpa_rep (dpa_same (hide_same (e2.trans s3)) r1) _))
    rw [hide_at nW]
    exact upd_same)
/-- tuple * int -/
theorem ee_repT {xs : List D} {k : Int} (ha : EE X F env a (.tuple xs)) (hb : EE X F env b (.int k)) (h0 : xs ≠ []) (h1 : 1 ≤ k) (h2 : k ≤ 1000) (h3 : xs.length ≤ 1000)
    (one : OpR X (binaryOp .Mult) (fun x y H Q => ∃ l xs, x = .ref l ∧ y = .int 1 ∧ SqT F.K H l xs ∧ xs ≠ [] ∧ Q (.ref l) H)) (hk : X.K = F.K := by rfl) : EE X F env (.BinOp a .Mult b pos) (.tuple (List.replicate k.toNat xs).flatten) := fun W σ H Q A q => by
  have ho : OpR X (binaryOp .Mult) (fun x y H Q => rRepT F.K x y H Q ∨ ∃ l xs, x = .ref l ∧ y = .int 1 ∧ SqT F.K H l xs ∧ xs ≠ [] ∧ Q (.ref l) H) := (hk ▸ op_repT (X := X)).or one
  refine sE_of (pe_op ho pe_s pe_s) (ha W σ H _ A fun v1 H1 e1 r1 => hb W σ H1 _ (A.same e1) fun v H2 e2 r2 => ?_)
  obtain rfl := dp_int_inv r2
  obtain ⟨l, vs, rfl, g1, g2⟩ := dp_tup_inv r1
  have l1 := dpa_len g2
  have hne : vs ≠ [] := fun z => h0 (by rw [z] at l1; exact List.eq_nil_of_length_eq_zero l1.symm)
  have g3 : SqT F.K H2 l vs := seqT_same hide_le (seqT_same (hide_same e2) g1)
  by_cases hk1 : k = 1
  · subst hk1
    refine .inr ⟨l, vs, rfl, rfl, g3, hne, q _ _ (e1.trans e2) ?_⟩
    rw [show (List.replicate (1 : Int).toNat xs).flatten = xs by simp]
    exact dp_same (hide_same e2) (.tup g1 g2)
  · refine .inl ⟨l, k, vs, rfl, rfl, g3, hne, by omega, h2, by rw [l1]; exact h3, fun p hp => ?_⟩
    have A2 := A.same (e1.trans e2)
    have nW : ¬ W p := fun z => A2.dom p z hp
    have s3 := same_new (o := HO.tup (List.replicate k.toNat vs).flatten) hp
    refine q _ _ ((e1.trans e2).trans s3) (.tup ?_ (dpa_rep (dpa_same (hide_same (e2.trans s3)) g2) _))
    exact SqT.of (by rw [hide_at nW]; exact upd_same)
/-! ### comparisons -/
theorem ee_cmp {op : CmpOp} {r : R2} (ho : OpR X (compareOp op) r) (hm : behindInMarks op b = false) (ha : EE X F env a d1) (hb : EE X F env b d2)
    (sem : ∀ W H v1 v2 Q, DomW W H → Is F.K (hide W H) v1 d1 → Is F.K (hide W H) v2 d2 → (∀ v H', Same H H' → Is F.K (hide W H') v d → Q v H') → r v1 v2 H Q) : EE X F env (.Compare a [op] [b] pos) d := fun W σ H Q A q =>
  sE_of (pe_cmpR ho pe_s pe_s hm) (ha W σ H _ A fun v1 H1 e1 r1 => hb W σ H1 _ (A.same e1) fun v2 H2 e2 r2 =>
    sem W H2 v1 v2 Q ((A.same (e1.trans e2)).dom) (dp_same (hide_same e2) r1) r2 fun v H' e3 r3 => q v H' ((e1.trans e2).trans e3) r3)
/-- .. as a test -/
theorem et_cmp {op : CmpOp} {r : R2} {c : Bool} (ho : OpR X (compareOp op) r) (hm : behindInMarks op b = false) (ha : EE X F env a d1) (hb : EE X F env b d2)
    (sem : ∀ W H v1 v2 Q, DomW W H → Is F.K (hide W H) v1 d1 → Is F.K (hide W H) v2 d2 → (∀ v H', Same H H' → Is F.K (hide W H') v (.bool c) → Q v H') → r v1 v2 H Q) : ET X F env (.Compare a [op] [b] pos) c := fun W σ H Q A q =>
  sT_of (pt_cmpR ho pe_s pe_s hm) (ha W σ H _ A fun v1 H1 e1 r1 => hb W σ H1 _ (A.same e1) fun v2 H2 e2 r2 =>
    sem W H2 v1 v2 _ ((A.same (e1.trans e2)).dom) (dp_same (hide_same e2) r1) r2 fun v H' e3 r3 => ⟨c, dp_bl_inv r3, q H' ((e1.trans e2).trans e3)⟩)
/-- the operators' rules by data -/
structure CmpD (X : Cx) (F : Fc) (op : CmpOp) (d1 d2 : D) (c : Bool) : Prop where
  ex : ∃ r : R2, OpR X (compareOp op) r ∧ ∀ W H v1 v2 Q, DomW W H → Is F.K (hide W H) v1 d1 → Is F.K (hide W H) v2 d2 → (∀ v H', Same H H' → Is F.K (hide W H') v (.bool c) → Q v H') → r v1 v2 H Q
theorem CmpD.ee {op : CmpOp} {c : Bool} (h : CmpD X F op d1 d2 c) (ha : EE X F env a d1) (hb : EE X F env b d2) (hm : behindInMarks op b = false := by first | exact nobehind _ (by decide) (by decide) | rfl) : EE X F env (.Compare a [op] [b] pos) (.bool c) := by
  obtain ⟨r, ho, sem⟩ := h
  exact ee_cmp ho hm ha hb sem
theorem CmpD.et {op : CmpOp} {c : Bool} (h : CmpD X F op d1 d2 c) (ha : EE X F env a d1) (hb : EE X F env b d2) (hm : behindInMarks op b = false := by first | exact nobehind _ (by decide) (by decide) | rfl) : ET X F env (.Compare a [op] [b] pos) c := by
  obtain ⟨r, ho, sem⟩ := h
  exact et_cmp ho hm ha hb sem
theorem CmpD.eq {op : CmpOp} {c c' : Bool} (h : CmpD X F op d1 d2 c) (q : c = c') : CmpD X F op d1 d2 c' := q ▸ h
theorem cd_i0 {op : CmpOp} {p : Int → Int → Bool} {i j : Int} (ho : OpR X (compareOp op) (rI0 fun i j => .bl (p i j))) : CmpD X F op (.int i) (.int j) (p i j) :=
  ⟨_, ho, fun W H v1 v2 Q _ r1 r2 q => ⟨i, j, dp_int_inv r1, dp_int_inv r2, q _ H (Same.refl H) (.bl _)⟩⟩
theorem cd_lt {i j : Int} : CmpD X F .Lt (.int i) (.int j) (decide (i < j)) := cd_i0 op_lt
theorem cd_le {i j : Int} : CmpD X F .LtE (.int i) (.int j) (decide (i ≤ j)) := cd_i0 op_le
theorem cd_gt {i j : Int} : CmpD X F .Gt (.int i) (.int j) (decide (j < i)) := cd_i0 op_gt
theorem cd_ge {i j : Int} : CmpD X F .GtE (.int i) (.int j) (decide (j ≤ i)) := cd_i0 op_ge
theorem cd_eqI {i j : Int} : CmpD X F .Eq (.int i) (.int j) (decide (i = j)) :=
  ⟨_, op_eq, fun W H v1 v2 Q _ r1 r2 q => ⟨by rw [dp_int_inv r1, dp_int_inv r2]; rfl, q _ H (Same.refl H) (by rw [dp_int_inv r1, dp_int_inv r2, dec_int, show (i == j) = decide (i = j) from rfl]; exact .bl _)⟩⟩
theorem cd_neI {i j : Int} : CmpD X F .NotEq (.int i) (.int j) (!decide (i = j)) :=
  ⟨_, op_ne, fun W H v1 v2 Q _ r1 r2 q => ⟨by rw [dp_int_inv r1, dp_int_inv r2]; rfl, q _ H (Same.refl H) (by rw [dp_int_inv r1, dp_int_inv r2, dec_int, show (i == j) = decide (i = j) from rfl]; exact .bl _)⟩⟩
theorem cd_eqS {i j : Str} : CmpD X F .Eq (.str i) (.str j) (decide (i = j)) :=
  ⟨_, op_eq, fun W H v1 v2 Q _ r1 r2 q => ⟨by rw [dp_str_inv r1, dp_str_inv r2]; rfl, q _ H (Same.refl H) (by rw [dp_str_inv r1, dp_str_inv r2, show decide (V.str i = V.str j) = decide (i = j) by simp]; exact .bl _)⟩⟩
theorem cd_neS {i j : Str} : CmpD X F .NotEq (.str i) (.str j) (!decide (i = j)) :=
  ⟨_, op_ne, fun W H v1 v2 Q _ r1 r2 q => ⟨by rw [dp_str_inv r1, dp_str_inv r2]; rfl, q _ H (Same.refl H) (by rw [dp_str_inv r1, dp_str_inv r2, show decide (V.str i = V.str j) = decide (i = j) by simp]; exact .bl _)⟩⟩
theorem cd_isB {i j : Bool} : CmpD X F .Is (.bool i) (.bool j) (decide (i = j)) :=
  ⟨_, op_isBl, fun W H v1 v2 Q _ r1 r2 q => ⟨i, j, dp_bl_inv r1, dp_bl_inv r2, q _ H (Same.refl H) (.bl _)⟩⟩
theorem cd_notB {i j : Bool} : CmpD X F .IsNot (.bool i) (.bool j) (!decide (i = j)) :=
  ⟨_, op_notBl, fun W H v1 v2 Q _ r1 r2 q => ⟨i, j, dp_bl_inv r1, dp_bl_inv r2, q _ H (Same.refl H) (.bl _)⟩⟩
/-- is None -/
theorem cd_isN {d : D} : CmpD X F .Is d .none (dNon d) :=
  ⟨_, op_isN, fun W H v1 v2 Q _ r1 r2 q => ⟨dp_non_inv r2, q _ H (Same.refl H) (by
    have e : decide (v1 = .non) = dNon d := by
      cases r1 <;> simp [dNon]
    rw [e]; exact .bl _)⟩⟩
/-- == of data at any depth -/
theorem cd_eqD (hs : SeqAt.shaped d1 = true) (ht : SeqAt.shaped d2 = true) (hu : X.A.units + 64 < cLine) (hk : X.K = F.K := by rfl) : CmpD X F .Eq d1 d2 (PyData.eqv d1 d2) :=
  ⟨_, op_eqD hu, fun W H v1 v2 Q _ r1 r2 q => ⟨d1, d2, by rw [hk]; exact (dp_same hide_le r1).dp (SeqAt.canLay_of_shaped hs), by rw [hk]; exact (dp_same hide_le r2).dp (SeqAt.canLay_of_shaped ht), hs, ht, q _ H (Same.refl H) (.bl _)⟩⟩
theorem cd_neD (hs : SeqAt.shaped d1 = true) (ht : SeqAt.shaped d2 = true) (hu : X.A.units + 64 < cLine) (hk : X.K = F.K := by rfl) : CmpD X F .NotEq d1 d2 (!PyData.eqv d1 d2) :=
  ⟨_, op_neD hu, fun W H v1 v2 Q _ r1 r2 q => ⟨d1, d2, by rw [hk]; exact (dp_same hide_le r1).dp (SeqAt.canLay_of_shaped hs), by rw [hk]; exact (dp_same hide_le r2).dp (SeqAt.canLay_of_shaped ht), hs, ht, q _ H (Same.refl H) (.bl _)⟩⟩
/-! ### tests -/
theorem et_val {e : Expr} {c : Bool} (h : EE X F env e (.bool c)) (he : ∀ whole, isTrue e X.env whole = (do let v ← whole; standAt e.pos; holding [v] (truthy v)) := by intro _; rfl) : ET X F env e c := fun W σ H Q A q =>
  sT_of (pt_val pe_s he) (h W σ H _ A fun v H' e r => ⟨c, dp_bl_inv r, q H' e⟩)
theorem et_not {c : Bool} (h : ET X F env a c) : ET X F env (.UnaryOp .Not a pos) (!c) := fun W σ H Q A q => sT_of (pt_not pt_s) (h W σ H _ A fun H' e => q H' e)
theorem EW.et {c : Bool} (h : EW X F env e c) : ET X F env e c := fun W σ H Q A q => sT_of pw_s.pt (h W σ H _ A q)
theorem ew_and1 {c : Bool} (h : ET X F env a c) : EW X F env (.BoolOp .And [a] pos) c := fun W σ H Q A q => sW_of (pw_and1 pt_s) (h W σ H _ A q)
theorem ew_or1 {c : Bool} (h : ET X F env a c) : EW X F env (.BoolOp .Or [a] pos) c := fun W σ H Q A q => sW_of (pw_or1 pt_s) (h W σ H _ A q)
theorem ew_and {rest : List Expr} {c c' : Bool} (h : ET X F env a c) (h' : c = true → EW X F env (.BoolOp .And (b :: rest) pos) c') : EW X F env (.BoolOp .And (a :: b :: rest) pos) (c && c') := fun W σ H Q A q =>
  sW_of (pw_and pt_s pw_s) (h W σ H _ A fun H' e => by
    cases c with
    | true => exact iteT (h' rfl W σ H' _ (A.same e) fun H2 e2 => q H2 (e.trans e2))
    | false => exact iteF (q H' e))
theorem ew_or {rest : List Expr} {c c' : Bool} (h : ET X F env a c) (h' : c = false → EW X F env (.BoolOp .Or (b :: rest) pos) c') : EW X F env (.BoolOp .Or (a :: b :: rest) pos) (c || c') := fun W σ H Q A q =>
  sW_of (pw_or pt_s pw_s) (h W σ H _ A fun H' e => by
    cases c with
    | true => exact iteT (q H' e)
    | false => exact iteF (h' rfl W σ H' _ (A.same e) fun H2 e2 => q H2 (e.trans e2)))
/-- and, or, not as values -/
theorem ee_one {op} (h : EE X F env a d) : EE X F env (.BoolOp op [a] pos) d := fun W σ H Q A q => sE_of (pe_one pe_s) (h W σ H _ A q)
theorem ee_and {rest : List Expr} {c : Bool} (h : EE X F env a (.bool c)) (h' : c = true → EE X F env (.BoolOp .And (b :: rest) pos) d) (hf : c = false → d = .bool false) : EE X F env (.BoolOp .And (a :: b :: rest) pos) d := fun W σ H Q A q =>
  sE_of (pe_and pe_s pe_s) (h W σ H _ A fun v H' e r => ⟨c, dp_bl_inv r, by
    cases c with
    | true => exact iteT (h' rfl W σ H' _ (A.same e) fun v H2 e2 r2 => q v H2 (e.trans e2) r2)
    | false => exact iteF (q _ H' e (by rw [hf rfl]; exact .bl _))⟩)
theorem ee_not {c : Bool} (h : EE X F env a (.bool c)) : EE X F env (.UnaryOp .Not a pos) (.bool (!c)) := fun W σ H Q A q =>
  sE_of (pe_not pe_s) (h W σ H _ A fun v H' e r => ⟨c, dp_bl_inv r, q _ H' e (.bl _)⟩)
/-- 0 <= x < n -/
theorem ee_range {c0 : Expr} {i j k : Int} (ha : EE X F env a (.int i)) (hb : EE X F env b (.int j)) (hc : EE X F env c0 (.int k))
    {op' : CmpOp} {p : Int → Int → Bool} (ho : OpR X (compareOp op') (rI0 fun i j => .bl (p i j)))
    (hm : lastMarks [.LtE, op'] [b, c0] = false := by with_unfolding_all rfl) : EE X F env (.Compare a [.LtE, op'] [b, c0] pos) (.bool (decide (i ≤ j) && p j k)) := fun W σ H Q A q =>
  sE_of (pe_chain op_le ho pe_s pe_s pe_s hm) (ha W σ H _ A fun v1 H1 e1 r1 => hb W σ H1 _ (A.same e1) fun v2 H2 e2 r2 => by
    obtain rfl := dp_int_inv r1
    obtain rfl := dp_int_inv r2
    refine ⟨i, j, rfl, rfl, decide (i ≤ j), rfl, ?_⟩
    by_cases h : i ≤ j
    · rw [decide_eq_true h]
      refine iteT (hc W σ H2 _ (A.same (e1.trans e2)) fun v3 H3 e3 r3 => ⟨j, k, rfl, dp_int_inv r3, q _ H3 ((e1.trans e2).trans e3) ?_⟩)
      rw [decide_eq_true h, Bool.true_and]
      exact .bl _
    · rw [decide_eq_false h]
      refine iteF (q _ H2 (e1.trans e2) ?_)
      rw [decide_eq_false h, Bool.false_and]
      exact .bl _)
end
end Tf
end
section
set_option maxHeartbeats 1000000
/-! Subscripts, slices, displays, built-in calls, calls of defs. -/
namespace Tf
open PySem PySem.Spec PyProof.Rows L2
section
variable {X : Cx} {F : Fc} {env : List Sl} {e a b : Expr} {es : List Expr} {d d1 d2 : D} {ds : List D} {pos : Pos}
/-! ### subscripts -/
theorem dpa_at {K : PySem.W.Frag} {H : Hp} {vs : List V} {ds : List D} {i : Int} {d : D} (h : IsA K H vs ds) (e : atI ds i = some d) : ∃ v, atI vs i = some v ∧ Is K H v d := by
  unfold atI at e ⊢
  rw [dpa_len h]
  cases q : ixN ds.length i with
  | none => rw [q] at e; cases e
  | some j =>
    rw [q] at e
    obtain ⟨v, h1, h2⟩ := dpa_get h e
    exact ⟨v, h1, h2⟩
theorem ee_ixT {i : Int} (ha : EE X F env a (.tuple ds)) (hb : EE X F env b (.int i)) (hd : atI ds i = some d) (hs : PlainIx b := by exact fun _ _ => rfl) (hk : X.K = F.K := by rfl) : EE X F env (.Subscript a b pos) d := fun W σ H Q A q =>
  sE_of (pe_ix ix_tup pe_s pe_s hs) (ha W σ H _ A fun v1 H1 e1 r1 => hb W σ H1 _ (A.same e1) fun v2 H2 e2 r2 => by
    obtain ⟨p, vs, rfl, g1, g2⟩ := dp_tup_inv r1
    obtain rfl := dp_int_inv r2
    obtain ⟨v, h1, h2⟩ := dpa_at (dpa_same (hide_same e2) g2) hd
    exact ⟨p, vs, i, v, rfl, rfl, by rw [hk]; exact seqT_same hide_le (seqT_same (hide_same e2) g1), h1, q v H2 (e1.trans e2) h2⟩)
theorem ee_ixL {i : Int} (ha : EL X F env a ds) (hb : EE X F env b (.int i)) (hd : atI ds i = some d) (hs : PlainIx b := by exact fun _ _ => rfl) (hk : X.K = F.K := by rfl) : EE X F env (.Subscript a b pos) d := fun W σ H Q A q =>
  sE_of (pe_ix ix_list pe_s pe_s hs) (ha W σ H _ A fun l vs H1 e1 g1 g2 => hb W σ H1 _ (A.same e1) fun v2 H2 e2 r2 => by
    obtain rfl := dp_int_inv r2
    obtain ⟨v, h1, h2⟩ := dpa_at (dpa_same (hide_same e2) g2) hd
    exact ⟨l, vs, i, v, rfl, rfl, SqL.of (e2 _ _ g1), h1, q v H2 (e1.trans e2) h2⟩)
theorem ee_ixS {z : Str} {i : Int} {c : Nat} (ha : EE X F env a (.str z)) (hb : EE X F env b (.int i)) (hz : z.length ≤ 100000) (hd : atI z.cps.toList i = some c) (hs : PlainIx b := by exact fun _ _ => rfl) : EE X F env (.Subscript a b pos) (.str ⟨#[c]⟩) := fun W σ H Q A q =>
  sE_of (pe_ix ix_str pe_s pe_s hs) (ha W σ H _ A fun v1 H1 e1 r1 => hb W σ H1 _ (A.same e1) fun v2 H2 e2 r2 =>
    ⟨z, i, c, dp_str_inv r1, dp_int_inv r2, by rw [sizeLine_eq]; omega, hd, q _ H2 (e1.trans e2) (.str _)⟩)
/-! ### slices -/
def EO (X : Cx) (F : Fc) (env : List Sl) (eo : Option Expr) (o : Option Int) : Prop := ∀ W σ H Q, At F W env σ H → (∀ H', Same H H' → Q o H') → ∀ t : TO, (∀ e, eo = some e → t = tPart (sE X e)) → (eo = none → t = tNoPart) → t σ H Q
theorem eo_none : EO X F env none none := fun W σ H Q A q t _ h => by
  rw [h rfl]
  exact q H (Same.refl H)
theorem eo_some {i : Int} (h : EE X F env e (.int i)) : EO X F env (some e) (some i) := fun W σ H Q A q t ht _ => by
  rw [ht e rfl]
  exact h W σ H _ A fun v H' e' r => ⟨i, dp_int_inv r, q H' e'⟩
noncomputable def sO (X : Cx) : Option Expr → TO
  | none => tNoPart
  | some e => tPart (sE X e)
theorem po_s (eo : Option Expr) : PO X eo (sO X eo) := by
  cases eo with
  | none => exact po_none
  | some e => exact po_some pe_s
theorem EO.run {eo : Option Expr} {o : Option Int} (h : EO X F env eo o) {W : Ws} {σ : L2.St} {H : Hp} {Q : Option Int → Hp → Prop} (A : At F W env σ H) (q : ∀ H', Same H H' → Q o H') : sO X eo σ H Q :=
  h W σ H Q A q (sO X eo) (fun e he => by subst he; rfl) (fun he => by subst he; rfl)
def cutD {α : Type} (xs : List α) (lo hi : Option Int) : List α := (xs.drop (HT.sIx xs.length 0 lo)).take (HT.sIx xs.length xs.length hi - HT.sIx xs.length 0 lo)
theorem cut_is {K : PySem.W.Frag} {H : Hp} {vs : List V} (h : IsA K H vs ds) (lo hi : Option Int) : IsA K H (cutV vs lo hi) (cutD ds lo hi) := by
  unfold cutV cutD
  rw [dpa_len h]
  exact dpa_take _ (dpa_drop _ h)
theorem cut_whole {α : Type} {xs : List α} {lo hi : Option Int} (h : HT.sIx xs.length 0 lo = 0 ∧ HT.sIx xs.length xs.length hi = xs.length) : cutD xs lo hi = xs := by
  unfold cutD
  rw [h.1, h.2, List.drop_zero, Nat.sub_zero, List.take_length]
theorem ee_slT {lo hi : Option Expr} {l u : Option Int} {p2 : Pos} (ha : EE X F env a (.tuple ds)) (hl : EO X F env lo l) (hu : EO X F env hi u) (hk : X.K = F.K := by rfl) : EE X F env (.Subscript a (.Slice lo hi none p2) pos) (.tuple (cutD ds l u)) := fun W σ H Q A q =>
  sE_of (pe_slice sl_tupA pe_s (po_s lo) (po_s hi)) (ha W σ H _ A fun v1 H1 e1 r1 => hl.run (A.same e1) fun H2 e2 => hu.run (A.same (e1.trans e2)) fun H3 e3 => by
    obtain ⟨p, vs, rfl, g1, g2⟩ := dp_tup_inv r1
    have g3 := dpa_same (hide_same (e2.trans e3)) g2
    have e13 := (e1.trans e2).trans e3
    refine ⟨p, vs, rfl, by rw [hk]; exact seqT_same hide_le (seqT_same (hide_same (e2.trans e3)) g1), fun hw => q _ H3 e13 ?_, fun hw p2 hp => ?_⟩
    · rw [dpa_len g2] at hw
      rw [cut_whole hw]
      exact .tup (seqT_same (hide_same (e2.trans e3)) g1) g3
    · have A3 := A.same e13
      have nW : ¬ W p2 := fun z => A3.dom p2 z hp
      have s3 := same_new (o := HO.tup (cutV vs l u)) hp
      refine q _ _ (e13.trans s3) (.tup ?_ (cut_is (dpa_same (hide_same s3) g3) _ _))
      exact SqT.of (by rw [hide_at nW]; exact upd_same))
theorem ee_slL {lo hi : Option Expr} {l u : Option Int} {p2 : Pos} (ha : EL X F env a ds) (hl : EO X F env lo l) (hu : EO X F env hi u) (hk : X.K = F.K := by rfl) : EE X F env (.Subscript a (.Slice lo hi none p2) pos) (.list (cutD ds l u)) := fun W σ H Q A q =>
  sE_of (pe_slice sl_list pe_s (po_s lo) (po_s hi)) (ha W σ H _ A fun p vs H1 e1 g1 g2 => hl.run (A.same e1) fun H2 e2 => hu.run (A.same (e1.trans e2)) fun H3 e3 => by
    have g3 := dpa_same (hide_same (e2.trans e3)) g2
    have e13 := (e1.trans e2).trans e3
    refine ⟨p, vs, rfl, SqL.of (e3 _ _ (e2 _ _ g1)), fun p2 hp => ?_⟩
    have A3 := A.same e13
    have nW : ¬ W p2 := fun z => A3.dom p2 z hp
    have s3 := same_new (o := HO.lst (cutV vs l u)) hp
    refine q _ _ (e13.trans s3) (.lst ?_ (cut_is (dpa_same (hide_same s3) g3) _ _))
    rw [hide_at nW]
    exact upd_same)
theorem ee_slS {z : Str} {lo hi : Option Expr} {l u : Option Int} {p2 : Pos} (ha : EE X F env a (.str z)) (hl : EO X F env lo l) (hu : EO X F env hi u) (hz : z.length ≤ 100000) : EE X F env (.Subscript a (.Slice lo hi none p2) pos) (.str (cutS z l u)) := fun W σ H Q A q =>
  sE_of (pe_slice sl_str pe_s (po_s lo) (po_s hi)) (ha W σ H _ A fun v1 H1 e1 r1 => hl.run (A.same e1) fun H2 e2 => hu.run (A.same (e1.trans e2)) fun H3 e3 =>
    ⟨z, dp_str_inv r1, by rw [sizeLine_eq]; omega, q _ H3 ((e1.trans e2).trans e3) (.str _)⟩)
theorem is_rev {K : PySem.W.Frag} {H : Hp} : ∀ {vs : List V} {ds : List D}, IsA K H vs ds → IsA K H vs.reverse ds.reverse
  | _, _, .nil => .nil
  | _, _, .cons h t => by
    rw [List.reverse_cons, List.reverse_cons]
    exact dpa_app (is_rev t) (.cons h .nil)
theorem ee_rev {k : Nat} {p1 p2 p3 : Pos} (ha : EL X F env a ds) (hk : X.K = F.K := by rfl) : EE X F env (.Subscript a (.Slice none none (some (.UnaryOp .USub (.Constant (.int 1) k p1) p2)) p3) pos) (.list ds.reverse) := fun W σ H Q A q =>
  sE_of (pe_revL pe_s) (ha W σ H _ A fun p vs H1 e1 g1 g2 => by
    refine ⟨p, vs, rfl, SqL.of g1, fun p2 hp => ?_⟩
    have A3 := A.same e1
    have nW : ¬ W p2 := fun z => A3.dom p2 z hp
    have s3 := same_new (o := HO.lst vs.reverse) hp
    refine q _ _ (e1.trans s3) (.lst ?_ (is_rev (dpa_same (hide_same s3) g2)))
    rw [hide_at nW]
    exact upd_same)
/-! ### arguments, displays -/
theorem ea_nil : EA X F env [] [] := fun W σ H Q A q => sA_of pa_nil (q [] H (Same.refl H) .nil)
theorem ea_cons (h : EE X F env e d) (t : EA X F env es ds) (hs : starEach (e :: es) X.env = (false, eval e X.env) :: starEach es X.env := by rfl) : EA X F env (e :: es) (d :: ds) := fun W σ H Q A q =>
  sA_of (pa_cons pe_s pa_s hs) (h W σ H _ A fun v H1 e1 r1 => t W σ H1 _ (A.same e1) fun vs H2 e2 r2 => q (v :: vs) H2 (e1.trans e2) (.cons (dp_same (hide_same e2) r1) r2))
theorem eas_nil : EAs X F env [] [] := fun W σ H Q A q => sA_of pa_nil (q [] H (Same.refl H) .nil)
theorem eas_cons {ss : List Sl} (h : EE X F env e d) (t : EAs X F env es ss) (hs : starEach (e :: es) X.env = (false, eval e X.env) :: starEach es X.env := by rfl) : EAs X F env (e :: es) (.val d :: ss) := fun W σ H Q A q =>
  sA_of (pa_cons pe_s pa_s hs) (h W σ H _ A fun v H1 e1 r1 => t W σ H1 _ (A.same e1) fun vs H2 e2 r2 => q (v :: vs) H2 (e1.trans e2) (.cons (.val (dp_same (hide_same e2) r1)) r2))
/-- a list of one's own is handed in to be read -/
theorem eas_lst {ss : List Sl} {x : Str} {ppos : Pos} (i : Nat) (t : EAs X F env es ss) (hi : env[i]? = some (.lst ds) := by rfl) (hN : X.N[i]? = some x := by rfl) (hv : Vis X.env.scope x := by first | exact Or.inl rfl | exact Or.inr (Or.inl rfl) | exact Or.inr (Or.inr rfl))
    (hd : (x == ("__debug__" : Str)) = false := by decide) (hcd : (x == ("__classdict__" : Str)) = false := by decide)
    (hs : starEach (.Name x ppos :: es) X.env = (false, eval (.Name x ppos) X.env) :: starEach es X.env := by rfl) : EAs X F env (.Name x ppos :: es) (.ro ds :: ss) := fun W σ H Q A q => by
  obtain ⟨l, vs, h1, h2, h3, h4⟩ := A.ok i _ hi
  exact sA_of (pa_cons (pe_var hN hv hd hcd) pa_s hs) ⟨_, slot_some h1, t W σ H _ A fun ws H2 e2 r2 => q _ H2 e2 (.cons (.ro h2 (e2 _ _ h3) (dpa_same (hide_same e2) h4)) r2)⟩
theorem eas_ro {ss : List Sl} {x : Str} {ppos : Pos} (i : Nat) (t : EAs X F env es ss) (hi : env[i]? = some (.ro ds) := by rfl) (hN : X.N[i]? = some x := by rfl) (hv : Vis X.env.scope x := by first | exact Or.inl rfl | exact Or.inr (Or.inl rfl) | exact Or.inr (Or.inr rfl))
    (hd : (x == ("__debug__" : Str)) = false := by decide) (hcd : (x == ("__classdict__" : Str)) = false := by decide)
    (hs : starEach (.Name x ppos :: es) X.env = (false, eval (.Name x ppos) X.env) :: starEach es X.env := by rfl) : EAs X F env (.Name x ppos :: es) (.ro ds :: ss) := fun W σ H Q A q => by
  obtain ⟨l, vs, h1, h2, h3, h4⟩ := A.ok i _ hi
  exact sA_of (pa_cons (pe_var hN hv hd hcd) pa_s hs) ⟨_, slot_some h1, t W σ H _ A fun ws H2 e2 r2 => q _ H2 e2 (.cons (.ro h2.1 (e2 _ _ h3) (dpa_same (hide_same e2) h4)) r2)⟩
theorem ee_tup {k} (h : EA X F env es ds) (hz : ds.length ≤ 100000 := by (first | decide | (simp only [List.length_cons, List.length_nil]; omega))) : EE X F env (.Tuple es k pos) (.tuple ds) := fun W σ H Q A q =>
  sE_of (pe_tup pa_s) (h W σ H _ A fun vs H1 e1 r1 => ⟨by rw [dpa_len r1, sizeLine_eq]; omega, fun p hp => by
    have nW : ¬ W p := fun z => (A.same e1).dom p z hp
    have s3 := same_new (o := HO.tup vs) hp
    refine q _ _ (e1.trans s3) (.tup ?_ (dpa_same (hide_same s3) r1))
    exact SqT.of (by rw [hide_at nW]; exact upd_same)⟩)
theorem ee_lst (h : EA X F env es ds) (hz : ds.length ≤ 100000 := by (first | decide | (simp only [List.length_cons, List.length_nil]; omega))) : EE X F env (.List es pos) (.list ds) := fun W σ H Q A q =>
  sE_of (pe_lst pa_s) (h W σ H _ A fun vs H1 e1 r1 => ⟨by rw [dpa_len r1, sizeLine_eq]; omega, fun p hp => by
    have nW : ¬ W p := fun z => (A.same e1).dom p z hp
    have s3 := same_new (o := HO.lst vs) hp
    refine q _ _ (e1.trans s3) (.lst ?_ (dpa_same (hide_same s3) r1))
    rw [hide_at nW]
    exact upd_same⟩)
/-! ### built-in calls -/
theorem ee_callB {id : String} {x : Str} {p : Pos} {r : List V → Hp → VK → Prop} (hc : CallR X (.builtin id) r) (hg : Gl X x) (hm : X.mg x = none) (hv : bootBuiltins x = some (.builtin id)) (ha : EA X F env (e :: es) ds)
    (sem : ∀ W H vs Q, DomW W H → IsA F.K (hide W H) vs ds → (∀ v H', Same H H' → Is F.K (hide W H') v d → Q v H') → r vs H Q)
    (hn : x ≠ "__name__" := by decide) (hdb : (x == ("__debug__" : Str)) = false := by decide)
    (he : starEach (e :: es) X.env = (false, eval e X.env) :: starEach es X.env := by rfl) (hpl : (backTo pos (starEach es X.env)).any (·.1) = false := by rfl) : EE X F env (.Call (.Name x p) (e :: es) [] pos) d := fun W σ H Q A q =>
  sE_of (pe_callB hc hg hm hv pa_s hn hdb he hpl) (ha W σ H _ A fun vs H1 e1 r1 => sem W H1 vs Q (A.same e1).dom r1 fun v H' e2 r2 => q v H' (e1.trans e2) r2)
theorem ee_callTy {T : String} {x : Str} {p : Pos} {r : List V → Hp → VK → Prop} (hc : CallR X (.type T) r) (hg : Gl X x) (hm : X.mg x = none) (hv : bootBuiltins x = some (.type T)) (ha : EA X F env (e :: es) ds)
    (sem : ∀ W H vs Q, DomW W H → IsA F.K (hide W H) vs ds → (∀ v H', Same H H' → Is F.K (hide W H') v d → Q v H') → r vs H Q)
    (hn : x ≠ "__name__" := by decide) (hdb : (x == ("__debug__" : Str)) = false := by decide)
    (he : starEach (e :: es) X.env = (false, eval e X.env) :: starEach es X.env := by rfl) (hpl : (backTo pos (starEach es X.env)).any (·.1) = false := by rfl) : EE X F env (.Call (.Name x p) (e :: es) [] pos) d := fun W σ H Q A q =>
  sE_of (pe_callTy hc hg hm hv pa_s hn hdb he hpl) (ha W σ H _ A fun vs H1 e1 r1 => sem W H1 vs Q (A.same e1).dom r1 fun v H' e2 r2 => q v H' (e1.trans e2) r2)
/-- .. of one list, one's own perhaps -/
theorem ee_callBL {id : String} {x : Str} {p : Pos} {r : List V → Hp → VK → Prop} (hc : CallR X (.builtin id) r) (hg : Gl X x) (hm : X.mg x = none) (hv : bootBuiltins x = some (.builtin id)) (ha : EL X F env e ds)
    (sem : ∀ W H l vs Q, DomW W H → H l = some (.lst vs) → IsA F.K (hide W H) vs ds → (∀ v H', Same H H' → Is F.K (hide W H') v d → Q v H') → r [.ref l] H Q)
    (hn : x ≠ "__name__" := by decide) (hdb : (x == ("__debug__" : Str)) = false := by decide)
    (he : starEach [e] X.env = (false, eval e X.env) :: starEach [] X.env := by rfl) (hpl : (backTo pos (starEach [] X.env)).any (·.1) = false := by rfl) : EE X F env (.Call (.Name x p) [e] [] pos) d := fun W σ H Q A q =>
  sE_of (pe_callB hc hg hm hv (pa_cons pe_s pa_nil he) hn hdb he hpl) (ha W σ H _ A fun l vs H1 e1 h1 r1 => sem W H1 l vs Q (A.same e1).dom h1 r1 fun v H' e2 r2 => q v H' (e1.trans e2) r2)
theorem ee_callTyL {T : String} {x : Str} {p : Pos} {r : List V → Hp → VK → Prop} (hc : CallR X (.type T) r) (hg : Gl X x) (hm : X.mg x = none) (hv : bootBuiltins x = some (.type T)) (ha : EL X F env e ds)
    (sem : ∀ W H l vs Q, DomW W H → H l = some (.lst vs) → IsA F.K (hide W H) vs ds → (∀ v H', Same H H' → Is F.K (hide W H') v d → Q v H') → r [.ref l] H Q)
    (hn : x ≠ "__name__" := by decide) (hdb : (x == ("__debug__" : Str)) = false := by decide)
    (he : starEach [e] X.env = (false, eval e X.env) :: starEach [] X.env := by rfl) (hpl : (backTo pos (starEach [] X.env)).any (·.1) = false := by rfl) : EE X F env (.Call (.Name x p) [e] [] pos) d := fun W σ H Q A q =>
  sE_of (pe_callTy hc hg hm hv (pa_cons pe_s pa_nil he) hn hdb he hpl) (ha W σ H _ A fun l vs H1 e1 h1 r1 => sem W H1 l vs Q (A.same e1).dom h1 r1 fun v H' e2 r2 => q v H' (e1.trans e2) r2)
theorem ee_lenL {p : Pos} (hm : X.mg "len" = none) (ha : EL X F env e ds) (hg : Gl X "len" := by rfl) (hk : X.K = F.K := by rfl)
    (he : starEach [e] X.env = (false, eval e X.env) :: starEach [] X.env := by rfl) (hpl : (backTo pos (starEach [] X.env)).any (·.1) = false := by rfl) : EE X F env (.Call (.Name "len" p) [e] [] pos) (.int ds.length) :=
  ee_callBL call_len_seq hg hm PySem.boot_len ha (fun W H l vs Q _ h1 r1 q => ⟨l, vs, rfl, .inl (SqL.of h1), by rw [dpa_len r1]; exact q _ H (Same.refl H) (.int _)⟩) (by decide) (by decide) he hpl
theorem ee_lenT {p : Pos} (hm : X.mg "len" = none) (ha : EE X F env e (.tuple ds)) (hg : Gl X "len" := by rfl) (hk : X.K = F.K := by rfl)
    (he : starEach [e] X.env = (false, eval e X.env) :: starEach [] X.env := by rfl) (hpl : (backTo pos (starEach [] X.env)).any (·.1) = false := by rfl) : EE X F env (.Call (.Name "len" p) [e] [] pos) (.int ds.length) :=
  ee_callB call_len_seq hg hm PySem.boot_len (ea_cons ha ea_nil he) (fun W H vs Q _ r1 q => by
    cases r1 with
    | cons h t =>
      cases t
      obtain ⟨a, ws, rfl, g1, g2⟩ := dp_tup_inv h
      exact ⟨a, ws, rfl, .inr (by rw [hk]; exact seqT_same hide_le g1), by rw [dpa_len g2]; exact q _ H (Same.refl H) (.int _)⟩) (by decide) (by decide) he hpl
theorem ee_lenS {p : Pos} {z : Str} (hm : X.mg "len" = none) (ha : EE X F env e (.str z)) (hz : z.length ≤ 100000) (hg : Gl X "len" := by rfl)
    (he : starEach [e] X.env = (false, eval e X.env) :: starEach [] X.env := by rfl) (hpl : (backTo pos (starEach [] X.env)).any (·.1) = false := by rfl) : EE X F env (.Call (.Name "len" p) [e] [] pos) (.int z.length) :=
  ee_callB call_len_str hg hm PySem.boot_len (ea_cons ha ea_nil he) (fun W H vs Q _ r1 q => by
    cases r1 with
    | cons h t =>
      cases t
      exact ⟨z, by rw [dp_str_inv h], by rw [sizeLine_eq]; omega, q _ H (Same.refl H) (.int _)⟩) (by decide) (by decide) he hpl
/-- list(xs) of a list, of a tuple -/
theorem ee_listL {p : Pos} (hm : X.mg "list" = none) (ha : EL X F env e ds) (hg : Gl X "list" := by rfl)
    (he : starEach [e] X.env = (false, eval e X.env) :: starEach [] X.env := by rfl) (hpl : (backTo pos (starEach [] X.env)).any (·.1) = false := by rfl) : EE X F env (.Call (.Name "list" p) [e] [] pos) (.list ds) :=
  ee_callTyL call_list_of hg hm (by decide +kernel) ha (fun W H l vs Q dom h1 r1 q => ⟨l, vs, rfl, .inl (SqL.of h1), fun p hp => by
    have nW : ¬ W p := fun z => dom p z hp
    have s3 := same_new (o := HO.lst vs) hp
    refine q _ _ s3 (.lst ?_ (dpa_same (hide_same s3) r1))
    rw [hide_at nW]
    exact upd_same⟩) (by decide) (by decide) he hpl
theorem ee_listT {p : Pos} (hm : X.mg "list" = none) (ha : EE X F env e (.tuple ds)) (hg : Gl X "list" := by rfl) (hk : X.K = F.K := by rfl)
    (he : starEach [e] X.env = (false, eval e X.env) :: starEach [] X.env := by rfl) (hpl : (backTo pos (starEach [] X.env)).any (·.1) = false := by rfl) : EE X F env (.Call (.Name "list" p) [e] [] pos) (.list ds) :=
  ee_callTy call_list_of hg hm (by decide +kernel) (ea_cons ha ea_nil he) (fun W H vs Q dom r1 q => by
    cases r1 with
    | cons h t =>
      cases t
      obtain ⟨a, ws, rfl, g1, g2⟩ := dp_tup_inv h
      refine ⟨a, ws, rfl, .inr (by rw [hk]; exact seqT_same hide_le g1), fun p hp => ?_⟩
      have nW : ¬ W p := fun z => dom p z hp
      have s3 := same_new (o := HO.lst ws) hp
      refine q _ _ s3 (.lst ?_ (dpa_same (hide_same s3) g2))
      rw [hide_at nW]
      exact upd_same) (by decide) (by decide) he hpl
theorem ee_tupleL {p : Pos} (hm : X.mg "tuple" = none) (ha : EL X F env e ds) (hg : Gl X "tuple" := by rfl)
    (he : starEach [e] X.env = (false, eval e X.env) :: starEach [] X.env := by rfl) (hpl : (backTo pos (starEach [] X.env)).any (·.1) = false := by rfl) : EE X F env (.Call (.Name "tuple" p) [e] [] pos) (.tuple ds) :=
  ee_callTyL call_tuple_of hg hm (by decide +kernel) ha (fun W H l vs Q dom h1 r1 q => ⟨l, vs, rfl, .inl ⟨SqL.of h1, fun p hp => by
    have nW : ¬ W p := fun z => dom p z hp
    have s3 := same_new (o := HO.tup vs) hp
    refine q _ _ s3 (.tup ?_ (dpa_same (hide_same s3) r1))
    exact SqT.of (by rw [hide_at nW]; exact upd_same)⟩⟩) (by decide) (by decide) he hpl
theorem ee_sum {p : Pos} {ns : List Int} (hm : X.mg "sum" = none) (hc : X.calm = true) (ha : EL X F env e (ns.map PyData.int)) (hg : Gl X "sum" := by rfl) (hk : X.K = F.K := by rfl)
    (he : starEach [e] X.env = (false, eval e X.env) :: starEach [] X.env := by rfl) (hpl : (backTo pos (starEach [] X.env)).any (·.1) = false := by rfl) : EE X F env (.Call (.Name "sum" p) [e] [] pos) (.int ns.sum) :=
  ee_callBL (cr_sum hc) hg hm (by decide +kernel) ha (fun W H l vs Q dom h1 r1 q => ⟨l, ns, rfl, SqL.of (by rw [h1, dpa_ints r1]), q _ H (Same.refl H) (.int _)⟩) (by decide) (by decide) he hpl
theorem dpa_bools {K : PySem.W.Frag} {H : Hp} : ∀ {vs : List V} {bs : List Bool}, IsA K H vs (bs.map PyData.bool) → vs = bs.map V.bl
  | _, [], .nil => rfl
  | _, n :: ns, .cons h t => by
    cases h
    rw [dpa_bools t] <;> rfl
theorem ee_all {p : Pos} {bs : List Bool} (hm : X.mg "all" = none) (hc : X.calm = true) (ha : EL X F env e (bs.map PyData.bool)) (hg : Gl X "all" := by rfl) (hk : X.K = F.K := by rfl)
    (he : starEach [e] X.env = (false, eval e X.env) :: starEach [] X.env := by rfl) (hpl : (backTo pos (starEach [] X.env)).any (·.1) = false := by rfl) : EE X F env (.Call (.Name "all" p) [e] [] pos) (.bool (bs.all id)) :=
  ee_callBL (cr_all hc) hg hm (by decide +kernel) ha (fun W H l vs Q dom h1 r1 q => ⟨l, bs, rfl, SqL.of (by rw [h1, dpa_bools r1]), q _ H (Same.refl H) (.bl _)⟩) (by decide) (by decide) he hpl
theorem ee_abs {p : Pos} {i : Int} (hm : X.mg "abs" = none) (ha : EE X F env e (.int i)) (hg : Gl X "abs" := by rfl)
    (he : starEach [e] X.env = (false, eval e X.env) :: starEach [] X.env := by rfl) (hpl : (backTo pos (starEach [] X.env)).any (·.1) = false := by rfl) : EE X F env (.Call (.Name "abs" p) [e] [] pos) (.int (i.natAbs : Int)) :=
  ee_callB call_abs hg hm (by decide +kernel) (ea_cons ha ea_nil he) (fun W H vs Q dom r1 q => by
    cases r1 with
    | cons h t =>
      cases t
      refine ⟨i, by rw [dp_int_inv h], ?_⟩
      rw [show (if i < 0 then -i else i) = (i.natAbs : Int) by split <;> omega]
      exact q _ H (Same.refl H) (.int _)) (by decide) (by decide) he hpl
/-- int(b) of a truth -/
theorem ee_intB {p : Pos} {c : Bool} (hm : X.mg "int" = none) (ha : EE X F env e (.bool c)) (hg : Gl X "int" := by rfl)
    (he : starEach [e] X.env = (false, eval e X.env) :: starEach [] X.env := by rfl) (hpl : (backTo pos (starEach [] X.env)).any (·.1) = false := by rfl) : EE X F env (.Call (.Name "int" p) [e] [] pos) (.int (if c then 1 else 0)) :=
  ee_callTy call_int1 hg hm (by decide +kernel) (ea_cons ha ea_nil he) (fun W H vs Q dom r1 q => by
    cases r1 with
    | cons h t =>
      cases t
      exact .inr ⟨c, by rw [dp_bl_inv h], q _ H (Same.refl H) (.int _)⟩) (by decide) (by decide) he hpl
/-- int(text) -/
theorem ee_intS {p : Pos} {z : Str} {n : Int} (hm : X.mg "int" = none) (ha : EE X F env e (.str z)) (hz : PySem.intText? z = some n) (hl : z.length ≤ 640) (hg : Gl X "int" := by rfl)
    (he : starEach [e] X.env = (false, eval e X.env) :: starEach [] X.env := by rfl) (hpl : (backTo pos (starEach [] X.env)).any (·.1) = false := by rfl) : EE X F env (.Call (.Name "int" p) [e] [] pos) (.int n) :=
  ee_callTy call_int_str hg hm (by decide +kernel) (ea_cons ha ea_nil he) (fun W H vs Q dom r1 q => by
    cases r1 with
    | cons h t =>
      cases t
      exact ⟨z, n, by rw [dp_str_inv h], hz, hl, q _ H (Same.refl H) (.int _)⟩) (by decide) (by decide) he hpl
/-- sorted(xs) of ints -/
def sortI (ns : List Int) : List Int := ns.mergeSort (fun a b => decide (a ≤ b))
theorem sort_one : ∀ {as bs : List Int}, as.Perm bs → as.Pairwise (· ≤ ·) → bs.Pairwise (· ≤ ·) → as = bs
  | [], bs, p, _, _ => p.symm.eq_nil.symm ▸ rfl
  | a :: as, [], p, _, _ => absurd p.eq_nil (by simp)
  | a :: as, b :: bs, p, h1, h2 => by
    obtain ⟨a1, a2⟩ := List.pairwise_cons.mp h1
    obtain ⟨b1, b2⟩ := List.pairwise_cons.mp h2
    have e : a = b := by
      have m1 : a ∈ b :: bs := p.mem_iff.mp List.mem_cons_self
      have m2 : b ∈ a :: as := p.mem_iff.mpr List.mem_cons_self
      rcases List.mem_cons.mp m1 with e | m1
      · exact e
      · rcases List.mem_cons.mp m2 with e | m2
        · exact e.symm
        · have := a1 b m2
          have := b1 a m1
          omega
    subst e
    rw [sort_one ((List.perm_cons a).mp p) a2 b2]
theorem sortI_perm (ns : List Int) : (sortI ns).Perm ns := List.mergeSort_perm _ _
theorem sortI_le (ns : List Int) : (sortI ns).Pairwise (· ≤ ·) := by
  have h := List.pairwise_mergeSort (le := fun a b : Int => decide (a ≤ b)) (fun a b c h1 h2 => by
    have h1 := of_decide_eq_true h1
    have h2 := of_decide_eq_true h2
    exact decide_eq_true (by omega)) (fun a b => by
    by_cases h : a ≤ b
    · rw [decide_eq_true h]; rfl
    · rw [decide_eq_true (show b ≤ a by omega), Bool.or_true]) ns
  exact h.imp fun {a b} h => of_decide_eq_true h
theorem ee_sorted {p : Pos} {ns : List Int} (hm : X.mg "sorted" = none) (ha : EL X F env e (ns.map PyData.int)) (hg : Gl X "sorted" := by rfl)
    (he : starEach [e] X.env = (false, eval e X.env) :: starEach [] X.env := by rfl) (hpl : (backTo pos (starEach [] X.env)).any (·.1) = false := by rfl) : EE X F env (.Call (.Name "sorted" p) [e] [] pos) (.list ((sortI ns).map PyData.int)) :=
  ee_callBL cr_sortedI hg hm (by decide +kernel) ha (fun W H l vs Q dom h1 r1 q => ⟨l, ns, rfl, SqL.of (by rw [h1, dpa_ints r1]), fun ns' p pm pw hp => by
    have e : ns' = sortI ns := sort_one (pm.trans (sortI_perm ns).symm) pw (sortI_le ns)
    subst e
    have nW : ¬ W p := fun z => dom p z hp
    have s3 := same_new (o := HO.lst ((sortI ns).map V.int)) hp
    refine q _ _ s3 (.lst ?_ (dpa_of_ints _))
    rw [hide_at nW]
    exact upd_same⟩) (by decide) (by decide) he hpl
/-! ### isinstance of a built-in class -/
def tyN : D → String
  | .none => "NoneType"
  | .bool _ => "bool"
  | .int _ => "int"
  | .str _ => "str"
  | .list _ => "list"
  | .tuple _ => "tuple"
  | .dict _ => "dict"
theorem tyX_of {K : PySem.W.Frag} {H : Hp} {v : V} {d : D} (h : Is K H v d) : TyX K H v (.type (tyN d)) := by
  cases h with
  | non => exact .base .non
  | bl b => exact .base (.bl b)
  | int i => exact .base (.int i)
  | str x => exact .base (.str x)
  | lst h _ => exact .base (.lst h)
  | dct h => exact .base (.dK h)
  | tup h _ =>
    rcases h with (h | ⟨o, h⟩) | ⟨o, its, n, h1, h2, _⟩
    · exact .base (.tup h)
    · exact .fTuple h
    · exact .kTuple h1 h2
theorem ee_isi {c : Bool} {x : Str} {n : String} {p p2 : Pos} (hm : X.mg "isinstance" = none) (hx : X.mg x = none) (hv : bootBuiltins x = some (.type n)) (ha : EE X F env e d) (hkit : kitB (tyN d) n = some c) (hg : Gl X "isinstance" := by rfl) (hgx : Gl X x := by rfl) (hk : X.K = F.K := by rfl)
    (hn : x ≠ "__name__" := by decide) (hdb : (x == ("__debug__" : Str)) = false := by decide)
    (he : starEach [e, .Name x p2] X.env = (false, eval e X.env) :: starEach [.Name x p2] X.env := by rfl) (he2 : starEach [.Name x p2] X.env = (false, eval (.Name x p2) X.env) :: starEach [] X.env := by rfl) (hpl : (backTo pos (starEach [.Name x p2] X.env)).any (·.1) = false := by rfl) :
    EE X F env (.Call (.Name "isinstance" p) [e, .Name x p2] [] pos) (.bool c) := fun W σ H Q A q =>
  sE_of (pe_callB call_isi hg hm (by decide +kernel) (pa_cons pe_s (pa_cons (pe_bltn (v := .ty n) hgx hx hv rfl hn hdb) pa_nil he2) he) (by decide) (by decide) he hpl)
    (ha W σ H _ A fun v H1 e1 r1 => ⟨v, .ty n, .type (tyN d), .type n, c, rfl, .ty n, by rw [hk]; exact tyX_of (dp_same hide_le r1), kit_ty hkit, q _ H1 e1 (.bl _)⟩)
/-! ### a def of one's own -/
/-- a def that changes nothing: P tells what it gives -/
def spD (K : PySem.W.Frag) (P : List Sl → D → Prop) : Sp := fun vs H Q _ => ∃ W ss d, DomW W H ∧ Args K W H vs ss ∧ P ss d ∧ ∀ v H', Same H H' → Is K (hide W H') v d → Q v H'
theorem ee_call {k : Nat} {f : Addr} {fd : FuncData} {ps : List Str} {P : List Sl → D → Prop} {x : Str} {p : Pos} {ss : List Sl} (G : FnOk X.prog X.w X.K X.mg X.base CX0 k f fd ps (spD F.K P)) (hr : Room k X.A) (hm : X.mg x = some (.ref f)) (kp : PySem.W.keepIn X.K (.ref f) = true) (hb : Binds X.K fd ps [])
    (ha : EAs X F env (e :: es) ss) (hP : P ss d) (hg : Gl X x := by rfl) (hdb : (x == ("__debug__" : Str)) = false := by decide)
    (he : starEach (e :: es) X.env = (false, eval e X.env) :: starEach es X.env := by rfl) (hpl : (backTo pos (starEach es X.env)).any (·.1) = false := by rfl) : EE X F env (.Call (.Name x p) (e :: es) [] pos) d := fun W σ H Q A q =>
  sE_of (pe_call G hr hg hm kp hb .nil pass0 pa_s hdb he hpl) (ha W σ H _ A fun vs H1 e1 r1 => by
    rw [List.append_nil]
    exact ⟨W, ss, d, (A.same e1).dom, r1, hP, fun v H' e2 r2 => q v H' (e1.trans e2) r2⟩)
end
end Tf
end
section
set_option maxHeartbeats 1000000
/-! What is walked, targets, comprehensions. -/
namespace Tf
open PySem PySem.Spec PyProof.Rows L2
/-- J gives ds: while what is told by G stands it goes; what it gives is told by GV -/
structure WkD (K : PySem.W.Frag) (G GV : Hp) (J : It) (ds : List D) : Prop where
  go : ∀ i H2, i < ds.length → Same G H2 → J.go i H2
  stop : ∀ H2, Same G H2 → J.stop ds.length H2
  yld : ∀ i d H2 x H3 W2, ds[i]? = some d → Same G H2 → J.yld i H2 x H3 → Same GV (hide W2 H2) → DomW W2 H2 → Same H2 H3 ∧ Is K (hide W2 H3) x d
theorem WkD.mono {K : PySem.W.Frag} {G G' GV : Hp} {J : It} {ds : List D} (w : WkD K G GV J ds) (e : Same G G') : WkD K G' GV J ds :=
  ⟨fun i H2 hi s => w.go i H2 hi (e.trans s), fun H2 s => w.stop H2 (e.trans s), fun i d H2 x H3 W2 hd s y g dm => w.yld i d H2 x H3 W2 hd (e.trans s) y g dm⟩
/-- what is walked, whatever the block changes -/
def EI (X : Cx) (F : Fc) (env : List Sl) (tg iter : Expr) (ds : List D) : Prop := ∀ W σ H R, At F W env σ H → (∀ J H', Same H H' → WkD F.K (hide W H') (hide W H') J ds → R J H') → sI X tg iter σ H R
/-- .. where the block changes nothing -/
def EM (X : Cx) (F : Fc) (env : List Sl) (tg iter : Expr) (ds : List D) : Prop := ∀ W σ H R, At F W env σ H → (∀ J H', Same H H' → WkD F.K H' (hide W H') J ds → R J H') → sI X tg iter σ H R
section
variable {X : Cx} {F : Fc} {env : List Sl} {e a b tg iter : Expr} {es : List Expr} {d d1 d2 : D} {ds : List D} {pos : Pos}
theorem EI.m (h : EI X F env tg iter ds) : EM X F env tg iter ds := fun W σ H R A q => h W σ H R A fun J H' e w => q J H' e (w.mono hide_le)
theorem EI.eq {ds' : List D} (h : EI X F env tg iter ds) (q : ds = ds') : EI X F env tg iter ds' := q ▸ h
theorem EM.eq {ds' : List D} (h : EM X F env tg iter ds) (q : ds = ds') : EM X F env tg iter ds' := q ▸ h
/-! ### sources -/
theorem wk_list {K : PySem.W.Frag} {G GV : Hp} {a : Addr} {vs : List V} (h : G a = some (.lst vs)) (hd : IsA K GV vs ds) : WkD K G GV (Itl K a) ds := by
  have hl := dpa_len hd
  refine ⟨fun i H2 hi s => ?_, fun H2 s => ⟨vs, SqL.of (s _ _ h), by omega⟩, fun i d H2 x H3 W2 hdi s y g dm => ?_⟩
  · have hv : i < vs.length := by omega
    exact ⟨vs, vs[i], SqL.of (s _ _ h), by simp [hv]⟩
  · obtain ⟨rfl, y⟩ := y
    obtain ⟨v, h1, h2⟩ := dpa_get hd hdi
    have := (y vs (SqL.of (s _ _ h))).symm.trans h1
    cases this
    exact ⟨Same.refl _, dp_same g h2⟩
theorem ei_list (ha : EE X F env e (.list ds)) (hk : X.K = F.K := by rfl) : EI X F env tg e ds := fun W σ H R A q =>
  sI_of (pi_list pe_s) (ha W σ H _ A fun v H1 e1 r1 => by
    obtain ⟨l, vs, rfl, h1, h2⟩ := dp_lst_inv r1
    exact ⟨l, rfl, ⟨vs, SqL.of (hide_le _ _ h1)⟩, by rw [hk]; exact q _ H1 e1 (wk_list h1 h2)⟩)
theorem em_list (ha : EL X F env e ds) (hk : X.K = F.K := by rfl) : EM X F env tg e ds := fun W σ H R A q =>
  sI_of (pi_list pe_s) (ha W σ H _ A fun l vs H1 e1 h1 h2 => ⟨l, rfl, ⟨vs, SqL.of h1⟩, by rw [hk]; exact q _ H1 e1 (wk_list h1 h2)⟩)
theorem ei_tup (ha : EE X F env e (.tuple ds)) (hk : X.K = F.K := by rfl) : EI X F env tg e ds := fun W σ H R A q =>
  sI_of (pi_tup pe_s) (ha W σ H _ A fun v H1 e1 r1 => by
    obtain ⟨a, vs, rfl, h1, h2⟩ := dp_tup_inv r1
    have hl := dpa_len h2
    refine ⟨a, rfl, ⟨vs, by rw [hk]; exact seqT_same hide_le h1⟩, ?_⟩
    rw [hk]
    refine q _ H1 e1 ⟨fun i H2 hi s => ?_, fun H2 s => ⟨vs, seqT_same s h1, by omega⟩, fun i d H2 x H3 W2 hdi s y g dm => ?_⟩
    · have hv : i < vs.length := by omega
      exact ⟨vs, vs[i], seqT_same s h1, by simp [hv]⟩
    · obtain ⟨rfl, y⟩ := y
      obtain ⟨v, h3, h4⟩ := dpa_get h2 hdi
      have := (y vs (seqT_same s h1)).symm.trans h3
      cases this
      exact ⟨Same.refl _, dp_same g h4⟩)
def rgD (lo : Int) (n : Nat) : List D := (List.range n).map fun (i : Nat) => PyData.int (lo + (i : Int))
theorem rgD_len (lo : Int) (n : Nat) : (rgD lo n).length = n := by simp [rgD]
theorem wk_range {K : PySem.W.Frag} {G GV : Hp} (lo : Int) (n : Nat) : WkD K G GV (Itr lo n) (rgD lo n) := by
  refine ⟨fun i H2 hi s => by rw [rgD_len] at hi; exact hi, fun H2 s => by rw [rgD_len]; exact Nat.le_refl n, fun i d H2 x H3 W2 hdi s y g dm => ?_⟩
  obtain ⟨rfl, rfl⟩ := y
  have hi : i < n := by
    have := (List.getElem?_eq_some_iff.mp hdi).1
    rwa [rgD_len] at this
  have e : d = .int (lo + (i : Int)) := by
    unfold rgD at hdi
    rw [List.getElem?_map, List.getElem?_range hi] at hdi
    exact (Option.some.inj hdi).symm
  subst e
  exact ⟨Same.refl _, .int _⟩
theorem ei_range1 {p : Pos} {n : Int} (hm : X.mg "range" = none) (ha : EE X F env a (.int n)) (hn : n ≤ 2 ^ 40) (h0 : - 2 ^ 40 ≤ n) (hg : Gl X "range" := by rfl) (hs : starEach [a] X.env = [(false, eval a X.env)] := by rfl)
    (hs' : starEach [a] X.env = (false, eval a X.env) :: starEach [] X.env := by rfl) : EI X F env tg (.Call (.Name "range" p) [a] [] pos) (rgD 0 n.toNat) := fun W σ H R A q =>
  sI_of (pi_range1 hg hm (pa_cons pe_s pa_nil hs') hs) (ha W σ H _ A fun v H1 e1 r1 => ⟨n, by rw [dp_int_inv r1], by omega, by omega, q _ H1 e1 (wk_range 0 _)⟩)
theorem ei_range2 {p : Pos} {lo n : Int} (hm : X.mg "range" = none) (ha : EE X F env a (.int lo)) (hb : EE X F env b (.int n)) (hn : n ≤ 2 ^ 40) (h0 : - 2 ^ 40 ≤ n) (hl : lo ≤ 2 ^ 40) (hl0 : - 2 ^ 40 ≤ lo) (hg : Gl X "range" := by rfl)
    (hs : starEach [a, b] X.env = [(false, eval a X.env), (false, eval b X.env)] := by rfl) (hs2 : starEach [b] X.env = [(false, eval b X.env)] := by rfl)
    (h1 : starEach [a, b] X.env = (false, eval a X.env) :: starEach [b] X.env := by rfl) (h2 : starEach [b] X.env = (false, eval b X.env) :: starEach [] X.env := by rfl) : EI X F env tg (.Call (.Name "range" p) [a, b] [] pos) (rgD lo (n - lo).toNat) := fun W σ H R A q =>
  sI_of (pi_range2 hg hm (pa_cons pe_s (pa_cons pe_s pa_nil h2) h1) hs hs2) (ha W σ H _ A fun v H1 e1 r1 => hb W σ H1 _ (A.same e1) fun v2 H2 e2 r2 =>
    ⟨lo, n, by rw [dp_int_inv r1, dp_int_inv r2], ⟨by omega, by omega, by omega, by omega⟩, q _ H2 (e1.trans e2) (wk_range lo _)⟩)
/-- a fresh pair -/
theorem pair_is {K : PySem.W.Frag} {H2 H3 : Hp} {W2 : Ws} {T : Addr} {x y : V} {d e : D} (nT : H2 T = none) (e3 : H3 = upd H2 T (.tup [x, y])) (dm : DomW W2 H2) (hx : Is K (hide W2 H2) x d) (hy : Is K (hide W2 H2) y e) : Same H2 H3 ∧ Is K (hide W2 H3) (.ref T) (.tuple [d, e]) := by
  subst e3
  have nW : ¬ W2 T := fun z => dm T z nT
  have s3 := same_new (o := HO.tup [x, y]) nT
  exact ⟨s3, .tup (SqT.of (by rw [hide_at nW]; exact upd_same)) (.cons (dp_same (hide_same s3) hx) (.cons (dp_same (hide_same s3) hy) .nil))⟩
def enD (ds : List D) : List D := ds.zipIdx.map fun p => .tuple [.int (p.2 : Int), p.1]
theorem enD_len (ds : List D) : (enD ds).length = ds.length := by simp [enD]
theorem enD_get {ds : List D} {i : Nat} {d : D} (h : (enD ds)[i]? = some d) : ∃ e, ds[i]? = some e ∧ d = .tuple [.int (i : Int), e] := by
  unfold enD at h
  rw [List.getElem?_map, List.getElem?_zipIdx] at h
  cases q : ds[i]? with
  | none => rw [q] at h; cases h
  | some e =>
    rw [q] at h
    refine ⟨e, rfl, ?_⟩
    have := (Option.some.inj h).symm
    simpa using this
theorem wk_enum {K : PySem.W.Frag} {G GV : Hp} {a : Addr} {vs : List V} (h : G a = some (.lst vs)) (hd : IsA K GV vs ds) : WkD K G GV (Ite K a) (enD ds) := by
  have hl := dpa_len hd
  have el := enD_len ds
  refine ⟨fun i H2 hi s => ?_, fun H2 s => ⟨vs, SqL.of (s _ _ h), by omega⟩, fun i d H2 x H3 W2 hdi s y g dm => ?_⟩
  · have hv : i < vs.length := by omega
    exact ⟨vs, vs[i], SqL.of (s _ _ h), by simp [hv]⟩
  · obtain ⟨T, z, rfl, nT, e3, y⟩ := y
    obtain ⟨e, he, rfl⟩ := enD_get hdi
    obtain ⟨v, h1, h2⟩ := dpa_get hd he
    have := (y vs (SqL.of (s _ _ h))).symm.trans h1
    cases this
    exact pair_is nT e3 dm (.int _) (dp_same g h2)
theorem ei_enum {p tpos : Pos} {elts : List Expr} {kk : Nat} (hm : X.mg "enumerate" = none) (ha : EE X F env e (.list ds)) (hg : Gl X "enumerate" := by rfl) (hs : starEach [e] X.env = [(false, eval e X.env)] := by rfl)
    (hs' : starEach [e] X.env = (false, eval e X.env) :: starEach [] X.env := by rfl) (hk : X.K = F.K := by rfl) : EI X F env (.Tuple elts kk tpos) (.Call (.Name "enumerate" p) [e] [] pos) (enD ds) := fun W σ H R A q =>
  sI_of (pi_enum hg hm (pa_cons pe_s pa_nil hs') hs) (ha W σ H _ A fun v H1 e1 r1 => by
    obtain ⟨l, vs, rfl, h1, h2⟩ := dp_lst_inv r1
    exact ⟨l, vs, rfl, SqL.of (hide_le _ _ h1), by rw [hk]; exact q _ H1 e1 (wk_enum h1 h2)⟩)
def zipD (ds es : List D) : List D := (ds.zip es).map fun p => .tuple [p.1, p.2]
theorem zipD_len (ds es : List D) : (zipD ds es).length = min ds.length es.length := by simp [zipD]
theorem zipD_get {ds es : List D} {i : Nat} {d : D} (h : (zipD ds es)[i]? = some d) : ∃ x y, ds[i]? = some x ∧ es[i]? = some y ∧ d = .tuple [x, y] := by
  unfold zipD at h
  rw [List.getElem?_map] at h
  cases q : (ds.zip es)[i]? with
  | none => rw [q] at h; cases h
  | some p =>
    rw [q] at h
    obtain ⟨h1, h2⟩ := List.getElem?_zip_eq_some.mp q
    exact ⟨p.1, p.2, h1, h2, (Option.some.inj h).symm⟩
theorem ei_zipL {p tpos : Pos} {elts : List Expr} {kk : Nat} {es : List D} (hm : X.mg "zip" = none) (ha : EE X F env a (.list ds)) (hb : EE X F env b (.list es)) (hg : Gl X "zip" := by rfl)
    (hs : starEach [a, b] X.env = (false, eval a X.env) :: starEach [b] X.env := by rfl) (hs2 : starEach [b] X.env = (false, eval b X.env) :: starEach [] X.env := by rfl) (hpl : (backTo pos (starEach [b] X.env)).any (·.1) = false := by rfl) (hk : X.K = F.K := by rfl) :
    EI X F env (.Tuple elts kk tpos) (.Call (.Name "zip" p) [a, b] [] pos) (zipD ds es) := fun W σ H R A q =>
  sI_of (RZ.pi_zipA hg hm (pa_cons pe_s (pa_cons pe_s pa_nil hs2) hs) hs hpl) (ha W σ H _ A fun v1 H1 e1 r1 => hb W σ H1 _ (A.same e1) fun v2 H2 e2 r2 => by
    obtain ⟨l, vs, rfl, h1, h2⟩ := dp_lst_inv (dp_same (hide_same e2) r1)
    obtain ⟨m, ws, rfl, h3, h4⟩ := dp_lst_inv r2
    have l1 := dpa_len h2
    have l2 := dpa_len h4
    have zl := zipD_len ds es
    refine ⟨l, m, vs, ws, rfl, .inl ⟨SqL.of (hide_le _ _ h1), SqL.of (hide_le _ _ h3), ?_⟩⟩
    rw [hk]
    refine q _ H2 (e1.trans e2) ⟨fun i H3 hi s => ?_, fun H3 s => ⟨vs, ws, SqL.of (s _ _ h1), SqL.of (s _ _ h3), by omega⟩, fun i d H3 x H4 W2 hdi s y g dm => ?_⟩
    · have i1 : i < vs.length := by omega
      have i2 : i < ws.length := by omega
      exact ⟨vs, ws, vs[i], ws[i], SqL.of (s _ _ h1), SqL.of (s _ _ h3), by simp [i1], by simp [i2]⟩
    · obtain ⟨T, z1, z2, rfl, nT, e3, y1, y2⟩ := y
      obtain ⟨d1, d2, g1, g2, rfl⟩ := zipD_get hdi
      obtain ⟨u1, k1, k2⟩ := dpa_get h2 g1
      obtain ⟨u2, k3, k4⟩ := dpa_get h4 g2
      have q1 := (y1 vs (SqL.of (s _ _ h1))).symm.trans k1
      have q2 := (y2 ws (SqL.of (s _ _ h3))).symm.trans k3
      cases q1
      cases q2
      exact pair_is nT e3 dm (dp_same g k2) (dp_same g k4))
theorem ei_zipT {p tpos : Pos} {elts : List Expr} {kk : Nat} {es : List D} (hm : X.mg "zip" = none) (ha : EE X F env a (.tuple ds)) (hb : EE X F env b (.tuple es)) (hg : Gl X "zip" := by rfl)
    (hs : starEach [a, b] X.env = (false, eval a X.env) :: starEach [b] X.env := by rfl) (hs2 : starEach [b] X.env = (false, eval b X.env) :: starEach [] X.env := by rfl) (hpl : (backTo pos (starEach [b] X.env)).any (·.1) = false := by rfl) (hk : X.K = F.K := by rfl) :
    EI X F env (.Tuple elts kk tpos) (.Call (.Name "zip" p) [a, b] [] pos) (zipD ds es) := fun W σ H R A q =>
  sI_of (RZ.pi_zipA hg hm (pa_cons pe_s (pa_cons pe_s pa_nil hs2) hs) hs hpl) (ha W σ H _ A fun v1 H1 e1 r1 => hb W σ H1 _ (A.same e1) fun v2 H2 e2 r2 => by
    obtain ⟨l, vs, rfl, h1, h2⟩ := dp_tup_inv (dp_same (hide_same e2) r1)
    obtain ⟨m, ws, rfl, h3, h4⟩ := dp_tup_inv r2
    have l1 := dpa_len h2
    have l2 := dpa_len h4
    have zl := zipD_len ds es
    refine ⟨l, m, vs, ws, rfl, .inr ⟨by rw [hk]; exact seqT_same hide_le h1, by rw [hk]; exact seqT_same hide_le h3, ?_⟩⟩
    rw [hk]
    refine q _ H2 (e1.trans e2) ⟨fun i H3 hi s => ?_, fun H3 s => ⟨vs, ws, seqT_same s h1, seqT_same s h3, by omega⟩, fun i d H3 x H4 W2 hdi s y g dm => ?_⟩
    · have i1 : i < vs.length := by omega
      have i2 : i < ws.length := by omega
      exact ⟨vs, ws, vs[i], ws[i], seqT_same s h1, seqT_same s h3, by simp [i1], by simp [i2]⟩
    · obtain ⟨T, z1, z2, rfl, nT, e3, y1, y2⟩ := y
      obtain ⟨d1, d2, g1, g2, rfl⟩ := zipD_get hdi
      obtain ⟨u1, k1, k2⟩ := dpa_get h2 g1
      obtain ⟨u2, k3, k4⟩ := dpa_get h4 g2
      have q1 := (y1 vs (seqT_same s h1)).symm.trans k1
      have q2 := (y2 ws (seqT_same s h3)).symm.trans k3
      cases q1
      cases q2
      exact pair_is nT e3 dm (dp_same g k2) (dp_same g k4))
/-- a text, sign by sign -/
def sgD (z : Str) : List D := z.cps.toList.map fun c => .str ⟨#[c]⟩
theorem ei_str {z : Str} (ha : EE X F env e (.str z)) : EI X F env tg e (sgD z) := fun W σ H R A q =>
  sI_of (pi_str pe_s) (ha W σ H _ A fun v H1 e1 r1 => by
    have hl : (sgD z).length = z.cps.size := by simp [sgD]
    refine ⟨z, dp_str_inv r1, q _ H1 e1 ⟨fun i H2 hi s => ?_, fun H2 s => ?_, fun i d H2 x H3 W2 hdi s y g dm => ?_⟩⟩
    · show i < z.cps.size
      omega
    · show z.cps.size ≤ (sgD z).length
      omega
    · obtain ⟨rfl, c, hc, rfl⟩ := y
      unfold sgD at hdi
      rw [List.getElem?_map, Array.getElem?_toList, hc] at hdi
      have := Option.some.inj hdi
      subst this
      exact ⟨Same.refl _, .str _⟩)
end
/-! ### targets -/
/-- storing d by the target g: the places js are written, as up says -/
def TgOk (F : Fc) (g : TG) (d : D) (js : List Nat) (up : List Sl → List Sl) : Prop := ∀ W env σ H v Q, At F W env σ H → Is F.K (hide W H) v d → (∀ σ', At F W (up env) σ' H → (∀ i, i ∉ js → σ'[i]? = σ[i]?) → σ'.length = σ.length → Q σ' H) → g v σ H Q
theorem tg_name {F : Fc} {d : D} (j : Nat) : TgOk F (gName j) d [j] (fun env => env.set j (.val d)) := fun W env σ H v Q A h q =>
  q _ (A.setv h) (fun i hi => List.getElem?_set_ne (fun z => hi (by simp [z]))) (List.length_set ..)
theorem tg_two {F : Fc} {d1 d2 : D} (i j : Nat) : TgOk F (gTup F.K 2 (gCons (gName i) (gCons (gName j) gNil))) (.tuple [d1, d2]) [i, j] (fun env => (env.set i (.val d1)).set j (.val d2)) := fun W env σ H v Q A h q => by
  obtain ⟨a, vs, rfl, h1, h2⟩ := dp_tup_inv h
  cases h2 with
  | cons r1 t =>
    cases t with
    | cons r2 t =>
      cases t
      refine ⟨a, _, rfl, seqT_same hide_le h1, rfl, _, _, rfl, _, _, rfl, rfl, q _ ((A.setv r1).setv r2) (fun k hk => ?_) ?_⟩
      · simp only [List.mem_cons, List.not_mem_nil, or_false, not_or] at hk
        rw [List.getElem?_set_ne (Ne.symm hk.2), List.getElem?_set_ne (Ne.symm hk.1)]
      · rw [List.length_set, List.length_set]
theorem tg_three {F : Fc} {d1 d2 d3 : D} (i j k : Nat) : TgOk F (gTup F.K 3 (gCons (gName i) (gCons (gName j) (gCons (gName k) gNil)))) (.tuple [d1, d2, d3]) [i, j, k] (fun env => ((env.set i (.val d1)).set j (.val d2)).set k (.val d3)) := fun W env σ H v Q A h q => by
  obtain ⟨a, vs, rfl, h1, h2⟩ := dp_tup_inv h
  cases h2 with
  | cons r1 t =>
    cases t with
    | cons r2 t =>
      cases t with
      | cons r3 t =>
        cases t
        refine ⟨a, _, rfl, seqT_same hide_le h1, rfl, _, _, rfl, _, _, rfl, _, _, rfl, rfl, q _ (((A.setv r1).setv r2).setv r3) (fun m hm => ?_) ?_⟩
        · simp only [List.mem_cons, List.not_mem_nil, or_false, not_or] at hm
          rw [List.getElem?_set_ne (Ne.symm hm.2.2), List.getElem?_set_ne (Ne.symm hm.2.1), List.getElem?_set_ne (Ne.symm hm.1)]
        · rw [List.length_set, List.length_set, List.length_set]
theorem tg_four {F : Fc} {d1 d2 d3 d4 : D} (i j k l : Nat) : TgOk F (gTup F.K 4 (gCons (gName i) (gCons (gName j) (gCons (gName k) (gCons (gName l) gNil))))) (.tuple [d1, d2, d3, d4]) [i, j, k, l] (fun env => (((env.set i (.val d1)).set j (.val d2)).set k (.val d3)).set l (.val d4)) := fun W env σ H v Q A h q => by
  obtain ⟨a, vs, rfl, h1, h2⟩ := dp_tup_inv h
  cases h2 with
  | cons r1 t =>
    cases t with
    | cons r2 t =>
      cases t with
      | cons r3 t =>
        cases t with
        | cons r4 t =>
          cases t
          refine ⟨a, _, rfl, seqT_same hide_le h1, rfl, _, _, rfl, _, _, rfl, _, _, rfl, _, _, rfl, rfl, q _ ((((A.setv r1).setv r2).setv r3).setv r4) (fun m hm => ?_) ?_⟩
          · simp only [List.mem_cons, List.not_mem_nil, or_false, not_or] at hm
            rw [List.getElem?_set_ne (Ne.symm hm.2.2.2), List.getElem?_set_ne (Ne.symm hm.2.2.1), List.getElem?_set_ne (Ne.symm hm.2.1), List.getElem?_set_ne (Ne.symm hm.1)]
          · rw [List.length_set, List.length_set, List.length_set, List.length_set]
/-! ### comprehensions -/
def wipeE (env : List Sl) : List Nat → List Sl
  | [] => env
  | v :: vs => (wipeE env vs).set v .any
theorem At.wipe {F : Fc} {W : Ws} {env : List Sl} {σ : L2.St} {H : Hp} (A : At F W env σ H) : ∀ js : List Nat, At F W (wipeE env js) (wipe σ js) H
  | [] => A
  | j :: js => (A.wipe js).wipe1 j
theorem wipe_get {σ : L2.St} {i : Nat} : ∀ {vs : List Nat}, (wipe σ vs)[i]? = if i ∈ vs ∧ i < σ.length then some none else σ[i]?
  | [] => by simp [wipe]
  | v :: vs => by
    unfold wipe
    by_cases e : i = v
    · subst e
      by_cases hl : i < σ.length
      · rw [List.getElem?_set_self (by rw [wipe_length]; exact hl), if_pos ⟨List.mem_cons_self, hl⟩]
      · rw [if_neg (fun z => hl z.2), List.getElem?_eq_none (by rw [List.length_set, wipe_length]; omega), List.getElem?_eq_none (by omega)]
    · rw [List.getElem?_set_ne (Ne.symm e), wipe_get (vs := vs)]
      by_cases h : i ∈ vs ∧ i < σ.length
      · rw [if_pos h, if_pos ⟨List.mem_cons_of_mem _ h.1, h.2⟩]
      · rw [if_neg h, if_neg fun z => h ⟨(List.mem_cons.mp z.1).resolve_left e, z.2⟩]
theorem wipe_back {σ σ' : L2.St} {js vs : List Nat} (hj : ∀ j ∈ js, j ∈ vs) (hl : σ'.length = (wipe σ vs).length) (h : ∀ i, i ∉ js → σ'[i]? = (wipe σ vs)[i]?) : wipe σ' vs = wipe σ vs := by
  rw [wipe_length] at hl
  refine List.ext_getElem? fun i => ?_
  rw [wipe_get]
  by_cases hi : i ∈ vs ∧ i < σ'.length
  · rw [if_pos hi, wipe_get, if_pos ⟨hi.1, by rw [← hl]; exact hi.2⟩]
  · rw [if_neg hi]
    by_cases hj' : i ∈ js
    · have : ¬ i < σ'.length := fun z => hi ⟨hj i hj', z⟩
      rw [List.getElem?_eq_none (by omega), List.getElem?_eq_none (by rw [wipe_length]; omega)]
    · exact h i hj'
/-- a new list beside what stands: hidden too -/
theorem At.grow {F : Fc} {W : Ws} {env : List Sl} {σ : L2.St} {H1 H2 : Hp} {l : Addr} (A : At F W env σ H1) (e : Same H1 H2) (hn : H1 l = none) (h2 : H2 l ≠ none) : At F (fun a => W a ∨ a = l) env σ H2 := by
  obtain ⟨f0, nW⟩ := A.fresh hn
  have B := A.same e
  have se : Same (hide W H1) (hide (fun a => W a ∨ a = l) H2) := fun b u h => by
    obtain ⟨h3, h4⟩ := hide_some h
    rw [hide_at (by rintro (z | z); exact h3 z; rw [z, hn] at h4; cases h4)]
    exact e b u h4
  refine ⟨fun a h => .inl (A.sub a h), fun a h => ?_, A.ent, fun a h => ?_, A.low, B.frm, B.tab, A.tin, A.len, fun i s h => ?_, A.wr, A.sep, A.tsep⟩
  · rcases h with h | h
    · exact B.dom a h
    · subst h; exact h2
  · rcases h with h | h
    · exact A.new a h
    · subst h; exact .inr f0
  · have hok := A.ok i s h
    cases s with
    | any => trivial
    | val d =>
      obtain ⟨v, h1, h2⟩ := hok
      exact ⟨v, h1, dp_same se h2⟩
    | lst xs =>
      obtain ⟨m, vs, h1, h2, h3, h4⟩ := hok
      exact ⟨m, vs, h1, .inl h2, e _ _ h3, dpa_same se h4⟩
    | ro xs =>
      obtain ⟨m, vs, h1, h2, h3, h4⟩ := hok
      exact ⟨m, vs, h1, ⟨.inl h2.1, h2.2⟩, e _ _ h3, dpa_same se h4⟩
    | fn mk =>
      obtain ⟨f, c, h1, h2, h3⟩ := hok
      exact ⟨f, c, h1, se _ _ h2, e _ _ h3⟩
    | own m xs =>
      obtain ⟨vs, h1, h2, h3, h4⟩ := hok
      exact ⟨vs, h1, .inl h2, e _ _ h3, dpa_same se h4⟩
    | well b k w c =>
      obtain ⟨cs, seed, at_, h1, h2, h3, h4, h5, h6, h7⟩ := hok
      exact ⟨cs, seed, at_, h1, .inl h2, .inl h3, h4, e _ _ h5, e _ _ h6, h7⟩
    | scr ns =>
      obtain ⟨a, h1, h2⟩ := hok
      exact ⟨a, h1, se.seq h2⟩
/-- such a list, read -/
theorem own_is {F : Fc} {W : Ws} {env : List Sl} {σ : L2.St} {H H1 H2 : Hp} {l : Addr} {acc : List V} {ds : List D} (A : At F W env σ H) (e1 : Same H H1) (hn : H1 l = none) (hacc : H2 l = some (.lst acc)) (hd : IsA F.K (hide (fun a => W a ∨ a = l) H2) acc ds) : Is F.K (hide W H2) (.ref l) (.list ds) := by
  obtain ⟨_, nW⟩ := (A.same e1).fresh hn
  refine .lst (xs := acc) ?_ (dpa_same (hide_sub fun a z => .inl z) hd)
  rw [hide_at nW]
  exact hacc
/-- a new list that stands already is one's own -/
theorem At.own {F : Fc} {W : Ws} {env : List Sl} {σ : L2.St} {H1 H2 : Hp} {i : Nat} {l : Addr} {vs : List V} {xs : List D} (A : At F W env σ H1) (e : Same H1 H2) (hn : H1 l = none) (h2 : H2 l = some (.lst vs)) (hd : IsA F.K (hide (fun a => W a ∨ a = l) H2) vs xs) :
    At F (fun a => W a ∨ a = l) (env.set i (.lst xs)) (σ.set i (some (.ref l))) H2 := by
  obtain ⟨f0, nW⟩ := A.fresh hn
  have B := A.grow e hn (by rw [h2]; exact fun z => nomatch z)
  have fr : ∀ j t, env[j]? = some t → ¬ Own t (slot σ j) l := fun j t h ho => nW (own_dom (A.ok j t h) ho).1
  refine ⟨B.sub, B.dom, B.ent, B.new, B.low, B.frm, B.tab, B.tin, by simpa using B.len, fun j t h => ?_, fun j t a h ho => ?_, fun j k t u a hjk h1 h2 o1 o2 => ?_, fun p hp j t h ho => ?_⟩
  · rcases env_set h with ⟨rfl, rfl, hl⟩ | ⟨hne, h⟩
    · rw [slot_set_eq (by rw [A.len]; exact hl)]
      exact ⟨l, vs, rfl, .inr rfl, h2, hd⟩
    · rw [slot_set_ne hne]
      exact B.ok j t h
  · rcases env_set h with ⟨rfl, rfl, hl⟩ | ⟨hne, h⟩
    · rw [slot_set_eq (by rw [A.len]; exact hl)] at ho
      cases ho
      exact .inl f0
    · rw [slot_set_ne hne] at ho
      exact B.wr j t a h ho
  · rcases env_set h1 with ⟨rfl, rfl, hl⟩ | ⟨hne, g1⟩
    · rw [slot_set_eq (by rw [A.len]; exact hl)] at o1
      cases o1
      rcases env_set h2 with ⟨rfl, rfl, hl2⟩ | ⟨hne2, h2⟩
      · exact hjk rfl
      · rw [slot_set_ne hne2] at o2
        exact fr k u h2 o2
    · rw [slot_set_ne hne] at o1
      rcases env_set h2 with ⟨e1, e2, hl⟩ | ⟨hne2, h2⟩
      · subst e1 e2
        rw [slot_set_eq (by rw [A.len]; exact hl)] at o2
        cases o2
        exact fr j t g1 o1
      · rw [slot_set_ne hne2] at o2
        exact A.sep j k t u a hjk g1 h2 o1 o2
  · rcases env_set h with ⟨rfl, rfl, hl⟩ | ⟨hne, h⟩
    · rw [slot_set_eq (by rw [A.len]; exact hl)] at ho
      cases ho
      exact nW (A.sub _ (A.low _ (A.tin p hp)))
    · rw [slot_set_ne hne] at ho
      exact A.tsep p hp j t h ho
theorem grow_gr {W : Ws} {H H1 H2 : Hp} {l : Addr} (e1 : Same H H1) (hn : H1 l = none) (e : Same H1 H2) : Same (hide W H) (hide (fun a => W a ∨ a = l) H2) := fun b u h => by
  obtain ⟨h3, h4⟩ := hide_some h
  have h5 := e1 b u h4
  rw [hide_at (by rintro (z | z); exact h3 z; rw [z, hn] at h5; cases h5)]
  exact e b u h5
/-- tests of a comprehension -/
def sTs (X : Cx) (ifs : List Expr) : TT := fun σ H Q => ∀ pins s, Inv X pins σ H s → wpAny (model X.prog X.w) X.A (forIn ifs true fun c r => if r = true then do let ok ← isTrue c X.env (eval c X.env); pure (ForInStep.yield ok) else pure (ForInStep.yield r)) (TP X pins σ Q) X.xe s
theorem pts_s {X : Cx} {ifs : List Expr} : PTs X ifs (sTs X ifs) := ⟨fun pins s σ H Q I h => h pins s I⟩
def ETs (X : Cx) (F : Fc) (env : List Sl) (ifs : List Expr) (b : Bool) : Prop := ∀ W σ H Q, At F W env σ H → (∀ H', Same H H' → Q b H') → sTs X ifs σ H Q
section
variable {X : Cx} {F : Fc} {env : List Sl}
theorem ets_nil : ETs X F env [] true := fun W σ H Q A q => fun pins s I => pts_nil.run pins s σ H Q I (q H (Same.refl H))
theorem ets_one {c : Expr} {b : Bool} (h : ET X F env c b) : ETs X F env [c] b := fun W σ H Q A q => fun pins s I => (pts_one (X := X) (c := c) pt_s).run pins s σ H Q I (h W σ H Q A q)
/-- the reading of [elt for tg in iter if ifs]: the items of l, by what they give (h), where the tests (c) say so -/
def lcTe (X : Cx) (scope : Scope) (elt : Expr) : TE := fun σ H Q => ∀ (s' : Shared) (H' : Hp) (C : Addr) (cl : List (Str × Addr)) (fp : List Addr), sE (X.blk s' H' scope (compEnvC scope cl C X.env) fp) elt σ H Q
def lcTt (X : Cx) (scope : Scope) (ifs : List Expr) : TT := fun σ H Q => ∀ (s' : Shared) (H' : Hp) (C : Addr) (cl : List (Str × Addr)) (fp : List Addr), sTs (X.blk s' H' scope (compEnvC scope cl C X.env) fp) ifs σ H Q
theorem lc_readG {wi : TI} {W : Ws} {σ : L2.St} {H : Hp} {α : Type} {elt : Expr} {ifs : List Expr} {scope : Scope} {own : List (Str × Nat)} {g : TG} {js : List Nat} {l : List α} {en : α → D} {c : α → Bool} {h : α → D} {up : α → List Sl → List Sl}
    (hi : ∀ R : It → Hp → Prop, (∀ J H', Same H H' → WkD F.K H' (hide W H') J (l.map en) → R J H') → wi σ H R) (hz : l.length ≤ 100000)
    (tgo : ∀ x ∈ l, TgOk F g (en x) js (up x)) (hj : ∀ j ∈ js, j ∈ own.map (·.2))
    (ht : ∀ x ∈ l, ∀ (s : Shared) (H : Hp) (C : Addr) (cl : List (Str × Addr)) (fp : List Addr), ETs (X.blk s H scope (compEnvC scope cl C X.env) fp) F (up x (wipeE env (own.map (·.2)))) ifs (c x))
    (he : ∀ x ∈ l, c x = true → ∀ (s : Shared) (H : Hp) (C : Addr) (cl : List (Str × Addr)) (fp : List Addr), EE (X.blk s H scope (compEnvC scope cl C X.env) fp) F (up x (wipeE env (own.map (·.2)))) elt (h x))
    {Q : VK} (A : At F W env σ H) (q : ∀ L acc H1 H2, Same H H1 → H1 L = none → Same H1 H2 → H2 L = some (.lst acc) → IsA F.K (hide (fun a => W a ∨ a = L) H2) acc ((l.filter c).map h) → Q (.ref L) H2) :
    tLc wi g (lcTt X scope ifs) (lcTe X scope elt) (own.map (·.2)) σ H Q := by
  refine hi _ fun J H1 e1 wk L hL => ?_
  have A1 := A.same e1
  obtain ⟨f0, nW⟩ := A1.fresh hL
  have ll : (l.map en).length = l.length := List.length_map _
  -- what holds between two turns
  refine ⟨fun i m H2 => m = l.length - i ∧ i ≤ l.length ∧ ∃ acc, H2 L = some (.lst acc) ∧ IsA F.K (hide (fun a => W a ∨ a = L) H2) acc (((l.take i).filter c).map h) ∧ Same H1 H2,
    ⟨l.length, by omega, Nat.zero_le _, [], upd_same, .nil, same_new hL⟩, ?_⟩
  rintro i m H2 ⟨rfl, hil, acc, hacc, hd, e2⟩
  by_cases hlt : i < l.length
  · have hx : (l.map en)[i]? = some (en l[i]) := by rw [List.getElem?_map, List.getElem?_eq_getElem hlt]; rfl
    have hmem : l[i] ∈ l := List.getElem_mem hlt
    refine .inr ⟨wk.go i H2 (by omega) e2, fun H3 => i + 1 ≤ l.length ∧ ∃ acc, H3 L = some (.lst acc) ∧ IsA F.K (hide (fun a => W a ∨ a = L) H3) acc (((l.take (i + 1)).filter c).map h) ∧ Same H1 H3,
      fun H3 w3 => ⟨l.length - (i + 1), by omega, rfl, w3.1, w3.2⟩, fun x H3 y => ?_⟩
    have A2 := A1.grow e2 hL (by rw [hacc]; exact fun z => nomatch z)
    have gv : Same (hide W H1) (hide (fun a => W a ∨ a = L) H2) := fun b u hb => by
      obtain ⟨h3, h4⟩ := hide_some hb
      rw [hide_at (by rintro (z | z); exact h3 z; rw [z, hL] at h4; cases h4)]
      exact e2 b u h4
    obtain ⟨e3, r3⟩ := wk.yld i _ H2 x H3 _ hx e2 y gv A2.dom
    refine tgo _ hmem _ _ _ _ _ _ ((A2.same e3).wipe (own.map (·.2))) r3 fun σ2 A3 hσ hσl => ⟨wipe_back hj hσl hσ, ?_⟩
    have stp : ∀ b, c l[i] = b → ((l.take (i + 1)).filter c).map h = ((l.take i).filter c).map h ++ (if b = true then [h l[i]] else []) := fun b hb => by
      rw [List.take_add_one, List.getElem?_eq_getElem hlt, List.filter_append, List.map_append]
      show _ ++ (List.filter c [l[i]]).map h = _
      cases b with
      | true => rw [List.filter_cons, if_pos hb]; rfl
      | false => rw [List.filter_cons, if_neg (by rw [hb]; exact Bool.false_ne_true)]; rfl
    intro s' H' C cl fp
    refine ht _ hmem s' H' C cl fp _ σ2 H3 _ A3 fun H4 e4 => ?_
    cases hb : c l[i] with
    | true =>
      refine iteT fun s' H' C cl fp => he _ hmem hb s' H' C cl fp _ σ2 H4 _ (A3.same e4) fun v H5 e5 r5 => ?_
      have e25 := (e3.trans e4).trans e5
      have g5 := dpa_same (hide_same e25) hd
      have al : acc.length ≤ l.length := by
        rw [dpa_len hd, List.length_map]
        have := List.length_filter_le c (l.take i)
        rw [List.length_take] at this
        omega
      refine ⟨acc, e25 _ _ hacc, by rw [sizeLine_eq]; omega, hlt, acc ++ [v], upd_same, ?_, ?_⟩
      · rw [hide_mut (.inr rfl), stp true hb]
        exact dpa_app g5 (.cons r5 .nil)
      · intro b u hb
        rw [upd_ne (ne_of_none hb hL)]
        exact e25 _ _ (e2 _ _ hb)
    | false =>
      have e24 := e3.trans e4
      refine iteF ⟨hlt, acc, e24 _ _ hacc, ?_, e2.trans e24⟩
      rw [stp false hb, if_neg Bool.false_ne_true, List.append_nil]
      exact dpa_same (hide_same e24) hd
  · have ei : i = l.length := by omega
    subst ei
    rw [List.take_length] at hd
    exact .inl ⟨by rw [← ll]; exact wk.stop H2 e2, q L acc H1 H2 e1 hL e2 hacc hd⟩
theorem lc_read {α : Type} {elt tg iter : Expr} {ifs : List Expr} {scope : Scope} {own : List (Str × Nat)} {g : TG} {js : List Nat} {l : List α} {en : α → D} {c : α → Bool} {h : α → D} {up : α → List Sl → List Sl}
    (hi : EM X F env tg iter (l.map en)) (hz : l.length ≤ 100000)
    (tgo : ∀ x ∈ l, TgOk F g (en x) js (up x)) (hj : ∀ j ∈ js, j ∈ own.map (·.2))
    (ht : ∀ x ∈ l, ∀ (s : Shared) (H : Hp) (C : Addr) (cl : List (Str × Addr)) (fp : List Addr), ETs (X.blk s H scope (compEnvC scope cl C X.env) fp) F (up x (wipeE env (own.map (·.2)))) ifs (c x))
    (he : ∀ x ∈ l, c x = true → ∀ (s : Shared) (H : Hp) (C : Addr) (cl : List (Str × Addr)) (fp : List Addr), EE (X.blk s H scope (compEnvC scope cl C X.env) fp) F (up x (wipeE env (own.map (·.2)))) elt (h x))
    {W : Ws} {σ : L2.St} {H : Hp} {Q : VK} (A : At F W env σ H) (q : ∀ L acc H1 H2, Same H H1 → H1 L = none → Same H1 H2 → H2 L = some (.lst acc) → IsA F.K (hide (fun a => W a ∨ a = L) H2) acc ((l.filter c).map h) → Q (.ref L) H2) :
    tLc (sI X tg iter) g (lcTt X scope ifs) (lcTe X scope elt) (own.map (·.2)) σ H Q :=
  lc_readG (wi := sI X tg iter) (fun R q => hi W σ H R A q) hz tgo hj ht he A q
/-- as a value -/
theorem ee_lcG {α : Type} {elt tg iter : Expr} {ifs : List Expr} {scope : Scope} {own : List (Str × Nat)} {pos : Pos} {g : TG} {js : List Nat} {l : List α} {en : α → D} {c : α → Bool} {h : α → D} {up : α → List Sl → List Sl}
    (hc : X.calm = true) (hN : X.N.Nodup) (ok : BlkOk X.N X.env.scope scope own) (hi : EM X F env tg iter (l.map en)) (hz : l.length ≤ 100000)
    (hg : ∀ (s : Shared) (H : Hp) (C : Addr) (cl : List (Str × Addr)) (fp : List Addr), PG (X.blk s H scope (compEnvC scope cl C X.env) fp) tg g)
    (tgo : ∀ x ∈ l, TgOk F g (en x) js (up x)) (hj : ∀ j ∈ js, j ∈ own.map (·.2))
    (ht : ∀ x ∈ l, ∀ (s : Shared) (H : Hp) (C : Addr) (cl : List (Str × Addr)) (fp : List Addr), ETs (X.blk s H scope (compEnvC scope cl C X.env) fp) F (up x (wipeE env (own.map (·.2)))) ifs (c x))
    (he : ∀ x ∈ l, c x = true → ∀ (s : Shared) (H : Hp) (C : Addr) (cl : List (Str × Addr)) (fp : List Addr), EE (X.blk s H scope (compEnvC scope cl C X.env) fp) F (up x (wipeE env (own.map (·.2)))) elt (h x))
    (hs : ∀ x, foldedSetIterable iter X.env x = pure x := by intro _; rfl) : EE X F env (.ListComp elt [⟨tg, iter, ifs, 0⟩] scope pos) (.list ((l.filter c).map h)) := fun W σ H Q A q =>
  sE_of (pe_lc (te := lcTe X scope elt) (tt := lcTt X scope ifs) hc hN pi_s ok hg (fun s H C cl fp => ⟨fun pins s2 σ2 H2 Q2 I hw => hw s H C cl fp pins s2 I⟩) (fun s H C cl fp => ⟨fun pins s2 σ2 H2 Q2 I hw => hw s H C cl fp pins s2 I⟩) hs)
    (lc_read hi hz tgo hj ht he A fun L acc H1 H2 e1 hL e2 hacc hd => q _ H2 (e1.trans e2) (own_is A e1 hL hacc hd))
/-- .. without tests -/
theorem ee_lc {α : Type} {elt tg iter : Expr} {scope : Scope} {own : List (Str × Nat)} {pos : Pos} {g : TG} {js : List Nat} {l : List α} {en : α → D} {h : α → D} {up : α → List Sl → List Sl}
    (hc : X.calm = true) (hN : X.N.Nodup) (ok : BlkOk X.N X.env.scope scope own) (hi : EM X F env tg iter (l.map en)) (hz : l.length ≤ 100000)
    (hg : ∀ (s : Shared) (H : Hp) (C : Addr) (cl : List (Str × Addr)) (fp : List Addr), PG (X.blk s H scope (compEnvC scope cl C X.env) fp) tg g)
    (tgo : ∀ x ∈ l, TgOk F g (en x) js (up x)) (hj : ∀ j ∈ js, j ∈ own.map (·.2))
    (he : ∀ x ∈ l, ∀ (s : Shared) (H : Hp) (C : Addr) (cl : List (Str × Addr)) (fp : List Addr), EE (X.blk s H scope (compEnvC scope cl C X.env) fp) F (up x (wipeE env (own.map (·.2)))) elt (h x))
    (hs : ∀ x, foldedSetIterable iter X.env x = pure x := by intro _; rfl) : EE X F env (.ListComp elt [⟨tg, iter, [], 0⟩] scope pos) (.list (l.map h)) := by
  have q := ee_lcG (c := fun _ => true) (pos := pos) hc hN ok hi hz hg tgo hj (fun _ _ _ _ _ _ _ => ets_nil) (fun x hx _ => he x hx) hs
  rw [List.filter_eq_self.mpr fun _ _ => rfl] at q
  exact q
end
end Tf
end
section
set_option maxHeartbeats 1000000
/-! Statements, blocks, loops, defs. -/
namespace Tf
open PySem PySem.Spec PyProof.Rows L2
def sS (X : Cx) (st : Stmt) : TS := fun D σ H => ∀ pins s, Inv X pins σ H s → wpAny (model X.prog X.w) X.A (exec st X.env) (SP X pins D) X.xe s
theorem ps_s {X : Cx} {st : Stmt} : PS X st (sS X st) := ⟨fun pins s σ H D I h => h pins s I⟩
theorem sS_of {X : Cx} {st : Stmt} {t : TS} {σ : L2.St} {H : Hp} {D : Ends} (h : PS X st t) (q : t D σ H) : sS X st D σ H := fun pins s I => h.run pins s σ H D I q
def sSs (X : Cx) (sts : List Stmt) : TS := fun D σ H => ∀ pins s, Inv X pins σ H s → wpAny (model X.prog X.w) X.A (execs sts X.env) (SP X pins D) X.xe s
theorem pss_s {X : Cx} {sts : List Stmt} : PSs X sts (sSs X sts) := ⟨fun pins s σ H D I h => h pins s I⟩
theorem sSs_of {X : Cx} {sts : List Stmt} {t : TS} {σ : L2.St} {H : Hp} {D : Ends} (h : PSs X sts t) (q : t D σ H) : sSs X sts D σ H := fun pins s I => h.run pins s σ H D I q
/-! ### what is wanted behind -/
structure Po where
  nx : Ws → L2.St → Hp → Prop
  rt : V → Hp → Prop
  bk : Ws → L2.St → Hp → Prop := fun _ _ _ => False
  ct : Ws → L2.St → Hp → Prop := fun _ _ _ => False
/-- what stands still grows -/
def Gr (W : Ws) (H : Hp) (W' : Ws) (H' : Hp) : Prop := Same (hide W H) (hide W' H')
theorem Gr.refl (W : Ws) (H : Hp) : Gr W H W H := Same.refl _
theorem Gr.trans {W W1 W2 : Ws} {H H1 H2 : Hp} (a : Gr W H W1 H1) (b : Gr W1 H1 W2 H2) : Gr W H W2 H2 := Same.trans a b
theorem Gr.of {W : Ws} {H H' : Hp} (e : Same H H') : Gr W H W H' := hide_same e
structure Lee (W : Ws) (H : Hp) (P : Po) (D : Ends) : Prop where
  nx : ∀ W' σ' H', Gr W H W' H' → P.nx W' σ' H' → D.nx σ' H'
  rt : ∀ v H', P.rt v H' → D.rt v H'
  bk : ∀ W' σ' H', Gr W H W' H' → P.bk W' σ' H' → D.bk σ' H'
  ct : ∀ W' σ' H', Gr W H W' H' → P.ct W' σ' H' → D.ct σ' H'
theorem Lee.grow {W W1 : Ws} {H H1 : Hp} {P : Po} {D : Ends} (l : Lee W H P D) (g : Gr W H W1 H1) : Lee W1 H1 P D :=
  ⟨fun W' σ' H' g' => l.nx W' σ' H' (g.trans g'), l.rt, fun W' σ' H' g' => l.bk W' σ' H' (g.trans g'), fun W' σ' H' g' => l.ct W' σ' H' (g.trans g')⟩
def SS (X : Cx) (F : Fc) (sts : List Stmt) (env : List Sl) (P : Po) : Prop := ∀ W σ H D, At F W env σ H → Lee W H P D → sSs X sts D σ H
def S1 (X : Cx) (F : Fc) (st : Stmt) (env : List Sl) (P : Po) : Prop := ∀ W σ H D, At F W env σ H → Lee W H P D → sS X st D σ H
/-- behind: the slots as env' says -/
abbrev nxE (F : Fc) (env' : List Sl) : Ws → L2.St → Hp → Prop := fun W σ H => At F W env' σ H
/-- what a def hands back -/
def Fr (F : Fc) (H' : Hp) : Prop := ∀ a o, ¬ F.L a → F.H a = some o → H' a = some o
def Ret (F : Fc) (d : D) (v : V) (H' : Hp) : Prop := Fr F H' ∧ Is F.K (hide F.W H') v d
section
variable {X : Cx} {F : Fc} {env env' : List Sl} {e a b c tg iter : Expr} {es : List Expr} {d d1 d2 : D} {ds : List D} {pos pos' : Pos} {P : Po} {st : Stmt} {sts rest th el body : List Stmt}
theorem SS.weak (h : SS X F sts env' P) (w : Weak env env') : SS X F sts env P := fun W σ H D A l => h W σ H D (A.weak w) l
theorem SS.enveq (h : SS X F sts env' P) (w : env = env') : SS X F sts env P := w ▸ h
theorem ss_nil (h : ∀ W σ H, At F W env σ H → P.nx W σ H) : SS X F [] env P := fun W σ H D A l => sSs_of pss_nil (l.nx W σ H (Gr.refl _ _) (h W σ H A))
/-- the end of a block: told less -/
theorem ss_end (w : Weak env env') {rt bk ct} : SS X F [] env ⟨nxE F env', rt, bk, ct⟩ := ss_nil fun W σ H A => A.weak w
theorem ss_consM {M : Ws → L2.St → Hp → Prop} (h1 : S1 X F st env { P with nx := M }) (h2 : ∀ W σ H D, M W σ H → Lee W H P D → sSs X rest D σ H) : SS X F (st :: rest) env P := fun W σ H D A l =>
  sSs_of (pss_cons ps_s pss_s) (h1 W σ H _ A ⟨fun W' σ' H' g m => h2 W' σ' H' D m (l.grow g), l.rt, l.bk, l.ct⟩)
theorem ss_cons (h1 : S1 X F st env { P with nx := nxE F env' }) (h2 : SS X F rest env' P) : SS X F (st :: rest) env P := ss_consM h1 h2
/-- some x is behind it -/
theorem ss_consE {α : Type} {p : α → Prop} {E : α → List Sl} (h1 : S1 X F st env { P with nx := fun W σ H => ∃ x, p x ∧ At F W (E x) σ H }) (h2 : ∀ x, p x → SS X F rest (E x) P) : SS X F (st :: rest) env P :=
  ss_consM h1 fun W σ H D ⟨x, hp, A⟩ l => h2 x hp W σ H D A l
theorem ss_never (h : False) : SS X F sts env P := h.elim
/-! ### small statements -/
theorem ss_doc {x j p1 p2} (h : SS X F rest env P) : SS X F (.Expr (.Constant (.str x) j p1) p2 :: rest) env P := fun W σ H D A l => sSs_of (pss_cons ps_doc pss_s) (h W σ H D A l)
theorem ss_asg (i : Nat) {x : Str} (he : EE X F env e d) (h : SS X F rest (env.set i (.val d)) P) (hN : X.N.Nodup := by assumption) (hi : X.N[i]? = some x := by rfl) (hx : Loc X.env.scope x := by first | exact Or.inl rfl | exact Or.inr rfl)
    (hs : swapsWith e (some (.Name x pos')) pos.line X.env = pure false := by rfl) (hf : X.fn x = true ∨ X.env.scope.names.lookup x = some .local := by first | exact .inl rfl | exact .inr rfl) : SS X F (.Assign [.Name x pos'] e pos :: rest) env P := fun W σ H D A l =>
  sSs_of (pss_cons (ps_set hN hi hx pe_s hs hf) pss_s) (he W σ H _ A fun v H' e1 r1 => h W _ H' D ((A.same e1).setv r1) (l.grow (Gr.of e1)))
end
/-- a display of a list that is one's own from now on -/
def EN (X : Cx) (F : Fc) (env : List Sl) (e : Expr) (ds : List D) : Prop := ∀ W σ H Q, At F W env σ H → (∀ l vs H', Same H H' → H' l = none → IsA F.K (hide W H') vs ds → Q (.ref l) (upd H' l (.lst vs))) → sE X e σ H Q
section
variable {X : Cx} {F : Fc} {env env' : List Sl} {e a b c tg iter : Expr} {es : List Expr} {d d1 d2 : D} {ds : List D} {pos pos' : Pos} {P : Po} {st : Stmt} {sts rest th el body : List Stmt}
theorem en_lst (h : EA X F env es ds) (hz : ds.length ≤ 100000 := by (first | decide | (simp only [List.length_cons, List.length_nil]; omega))) : EN X F env (.List es pos) ds := fun W σ H Q A q =>
  sE_of (pe_lst pa_s) (h W σ H _ A fun vs H1 e1 r1 => ⟨by rw [dpa_len r1, sizeLine_eq]; omega, fun p hp => q p vs H1 e1 hp r1⟩)
/-- list(xs) -/
theorem en_listL {p : Pos} (hm : X.mg "list" = none) (ha : EL X F env e ds) (hg : Gl X "list" := by rfl)
    (he : starEach [e] X.env = (false, eval e X.env) :: starEach [] X.env := by rfl) (hpl : (backTo pos (starEach [] X.env)).any (·.1) = false := by rfl) : EN X F env (.Call (.Name "list" p) [e] [] pos) ds := fun W σ H Q A q =>
  sE_of (pe_callTy call_list_of hg hm (by decide +kernel) (pa_cons pe_s pa_nil he) (by decide) (by decide) he hpl) (ha W σ H _ A fun l vs H1 e1 h1 r1 => ⟨l, vs, rfl, .inl (SqL.of h1), fun p hp => q p vs H1 e1 hp r1⟩)
theorem ss_new' (i : Nat) {x : Str} (he : EN X F env e ds) (h : SS X F rest (env.set i (.lst ds)) P) (hN : X.N.Nodup := by assumption) (hi : X.N[i]? = some x := by rfl) (hx : Loc X.env.scope x := by first | exact Or.inl rfl | exact Or.inr rfl)
    (hs : swapsWith e (some (.Name x pos')) pos.line X.env = pure false := by rfl) (hf : X.fn x = true ∨ X.env.scope.names.lookup x = some .local := by first | exact .inl rfl | exact .inr rfl) : SS X F (.Assign [.Name x pos'] e pos :: rest) env P := fun W σ H D A l =>
  sSs_of (pss_cons (ps_set hN hi hx pe_s hs hf) pss_s) (he W σ H _ A fun p vs H' e1 hp r1 => h _ _ _ D ((A.same e1).newmut hp r1) (l.grow (by
    show Same (hide W H) (hide (fun a => W a ∨ a = p) (upd H' p (.lst vs)))
    rw [hide_add hp]
    exact hide_same e1)))
/-- a, b = e -/
theorem ss_unpack {g : TG} {js : List Nat} {up : List Sl → List Sl} (he : EE X F env e d) (hg : PG X tg g) (tgo : TgOk F g d js up) (h : SS X F rest (up env) P) (hs : swapsWithSole [tg] e pos.line X.env = pure false := by rfl) (hw : swappedStores [tg] e X.env = pure none := by rfl)
    (h1 : (assignEach [tg] X.env).map (·.2) = [assign tg X.env] := by rfl) : SS X F (.Assign [tg] e pos :: rest) env P := fun W σ H D A l =>
  sSs_of (pss_cons (ps_asg pe_s hg hs hw h1) pss_s) (he W σ H _ A fun v H' e1 r1 => tgo W env σ H' v _ (A.same e1) r1 fun σ' A' _ _ => h W σ' H' D A' (l.grow (Gr.of e1)))
/-- a, b = x, y (two names) -/
theorem ss_par (i j : Nat) {x y : Str} {px py pt : Pos} {kt k2 pt2} (ha : EE X F env a d1) (hb : EE X F env b d2) (h : SS X F rest ((env.set i (.val d1)).set j (.val d2)) P) (hij : i ≠ j := by decide) (hc : X.calm = true := by rfl) (hN : X.N.Nodup := by assumption) (hi : X.N[i]? = some x := by rfl) (hj : X.N[j]? = some y := by rfl)
    (hx : X.env.scope.names.lookup x = some .local := by rfl) (hy : X.env.scope.names.lookup y = some .local := by rfl)
    (hw : swappedStores [.Tuple [.Name x px, .Name y py] kt pt] (.Tuple [a, b] k2 pt2) X.env = pure (some [x, y]) := by rfl)
    (hs : swapsWithSole [.Tuple [.Name x px, .Name y py] kt pt] (.Tuple [a, b] k2 pt2) pos.line X.env = pure false := by rfl)
    (q1 : starEach [a, b] X.env = (false, eval a X.env) :: starEach [b] X.env := by rfl) (q2 : starEach [b] X.env = (false, eval b X.env) :: starEach [] X.env := by rfl) :
    SS X F (.Assign [.Tuple [.Name x px, .Name y py] kt pt] (.Tuple [a, b] k2 pt2) pos :: rest) env P := fun W σ H D A l =>
  sSs_of (pss_cons (ps_par hc hN hi hj hij hx hy (pa_cons pe_s (pa_cons pe_s pa_nil q2) q1) hw hs) pss_s) (ha W σ H _ A fun v H1 e1 r1 => hb W σ H1 _ (A.same e1) fun v2 H2 e2 r2 =>
    ⟨v, v2, rfl, h W _ H2 D (((A.same (e1.trans e2)).setv (dp_same (hide_same e2) r1)).setv r2) (l.grow (Gr.of (e1.trans e2)))⟩)
/-- xs.append(e), xs a list of one's own in the slot i -/
theorem ss_append (i : Nat) {x : Str} {p1 p2 : Pos} {xs : List D} (he : EE X F env e d) (hz : xs.length < 100000) (h : SS X F rest (env.set i (.lst (xs ++ [d]))) P) (hi : env[i]? = some (.lst xs) := by rfl) (hN : X.N[i]? = some x := by rfl) (hv : Vis X.env.scope x := by first | exact Or.inl rfl | exact Or.inr (Or.inl rfl) | exact Or.inr (Or.inr rfl))
    (hd : (x == ("__debug__" : Str)) = false := by decide) (hcd : (x == ("__classdict__" : Str)) = false := by decide) (hk : X.K = F.K := by rfl)
    (pb : ∀ {t1 : TE} {t2 : TA}, PE X (.Name x p1) t1 → PA X [e] t2 → PE X (.Call (.Attribute (.Name x p1) "append" p2) [e] [] pos') (tBM X.K "list" rAppend t1 t2) := by exact fun h1 h2 => pe_bm PySem.F.plainAttrs_list PySem.F.slot_list_append PySem.F.type_list_append mt_append h1 h2)
    (hs : swapsWith (.Call (.Attribute (.Name x p1) "append" p2) [e] [] pos') none pos.line X.env = pure false := by rfl)
    (q1 : starEach [e] X.env = (false, eval e X.env) :: starEach [] X.env := by rfl) :
    SS X F (.Expr (.Call (.Attribute (.Name x p1) "append" p2) [e] [] pos') pos :: rest) env P := fun W σ H D A l => by
  obtain ⟨m, vs, h1, h2, h3, h4⟩ := A.ok i _ hi
  refine sSs_of (pss_cons (ps_expr (pb (pe_var hN hv hd hcd) (pa_cons pe_s pa_nil q1)) hs) pss_s) ⟨_, slot_some h1, .inl ⟨rfl, vs, SqL.of h3⟩, he W σ H _ A fun v H' e1 r1 => ?_⟩
  have A1 := A.same e1
  refine ⟨m, vs, v, rfl, rfl, e1 _ _ h3, by rw [dpa_len h4, sizeLine_eq]; omega, h W σ _ D (A1.turn hi h1 (dpa_app (dpa_same (hide_same e1) h4) (.cons r1 .nil))) (l.grow ?_)⟩
  show Same (hide W H) (hide W (upd H' m (.lst (vs ++ [v]))))
  rw [hide_mut h2]
  exact hide_same e1
/-- xs.extend(ys) -/
theorem ss_extend (i : Nat) {x : Str} {p1 p2 : Pos} {xs ys : List D} (he : EL X F env e ys) (hz : xs.length + ys.length ≤ 100000) (h : SS X F rest (env.set i (.lst (xs ++ ys))) P) (hi : env[i]? = some (.lst xs) := by rfl) (hN : X.N[i]? = some x := by rfl) (hv : Vis X.env.scope x := by first | exact Or.inl rfl | exact Or.inr (Or.inl rfl) | exact Or.inr (Or.inr rfl))
    (hd : (x == ("__debug__" : Str)) = false := by decide) (hcd : (x == ("__classdict__" : Str)) = false := by decide) (hk : X.K = F.K := by rfl)
    (pb : ∀ {t1 : TE} {t2 : TA}, PE X (.Name x p1) t1 → PA X [e] t2 → PE X (.Call (.Attribute (.Name x p1) "extend" p2) [e] [] pos') (tBM X.K "list" rExtend t1 t2) := by exact fun h1 h2 => pe_bm PySem.F.plainAttrs_list PySem.F.slot_list_extend PySem.F.type_list_extend mt_extend h1 h2)
    (hs : swapsWith (.Call (.Attribute (.Name x p1) "extend" p2) [e] [] pos') none pos.line X.env = pure false := by rfl)
    (q1 : starEach [e] X.env = (false, eval e X.env) :: starEach [] X.env := by rfl) :
    SS X F (.Expr (.Call (.Attribute (.Name x p1) "extend" p2) [e] [] pos') pos :: rest) env P := fun W σ H D A l => by
  obtain ⟨m, vs, h1, h2, h3, h4⟩ := A.ok i _ hi
  refine sSs_of (pss_cons (ps_expr (pb (pe_var hN hv hd hcd) (pa_cons pe_s pa_nil q1)) hs) pss_s) ⟨_, slot_some h1, .inl ⟨rfl, vs, SqL.of h3⟩, he W σ H _ A fun b ws H' e1 hb r1 => ?_⟩
  have A1 := A.same e1
  refine ⟨m, b, vs, ws, rfl, rfl, e1 _ _ h3, hb, by rw [dpa_len h4, dpa_len r1, sizeLine_eq]; omega, h W σ _ D (A1.turn hi h1 (dpa_app (dpa_same (hide_same e1) h4) r1)) (l.grow ?_)⟩
  show Same (hide W H) (hide W (upd H' m (.lst (vs ++ ws))))
  rw [hide_mut h2]
  exact hide_same e1
/-- xs[k] = e -/
theorem ss_setitem (i : Nat) {x : Str} {p1 p2 : Pos} {xs : List D} {k : Int} {j : Nat} (he : EE X F env e d) (hb : EE X F env b (.int k)) (hj : ixN xs.length k = some j) (h : SS X F rest (env.set i (.lst (xs.set j d))) P) (hi : env[i]? = some (.lst xs) := by rfl) (hN : X.N[i]? = some x := by rfl) (hv : Vis X.env.scope x := by first | exact Or.inl rfl | exact Or.inr (Or.inl rfl) | exact Or.inr (Or.inr rfl))
    (hd : (x == ("__debug__" : Str)) = false := by decide) (hcd : (x == ("__classdict__" : Str)) = false := by decide)
    (pg : ∀ {t1 t2 : TE}, PE X (.Name x p1) t1 → PE X b t2 → PG X (.Subscript (.Name x p1) b p2) (gSub t1 t2 rSetL) := by exact fun h1 h2 => pg_sub h1 h2 set_list)
    (hs : swapsWithSole [.Subscript (.Name x p1) b p2] e pos.line X.env = pure false := by rfl) (hw : swappedStores [.Subscript (.Name x p1) b p2] e X.env = pure none := by rfl)
    (ha : (assignEach [.Subscript (.Name x p1) b p2] X.env).map (·.2) = [assign (.Subscript (.Name x p1) b p2) X.env] := by rfl) :
    SS X F (.Assign [.Subscript (.Name x p1) b p2] e pos :: rest) env P := fun W σ H D A l => by
  obtain ⟨m, vs, h1, h2, h3, h4⟩ := A.ok i _ hi
  refine sSs_of (pss_cons (ps_asg pe_s (pg (pe_var hN hv hd hcd) pe_s) hs hw ha) pss_s) (he W σ H _ A fun v H1 e1 r1 => ⟨_, slot_some h1, hb W σ H1 _ (A.same e1) fun v2 H2 e2 r2 => ?_⟩)
  have e12 := e1.trans e2
  have A2 := A.same e12
  refine ⟨m, vs, k, j, rfl, dp_int_inv r2, e12 _ _ h3, by rw [dpa_len h4]; exact hj, h W σ _ D (A2.turn hi h1 (dpa_set (dp_same (hide_same e2) r1) j (dpa_same (hide_same e12) h4))) (l.grow ?_)⟩
  show Same (hide W H) (hide W (upd H2 m (.lst (vs.set j v))))
  rw [hide_mut h2]
  exact hide_same e12
/-- .. at a known address -/
theorem ss_setitemOwn (i : Nat) {m : Addr} {x : Str} {p1 p2 : Pos} {xs : List D} {k : Int} {j : Nat} (he : EE X F env e d) (hb : EE X F env b (.int k)) (hj : ixN xs.length k = some j) (h : SS X F rest (env.set i (.own m (xs.set j d))) P) (hi : env[i]? = some (.own m xs) := by rfl) (hN : X.N[i]? = some x := by rfl) (hv : Vis X.env.scope x := by first | exact Or.inl rfl | exact Or.inr (Or.inl rfl) | exact Or.inr (Or.inr rfl))
    (hd : (x == ("__debug__" : Str)) = false := by decide) (hcd : (x == ("__classdict__" : Str)) = false := by decide)
    (pg : ∀ {t1 t2 : TE}, PE X (.Name x p1) t1 → PE X b t2 → PG X (.Subscript (.Name x p1) b p2) (gSub t1 t2 rSetL) := by exact fun h1 h2 => pg_sub h1 h2 set_list)
    (hs : swapsWithSole [.Subscript (.Name x p1) b p2] e pos.line X.env = pure false := by rfl) (hw : swappedStores [.Subscript (.Name x p1) b p2] e X.env = pure none := by rfl)
    (ha : (assignEach [.Subscript (.Name x p1) b p2] X.env).map (·.2) = [assign (.Subscript (.Name x p1) b p2) X.env] := by rfl) :
    SS X F (.Assign [.Subscript (.Name x p1) b p2] e pos :: rest) env P := fun W σ H D A l => by
  obtain ⟨vs, h1, h2, h3, h4⟩ := A.ok i _ hi
  refine sSs_of (pss_cons (ps_asg pe_s (pg (pe_var hN hv hd hcd) pe_s) hs hw ha) pss_s) (he W σ H _ A fun v H1 e1 r1 => ⟨_, slot_some h1, hb W σ H1 _ (A.same e1) fun v2 H2 e2 r2 => ?_⟩)
  have e12 := e1.trans e2
  have A2 := A.same e12
  refine ⟨m, vs, k, j, rfl, dp_int_inv r2, e12 _ _ h3, by rw [dpa_len h4]; exact hj, h W σ _ D (A2.turnG (.inr rfl) (.inr rfl) hi h1 (dpa_set (dp_same (hide_same e2) r1) j (dpa_same (hide_same e12) h4))) (l.grow ?_)⟩
  show Same (hide W H) (hide W (upd H2 m (.lst (vs.set j v))))
  rw [hide_mut h2]
  exact hide_same e12
/-! ### return -/
theorem At.fr {W : Ws} {σ : L2.St} {H H' : Hp} (A : At F W env σ H) (e : Same H H') : Fr F H' := fun a o h1 h2 => e _ _ (A.frm a o h1 h2)
theorem ss_ret (he : EE X F env e d) (h : ∀ v H', Ret F d v H' → P.rt v H') : SS X F (.Return (some e) pos :: rest) env P := fun W σ H D A l =>
  sSs_of (pss_cons (ps_ret pe_s) (pss_s (sts := rest))) (he W σ H _ A fun v H' e1 r1 => l.rt v H' (h v H' ⟨A.fr e1, dp_same (hide_sub A.sub) r1⟩))
/-- a list of one's own is handed back -/
theorem ss_retOwn (i : Nat) {x : Str} {p1 : Pos} (hL : ∀ W σ H l, At F W env σ H → slot σ i = some (.ref l) → H l ≠ none → ¬ F.L l) (h : ∀ v H', Ret F (.list ds) v H' → P.rt v H') (hi : env[i]? = some (.lst ds) := by rfl) (hN : X.N[i]? = some x := by rfl) (hv : Vis X.env.scope x := by first | exact Or.inl rfl | exact Or.inr (Or.inl rfl) | exact Or.inr (Or.inr rfl))
    (hd : (x == ("__debug__" : Str)) = false := by decide) (hcd : (x == ("__classdict__" : Str)) = false := by decide) : SS X F (.Return (some (.Name x p1)) pos :: rest) env P := fun W σ H D A l => by
  obtain ⟨m, vs, h1, h2, h3, h4⟩ := A.ok i _ hi
  refine sSs_of (pss_cons (ps_ret (pe_var hN hv hd hcd)) (pss_s (sts := rest))) ⟨_, slot_some h1, l.rt _ H (h _ H ⟨A.fr (Same.refl H), ?_⟩)⟩
  have nW : ¬ F.W m := fun z => by
    rcases A.wr i _ m hi h1 with q | q
    · exact A.ent m z q
    · exact hL W σ H m A h1 (by rw [h3]; exact fun z => nomatch z) q
  refine .lst (xs := vs) ?_ (dpa_same (hide_sub A.sub) h4)
  rw [hide_at nW]
  exact h3
theorem ss_retN (h : ∀ W σ H, At F W env σ H → P.rt .non H) : SS X F (.Return none pos :: rest) env P := fun W σ H D A l =>
  sSs_of (pss_cons ps_retN (pss_s (sts := rest))) (l.rt _ H (h W σ H A))
/-! ### if -/
/-- a way out alone -/
abbrev Po.out (P : Po) : Po := { P with nx := fun _ _ _ => False }
theorem ss_ifR {k : Bool} (hc : ET X F env c k) (h1 : k = true → SS X F th env P.out) (h2 : k = false → SS X F rest env P) : SS X F (.If c th [] pos :: rest) env P := fun W σ H D A l => by
  refine sSs_of (pss_cons (ps_if pt_s pss_s (pss_nil (X := X))) (pss_s (sts := rest))) (hc W σ H _ A fun H' e1 => ?_)
  have l1 := l.grow (Gr.of (W := W) e1)
  cases k with
  | true => exact iteT (h1 rfl W σ H' _ (A.same e1) ⟨fun _ _ _ _ z => z.elim, l1.rt, l1.bk, l1.ct⟩)
  | false => exact iteF (h2 rfl W σ H' D (A.same e1) l1)
theorem ss_if {k : Bool} {env2 : List Sl} (hc : ET X F env c k) (h1 : k = true → SS X F th env { P with nx := nxE F env2 }) (h2 : k = false → SS X F el env { P with nx := nxE F env2 }) (h : SS X F rest env2 P) : SS X F (.If c th el pos :: rest) env P := fun W σ H D A l => by
  refine sSs_of (pss_cons (ps_if pt_s pss_s pss_s) (pss_s (sts := rest))) (hc W σ H _ A fun H' e1 => ?_)
  have l1 := l.grow (Gr.of (W := W) e1)
  have l2 : Lee W H' { P with nx := nxE F env2 } { D with nx := sSs X rest D } := ⟨fun W' σ' H2 g A2 => h W' σ' H2 D A2 (l1.grow g), l1.rt, l1.bk, l1.ct⟩
  cases k with
  | true => exact iteT (h1 rfl W σ H' _ (A.same e1) l2)
  | false => exact iteF (h2 rfl W σ H' _ (A.same e1) l2)
/-! ### for -/
/-- M tells, by what was taken and what is left, what holds between two turns -/
theorem ss_for {α : Type} {l : List α} {en : α → D} {g : TG} {js : List Nat} {up : α → List Sl → List Sl} {ι : Type} (p : List α → ι → Prop) (E : List α → ι → List Sl)
    (hi : EI X F env tg iter (l.map en)) (hg : PG X tg g) (tgo : ∀ x ∈ l, TgOk F g (en x) js (up x))
    (start : ∃ i, p [] i ∧ Weak env (E [] i))
    (turn : ∀ pre x post i, l = pre ++ x :: post → p pre i → SS X F body (up x (E pre i)) ⟨fun W σ H => ∃ i', p (pre ++ [x]) i' ∧ At F W (E (pre ++ [x]) i') σ H, P.rt, fun W σ H => ∃ i', p l i' ∧ At F W (E l i') σ H, fun W σ H => ∃ i', p (pre ++ [x]) i' ∧ At F W (E (pre ++ [x]) i') σ H⟩)
    (after : ∀ i, p l i → SS X F rest (E l i) P)
    (hp : PassesOwn (model X.prog X.w) X.A X.env X.xe := by exact PassesOwn.never) (hc : X.calm = true := by rfl) (hs : ∀ x, foldedSetIterable iter X.env x = pure x := by intro _; rfl) : SS X F (.For tg iter body [] pos :: rest) env P := fun W σ H D A L => by
  refine sSs_of (pss_cons (ps_for hp hc pi_s hg pss_s hs) (pss_s (sts := rest))) (hi W σ H _ A fun J H1 e1 wk => ?_)
  obtain ⟨i0, hp0, w0⟩ := start
  have A1 := A.same e1
  have L1 := L.grow (Gr.of (W := W) e1)
  have ll : (l.map en).length = l.length := List.length_map _
  refine ⟨fun n m σ2 H2 => m = l.length - n ∧ n ≤ l.length ∧ ∃ W2 i, p (l.take n) i ∧ At F W2 (E (l.take n) i) σ2 H2 ∧ Gr W H1 W2 H2, ⟨l.length, by omega, Nat.zero_le _, W, i0, hp0, A1.weak w0, Gr.refl _ _⟩, ?_⟩
  rintro n m σ2 H2 ⟨rfl, hn, W2, i, hpi, A2, g2⟩
  have st2 : Same (hide W H1) H2 := Same.trans g2 hide_le
  by_cases hlt : n < l.length
  · have hx : (l.map en)[n]? = some (en l[n]) := by rw [List.getElem?_map, List.getElem?_eq_getElem hlt]; rfl
    have hmem : l[n] ∈ l := List.getElem_mem hlt
    have ht : l.take (n + 1) = l.take n ++ [l[n]] := by rw [List.take_add_one, List.getElem?_eq_getElem hlt]; rfl
    have hsp : l = l.take n ++ l[n] :: l.drop (n + 1) := by rw [List.getElem_cons_drop, List.take_append_drop]
    refine .inr ⟨wk.go n H2 (by omega) st2, fun σ3 H3 => n + 1 ≤ l.length ∧ ∃ W3 i, p (l.take (n + 1)) i ∧ At F W3 (E (l.take (n + 1)) i) σ3 H3 ∧ Gr W H1 W3 H3, fun σ3 H3 w3 => ⟨l.length - (n + 1), by omega, rfl, w3.1, w3.2⟩, fun x H3 y => ?_⟩
    obtain ⟨e3, r3⟩ := wk.yld n _ H2 x H3 W2 hx st2 y g2 A2.dom
    refine tgo _ hmem _ _ _ _ _ _ (A2.same e3) r3 fun σ4 A4 _ _ => ?_
    have g3 : Gr W H1 W2 H3 := g2.trans (Gr.of e3)
    have fin : ∀ W' σ' H', Gr W2 H3 W' H' → (∃ i', p (l.take n ++ [l[n]]) i' ∧ At F W' (E (l.take n ++ [l[n]]) i') σ' H') → n + 1 ≤ l.length ∧ ∃ W3 i, p (l.take (n + 1)) i ∧ At F W3 (E (l.take (n + 1)) i) σ' H' ∧ Gr W H1 W3 H' := fun W' σ' H' g ⟨i', q1, q2⟩ => by
      rw [ht]
      exact ⟨hlt, W', i', q1, q2, g3.trans g⟩
    exact turn _ _ _ i hsp hpi W2 σ4 H3 _ A4 ⟨fin, L.rt, fun W' σ' H' g ⟨i', q1, q2⟩ => after i' q1 W' σ' H' D q2 (L1.grow (g3.trans g)), fin⟩
  · have en : n = l.length := by omega
    subst en
    rw [List.take_length] at hpi A2
    exact .inl ⟨by rw [← ll]; exact wk.stop H2 st2, after i hpi W2 σ2 H2 D A2 (L1.grow g2)⟩
/-- a loop that ends by its turns alone, its state a function of what was taken -/
theorem ss_forE {α : Type} {l : List α} {en : α → D} {g : TG} {js : List Nat} {up : α → List Sl → List Sl} (E : List α → List Sl)
    (hi : EI X F env tg iter (l.map en)) (hg : PG X tg g) (tgo : ∀ x ∈ l, TgOk F g (en x) js (up x))
    (start : Weak env (E []))
    (turn : ∀ pre x post, l = pre ++ x :: post → SS X F body (up x (E pre)) ⟨nxE F (E (pre ++ [x])), P.rt, fun _ _ _ => False, nxE F (E (pre ++ [x]))⟩)
    (after : SS X F rest (E l) P)
    (hp : PassesOwn (model X.prog X.w) X.A X.env X.xe := by exact PassesOwn.never) (hc : X.calm = true := by rfl) (hs : ∀ x, foldedSetIterable iter X.env x = pure x := by intro _; rfl) : SS X F (.For tg iter body [] pos :: rest) env P :=
  ss_for (fun _ (_ : Unit) => True) (fun pre _ => E pre) hi hg tgo ⟨(), trivial, start⟩ (fun pre x post _ hl _ => fun W σ H D A l => turn pre x post hl W σ H D A ⟨fun W' σ' H' g A' => l.nx W' σ' H' g ⟨(), trivial, A'⟩, l.rt, fun _ _ _ _ z => z.elim, fun W' σ' H' g A' => l.ct W' σ' H' g ⟨(), trivial, A'⟩⟩) (fun _ _ => after) hp hc hs
/-! ### while -/
theorem ss_while {ι : Type} (p : ι → Prop) (E : ι → List Sl) (k : ι → Bool) (μ : ι → Nat) (i0 : ι) (hp0 : p i0) (start : Weak env (E i0))
    (test : ∀ i, p i → ET X F (E i) c (k i))
    (turn : ∀ i, p i → k i = true → SS X F body (E i) ⟨fun W σ H => ∃ i', p i' ∧ μ i' < μ i ∧ At F W (E i') σ H, P.rt, fun _ _ _ => False, fun _ _ _ => False⟩)
    (after : ∀ i, p i → k i = false → SS X F rest (E i) P)
    (hp : PassesOwn (model X.prog X.w) X.A X.env X.xe := by exact PassesOwn.never) : SS X F (.While c body [] pos :: rest) env P := fun W σ H D A L => by
  refine sSs_of (pss_cons (ps_while hp pt_s pss_s) (pss_s (sts := rest))) ?_
  refine ⟨fun m σ2 H2 => ∃ W2 i, p i ∧ m = μ i ∧ At F W2 (E i) σ2 H2 ∧ Gr W H W2 H2, ⟨_, W, i0, hp0, rfl, A.weak start, Gr.refl _ _⟩, ?_⟩
  rintro m σ2 H2 ⟨W2, i, hpi, rfl, A2, g2⟩
  refine test i hpi W2 σ2 H2 _ A2 fun H3 e3 => ?_
  have g3 : Gr W H W2 H3 := g2.trans (Gr.of e3)
  cases hk : k i with
  | true => exact iteT ⟨fun σ4 H4 => ∃ W4 i', p i' ∧ μ i' < μ i ∧ At F W4 (E i') σ4 H4 ∧ Gr W H W4 H4, fun σ4 H4 ⟨W4, i', h1, h2, h3, h4⟩ => ⟨μ i', h2, W4, i', h1, rfl, h3, h4⟩,
      turn i hpi hk W2 σ2 H3 _ (A2.same e3) ⟨fun W' σ' H' g ⟨i', q1, q2, q3⟩ => ⟨W', i', q1, q2, q3, g3.trans g⟩, L.rt, fun _ _ _ _ z => z.elim, fun _ _ _ _ z => z.elim⟩⟩
  | false => exact iteF (after i hpi hk W2 σ2 H3 D (A2.same e3) (L.grow g3))
end
/-! ### defs -/
section
variable {P : Program} {w : World} {K : PySem.W.Frag} {mg : Str → Option Value} {base : Heap}
/-- the frame of a def that changes nothing -/
abbrev fc0 (K : PySem.W.Frag) (W : Ws) (H : Hp) : Fc := ⟨K, W, fun _ => False, H, []⟩
abbrev cx0 (P : Program) (w : World) (K : PySem.W.Frag) (mg : Str → Option Value) (base : Heap) (N : List Str) (qual : Str) (scope : Scope) (f : Addr) (cdv : Value) (A : Around) (outer : List Env) (s : Shared) (H : Hp) (E : XK) : Cx := (cxOf CX0 P w K mg base N qual scope f cdv A outer s H E).nox
def startE (n : Nat) (ss : List Sl) : List Sl := ss ++ List.replicate (n - ss.length) .any
theorem args_slot {W : Ws} {H : Hp} : ∀ {vs : List V} {ss : List Sl} {i : Nat} {s : Sl}, Args K W H vs ss → ss[i]? = some s → ∃ v, vs[i]? = some v ∧ Arg K W H v s
  | _, _, _, _, .nil, h => by simp at h
  | _, _, 0, s, .cons h t, e => by
    simp at e
    subst e
    exact ⟨_, rfl, h⟩
  | _, _, i + 1, s, .cons h t, e => by
    obtain ⟨v, h1, h2⟩ := args_slot (i := i) (s := s) t (by simpa using e)
    exact ⟨v, by simpa using h1, h2⟩
theorem at_start {W : Ws} {H : Hp} {vs : List V} {ss : List Sl} {N : List Str} (dm : DomW W H) (ha : Args K W H vs ss) (hl : vs.length ≤ N.length) : At (fc0 K W H) W (startE N.length ss) (start N vs) H := by
  have l1 : vs.length = ss.length := Paired.length ha
  have own : ∀ i s, (startE N.length ss)[i]? = some s → ∀ a, ¬ Own s (slot (start N vs) i) a := fun i s h a ho => by
    unfold startE at h
    by_cases hi : i < ss.length
    · rw [List.getElem?_append_left hi] at h
      obtain ⟨v, h1, h2⟩ := args_slot ha h
      cases h2 <;> exact ho.elim
    · rw [List.getElem?_append_right (by omega), List.getElem?_replicate] at h
      split at h
      · cases h
        exact ho.elim
      · cases h
  refine ⟨fun _ h => h, dm, dm, fun _ h => .inl h, fun _ h => h.elim, fun _ _ _ h => h, fun p hp => (nomatch hp), fun p hp => (nomatch hp), ?_, fun i s h => ?_, fun i s a h ho => absurd ho (own i s h a), fun i j s t a _ h _ ho _ => own i s h a ho, fun p hp => (nomatch hp)⟩
  · unfold L2.start startE
    rw [List.length_append, List.length_append, List.length_map, List.length_replicate, List.length_replicate]
    omega
  · unfold startE at h
    by_cases hi : i < ss.length
    · rw [List.getElem?_append_left hi] at h
      obtain ⟨v, h1, h2⟩ := args_slot ha h
      have hs : slot (start N vs) i = some v := by
        refine slot_of ?_
        unfold L2.start
        rw [List.getElem?_append_left (by rw [List.length_map]; omega), List.getElem?_map, h1]
        rfl
      rw [hs]
      cases h2 with
      | val hv => exact ⟨v, rfl, hv⟩
      | ro hw hv hx => exact ⟨_, _, rfl, ⟨hw, hw, fun z => z⟩, hv, hx⟩
      | fn k1 k2 => exact ⟨_, _, rfl, k1, k2⟩
    · rw [List.getElem?_append_right (by omega), List.getElem?_replicate] at h
      split at h
      · cases h
        trivial
      · cases h
/-- THE RULE for a def that changes nothing: R tells what it gives -/
theorem fn_pure {x qual : Str} {params : Arguments} {body : List Stmt} {scope : Scope} {f : Addr} {fd : FuncData} {N ps : List Str} {k : Nat} {R : List Sl → D → Prop} (G : FunD K x qual params body scope [] [] f fd) (S : FnScope N ps scope)
    (len : ∀ ss d, R ss d → ss.length = ps.length) (hbody : ∀ (cdv : Value) (A : Around) (outer : List Env) (s : Shared) (H : Hp) (E : XK) (W : Ws) (ss : List Sl) (d : D), Room k (A.deeper (envOfC qual scope s.heap.objs.size f cdv)) → R ss d →
      SS (cx0 P w K mg base N qual scope f cdv A outer s H E) (fc0 K W H) body (startE N.length ss) ⟨fun _ _ _ => False, Ret (fc0 K W H) d, fun _ _ _ => False, fun _ _ _ => False⟩) : FnOk P w K mg base CX0 (k + 1) f fd ps (spD K R) := by
  have hpl : ps.length ≤ N.length := by
    have := congrArg List.length S.pre
    rw [List.length_take] at this
    omega
  refine G.ok S (fun vs H Q E ⟨W, ss, d, dm, ha, hr, q⟩ => ?_) (fun cdv A outer s H vs Q E hr ⟨W, ss, d, dm, ha, hR, q⟩ => ⟨sSs (cx0 P w K mg base N qual scope f cdv A outer s H E) body, pss_s.nox, ?_⟩)
  · rw [Paired.length ha]
    exact len ss d hr
  · refine hbody cdv A outer s H E W ss d hr hR W (start N vs) H _ (at_start dm ha ?_) ⟨fun _ _ _ _ z => z.elim, fun v H' ⟨h1, h2⟩ => q v H' (fun a o h => h1 a o (fun z => z) h) h2, fun _ _ _ _ z => z.elim, fun _ _ _ _ z => z.elim⟩
    rw [Paired.length ha, len ss d hR]
    exact hpl
end
end Tf
end
section
set_option maxHeartbeats 1000000
/-! Comprehensions by typed data; assigned comprehensions; the text's defs. -/
namespace Tf
open PySem PySem.Spec PyProof.Rows L2
abbrev tI (ns : List Int) : D := .tuple (ns.map PyData.int)
abbrev lI (ns : List Int) : D := .list (ns.map PyData.int)
abbrev tT (t : List (List Int)) : D := .tuple (t.map tI)
abbrev lT (t : List (List Int)) : D := .list (t.map tI)
theorem zipD_map {α β : Type} (l : List α) (m : List β) (f : α → D) (g : β → D) : zipD (l.map f) (m.map g) = (l.zip m).map fun p => .tuple [f p.1, g p.2] := by
  unfold zipD
  rw [List.zip_map, List.map_map]
  rfl
theorem enD_map {α : Type} (l : List α) (f : α → D) : enD (l.map f) = l.zipIdx.map fun p => .tuple [.int (p.2 : Int), f p.1] := by
  unfold enD
  rw [List.zipIdx_map, List.map_map]
  rfl
theorem rgD_nat (n : Nat) : rgD 0 n = (List.range n).map fun (i : Nat) => PyData.int (i : Int) := by
  unfold rgD
  refine List.map_congr_left fun i _ => ?_
  rw [Int.zero_add]
theorem atM {α : Type} {l : List α} {en : α → D} {k : Nat} {x : α} (h : l[k]? = some x) : atI (l.map en) (k : Int) = some (en x) := atI_nat (by rw [List.getElem?_map, h]; rfl)
theorem atMi {α : Type} {l : List α} {en : α → D} {k : Nat} {i : Int} {x : α} (e : i = (k : Int)) (h : l[k]? = some x) : atI (l.map en) i = some (en x) := e ▸ atM h
theorem hu_of64 {k : Nat} {A : Around} (hr : Room k A) : A.units + 64 < cLine := hr.units
section
variable {X : Cx} {F : Fc} {env env' : List Sl} {P : Po} {rest : List Stmt}
theorem ee_lcM {α β : Type} {elt tg iter : Expr} {scope : Scope} {own : List (Str × Nat)} {pos : Pos} {g : TG} {js : List Nat} {l : List α} {en : α → D} {en2 : β → D} {h : α → β} {up : α → List Sl → List Sl}
    (hc : X.calm = true) (hN : X.N.Nodup) (ok : BlkOk X.N X.env.scope scope own) (hi : EM X F env tg iter (l.map en)) (hz : l.length ≤ 100000)
    (hg : ∀ (s : Shared) (H : Hp) (C : Addr) (cl : List (Str × Addr)) (fp : List Addr), PG (X.blk s H scope (compEnvC scope cl C X.env) fp) tg g)
    (tgo : ∀ x ∈ l, TgOk F g (en x) js (up x)) (hj : ∀ j ∈ js, j ∈ own.map (·.2))
    (he : ∀ x ∈ l, ∀ (s : Shared) (H : Hp) (C : Addr) (cl : List (Str × Addr)) (fp : List Addr), EE (X.blk s H scope (compEnvC scope cl C X.env) fp) F (up x (wipeE env (own.map (·.2)))) elt (en2 (h x)))
    (hs : ∀ x, foldedSetIterable iter X.env x = pure x := by intro _; rfl) : EE X F env (.ListComp elt [⟨tg, iter, [], 0⟩] scope pos) (.list ((l.map h).map en2)) :=
  (ee_lc (h := fun x => en2 (h x)) hc hN ok hi hz hg tgo hj he hs).eq (by rw [List.map_map]; rfl)
theorem ee_lcGM {α β : Type} {elt tg iter : Expr} {ifs : List Expr} {scope : Scope} {own : List (Str × Nat)} {pos : Pos} {g : TG} {js : List Nat} {l : List α} {en : α → D} {c : α → Bool} {en2 : β → D} {h : α → β} {up : α → List Sl → List Sl}
    (hc : X.calm = true) (hN : X.N.Nodup) (ok : BlkOk X.N X.env.scope scope own) (hi : EM X F env tg iter (l.map en)) (hz : l.length ≤ 100000)
    (hg : ∀ (s : Shared) (H : Hp) (C : Addr) (cl : List (Str × Addr)) (fp : List Addr), PG (X.blk s H scope (compEnvC scope cl C X.env) fp) tg g)
    (tgo : ∀ x ∈ l, TgOk F g (en x) js (up x)) (hj : ∀ j ∈ js, j ∈ own.map (·.2))
    (ht : ∀ x ∈ l, ∀ (s : Shared) (H : Hp) (C : Addr) (cl : List (Str × Addr)) (fp : List Addr), ETs (X.blk s H scope (compEnvC scope cl C X.env) fp) F (up x (wipeE env (own.map (·.2)))) ifs (c x))
    (he : ∀ x ∈ l, c x = true → ∀ (s : Shared) (H : Hp) (C : Addr) (cl : List (Str × Addr)) (fp : List Addr), EE (X.blk s H scope (compEnvC scope cl C X.env) fp) F (up x (wipeE env (own.map (·.2)))) elt (en2 (h x)))
    (hs : ∀ x, foldedSetIterable iter X.env x = pure x := by intro _; rfl) : EE X F env (.ListComp elt [⟨tg, iter, ifs, 0⟩] scope pos) (.list (((l.filter c).map h).map en2)) :=
  (ee_lcG (h := fun x => en2 (h x)) hc hN ok hi hz hg tgo hj ht he hs).eq (by rw [List.map_map]; rfl)
/-- y = [..] on one line: the reading -/
theorem ss_lcR {α : Type} (i : Nat) {y : Str} {py : Pos} {elt tg iter : Expr} {ifs : List Expr} {scope : Scope} {own : List (Str × Nat)} {pos spos : Pos} {g : TG} {js : List Nat} {l : List α} {en : α → D} {c : α → Bool} {h : α → D} {up : α → List Sl → List Sl}
    (hc : X.calm = true) (hN : X.N.Nodup) (ok : BlkOk X.N X.env.scope scope own) (hi : EM X F env tg iter (l.map en)) (hz : l.length ≤ 100000)
    (hg : ∀ (s : Shared) (H : Hp) (C : Addr) (cl : List (Str × Addr)) (fp : List Addr), PG (X.blk s H scope (compEnvC scope cl C X.env) fp) tg g)
    (tgo : ∀ x ∈ l, TgOk F g (en x) js (up x)) (hj : ∀ j ∈ js, j ∈ own.map (·.2))
    (ht : ∀ x ∈ l, ∀ (s : Shared) (H : Hp) (C : Addr) (cl : List (Str × Addr)) (fp : List Addr), ETs (X.blk s H scope (compEnvC scope cl C X.env) fp) F (up x (wipeE env (own.map (·.2)))) ifs (c x))
    (he : ∀ x ∈ l, c x = true → ∀ (s : Shared) (H : Hp) (C : Addr) (cl : List (Str × Addr)) (fp : List Addr), EE (X.blk s H scope (compEnvC scope cl C X.env) fp) F (up x (wipeE env (own.map (·.2)))) elt (h x))
    (hy : X.N[i]? = some y) (hyl : X.env.scope.names.lookup y = some .local) (hsw : swapsWith (.ListComp elt [⟨tg, iter, ifs, 0⟩] scope pos) (some (.Name y py)) spos.line X.env = pure true)
    (hs : ∀ x, foldedSetIterable iter X.env x = pure x)
    {W : Ws} {σ : L2.St} {H : Hp} {D : Ends} (A : At F W env σ H) (q : ∀ L acc H1 H2, Same H H1 → H1 L = none → Same H1 H2 → H2 L = some (.lst acc) → IsA F.K (hide (fun a => W a ∨ a = L) H2) acc ((l.filter c).map h) → sSs X rest D (σ.set i (some (.ref L))) H2) :
    sSs X (.Assign [.Name y py] (.ListComp elt [⟨tg, iter, ifs, 0⟩] scope pos) spos :: rest) D σ H :=
  sSs_of (pss_cons (ps_setLc (i := i) (te := lcTe X scope elt) (tt := lcTt X scope ifs) hc hN hy hyl hsw pi_s ok hg (fun s H C cl fp => ⟨fun pins s2 σ2 H2 Q2 I hw => hw s H C cl fp pins s2 I⟩) (fun s H C cl fp => ⟨fun pins s2 σ2 H2 Q2 I hw => hw s H C cl fp pins s2 I⟩) hs) pss_s)
    (lc_read (Q := fun v H' => sSs X rest D (σ.set i (some v)) H') hi hz tgo hj ht he A fun L acc H1 H2 e1 hL e2 hacc hd => q L acc H1 H2 e1 hL e2 hacc hd)
theorem ss_lc {α : Type} (i : Nat) {y : Str} {py : Pos} {elt tg iter : Expr} {scope : Scope} {own : List (Str × Nat)} {pos spos : Pos} {g : TG} {js : List Nat} {l : List α} {en : α → D} {h : α → D} {up : α → List Sl → List Sl}
    (hc : X.calm = true) (hN : X.N.Nodup) (ok : BlkOk X.N X.env.scope scope own) (hi : EM X F env tg iter (l.map en)) (hz : l.length ≤ 100000)
    (hg : ∀ (s : Shared) (H : Hp) (C : Addr) (cl : List (Str × Addr)) (fp : List Addr), PG (X.blk s H scope (compEnvC scope cl C X.env) fp) tg g)
    (tgo : ∀ x ∈ l, TgOk F g (en x) js (up x)) (hj : ∀ j ∈ js, j ∈ own.map (·.2))
    (he : ∀ x ∈ l, ∀ (s : Shared) (H : Hp) (C : Addr) (cl : List (Str × Addr)) (fp : List Addr), EE (X.blk s H scope (compEnvC scope cl C X.env) fp) F (up x (wipeE env (own.map (·.2)))) elt (h x))
    (after : SS X F rest (env.set i (.val (.list (l.map h)))) P)
    (hy : X.N[i]? = some y := by rfl) (hyl : X.env.scope.names.lookup y = some .local := by rfl) (hsw : swapsWith (.ListComp elt [⟨tg, iter, [], 0⟩] scope pos) (some (.Name y py)) spos.line X.env = pure true := by exact sw_true rfl rfl rfl (by decide +kernel))
    (hs : ∀ x, foldedSetIterable iter X.env x = pure x := by intro _; rfl) : SS X F (.Assign [.Name y py] (.ListComp elt [⟨tg, iter, [], 0⟩] scope pos) spos :: rest) env P := fun W σ H D A L =>
  ss_lcR (c := fun _ => true) i hc hN ok hi hz hg tgo hj (fun _ _ _ _ _ _ _ => ets_nil) (fun x hx _ => he x hx) hy hyl hsw hs A fun l' acc H1 H2 e1 hL e2 hacc hd => by
    rw [List.filter_eq_self.mpr fun _ _ => rfl] at hd
    exact after W _ H2 D (((A.same (e1.trans e2))).setv (own_is A e1 hL hacc hd)) (L.grow (Gr.of (e1.trans e2)))
theorem ss_lcM {α β : Type} {en2 : β → D} (i : Nat) {y : Str} {py : Pos} {elt tg iter : Expr} {scope : Scope} {own : List (Str × Nat)} {pos spos : Pos} {g : TG} {js : List Nat} {l : List α} {en : α → D} {h : α → β} {up : α → List Sl → List Sl}
    (hc : X.calm = true) (hN : X.N.Nodup) (ok : BlkOk X.N X.env.scope scope own) (hi : EM X F env tg iter (l.map en)) (hz : l.length ≤ 100000)
    (hg : ∀ (s : Shared) (H : Hp) (C : Addr) (cl : List (Str × Addr)) (fp : List Addr), PG (X.blk s H scope (compEnvC scope cl C X.env) fp) tg g)
    (tgo : ∀ x ∈ l, TgOk F g (en x) js (up x)) (hj : ∀ j ∈ js, j ∈ own.map (·.2))
    (he : ∀ x ∈ l, ∀ (s : Shared) (H : Hp) (C : Addr) (cl : List (Str × Addr)) (fp : List Addr), EE (X.blk s H scope (compEnvC scope cl C X.env) fp) F (up x (wipeE env (own.map (·.2)))) elt (en2 (h x)))
    (after : SS X F rest (env.set i (.val (.list ((l.map h).map en2)))) P)
    (hy : X.N[i]? = some y := by rfl) (hyl : X.env.scope.names.lookup y = some .local := by rfl) (hsw : swapsWith (.ListComp elt [⟨tg, iter, [], 0⟩] scope pos) (some (.Name y py)) spos.line X.env = pure true := by exact sw_true rfl rfl rfl (by decide +kernel))
    (hs : ∀ x, foldedSetIterable iter X.env x = pure x := by intro _; rfl) : SS X F (.Assign [.Name y py] (.ListComp elt [⟨tg, iter, [], 0⟩] scope pos) spos :: rest) env P :=
  ss_lc i hc hN ok hi hz hg tgo hj he (by rw [List.map_map] at after; exact after) hy hyl hsw hs
/-- .. with a test -/
theorem ss_lcGM {α β : Type} {en2 : β → D} (i : Nat) {y : Str} {py : Pos} {elt tg iter : Expr} {ifs : List Expr} {scope : Scope} {own : List (Str × Nat)} {pos spos : Pos} {g : TG} {js : List Nat} {l : List α} {en : α → D} {c : α → Bool} {h : α → β} {up : α → List Sl → List Sl}
    (hc : X.calm = true) (hN : X.N.Nodup) (ok : BlkOk X.N X.env.scope scope own) (hi : EM X F env tg iter (l.map en)) (hz : l.length ≤ 100000)
    (hg : ∀ (s : Shared) (H : Hp) (C : Addr) (cl : List (Str × Addr)) (fp : List Addr), PG (X.blk s H scope (compEnvC scope cl C X.env) fp) tg g)
    (tgo : ∀ x ∈ l, TgOk F g (en x) js (up x)) (hj : ∀ j ∈ js, j ∈ own.map (·.2))
    (ht : ∀ x ∈ l, ∀ (s : Shared) (H : Hp) (C : Addr) (cl : List (Str × Addr)) (fp : List Addr), ETs (X.blk s H scope (compEnvC scope cl C X.env) fp) F (up x (wipeE env (own.map (·.2)))) ifs (c x))
    (he : ∀ x ∈ l, c x = true → ∀ (s : Shared) (H : Hp) (C : Addr) (cl : List (Str × Addr)) (fp : List Addr), EE (X.blk s H scope (compEnvC scope cl C X.env) fp) F (up x (wipeE env (own.map (·.2)))) elt (en2 (h x)))
    (after : SS X F rest (env.set i (.val (.list (((l.filter c).map h).map en2)))) P)
    (hy : X.N[i]? = some y := by rfl) (hyl : X.env.scope.names.lookup y = some .local := by rfl) (hsw : swapsWith (.ListComp elt [⟨tg, iter, ifs, 0⟩] scope pos) (some (.Name y py)) spos.line X.env = pure true := by exact sw_true rfl rfl rfl (by decide +kernel))
    (hs : ∀ x, foldedSetIterable iter X.env x = pure x := by intro _; rfl) : SS X F (.Assign [.Name y py] (.ListComp elt [⟨tg, iter, ifs, 0⟩] scope pos) spos :: rest) env P := fun W σ H D A L =>
  ss_lcR (h := fun x => en2 (h x)) i hc hN ok hi hz hg tgo hj ht he hy hyl hsw hs A fun l' acc H1 H2 e1 hL e2 hacc hd => by
    rw [List.map_map] at after
    exact after W _ H2 D (((A.same (e1.trans e2))).setv (own_is A e1 hL hacc hd)) (L.grow (Gr.of (e1.trans e2)))
/-- .. whose list is one's own from now on -/
theorem ss_lcOwn {α : Type} (i : Nat) {y : Str} {py : Pos} {elt tg iter : Expr} {scope : Scope} {own : List (Str × Nat)} {pos spos : Pos} {g : TG} {js : List Nat} {l : List α} {en : α → D} {h : α → D} {up : α → List Sl → List Sl}
    (hc : X.calm = true) (hN : X.N.Nodup) (ok : BlkOk X.N X.env.scope scope own) (hi : EM X F env tg iter (l.map en)) (hz : l.length ≤ 100000)
    (hg : ∀ (s : Shared) (H : Hp) (C : Addr) (cl : List (Str × Addr)) (fp : List Addr), PG (X.blk s H scope (compEnvC scope cl C X.env) fp) tg g)
    (tgo : ∀ x ∈ l, TgOk F g (en x) js (up x)) (hj : ∀ j ∈ js, j ∈ own.map (·.2))
    (he : ∀ x ∈ l, ∀ (s : Shared) (H : Hp) (C : Addr) (cl : List (Str × Addr)) (fp : List Addr), EE (X.blk s H scope (compEnvC scope cl C X.env) fp) F (up x (wipeE env (own.map (·.2)))) elt (h x))
    (after : SS X F rest (env.set i (.lst (l.map h))) P)
    (hy : X.N[i]? = some y := by rfl) (hyl : X.env.scope.names.lookup y = some .local := by rfl) (hsw : swapsWith (.ListComp elt [⟨tg, iter, [], 0⟩] scope pos) (some (.Name y py)) spos.line X.env = pure true := by exact sw_true rfl rfl rfl (by decide +kernel))
    (hs : ∀ x, foldedSetIterable iter X.env x = pure x := by intro _; rfl) : SS X F (.Assign [.Name y py] (.ListComp elt [⟨tg, iter, [], 0⟩] scope pos) spos :: rest) env P := fun W σ H D A L =>
  ss_lcR (c := fun _ => true) i hc hN ok hi hz hg tgo hj (fun _ _ _ _ _ _ _ => ets_nil) (fun x hx _ => he x hx) hy hyl hsw hs A fun l' acc H1 H2 e1 hL e2 hacc hd => by
    rw [List.filter_eq_self.mpr fun _ _ => rfl] at hd
    exact after _ _ H2 D ((A.same e1).own e2 hL hacc hd) (L.grow (grow_gr e1 hL e2))
end
/-! ### the text -/
/-- the module's name x is the def y, the i-th statement -/
def Std (K : PySem.W.Frag) (mg : Str → Option Value) (x y : Str) (i : Nat) : Prop := ∃ f fd, mg x = some (.ref f) ∧ FunD K y y (defArgs (top i)) (defBody (top i)) (defScope (top i)) [] [] f fd
/-- the built-ins and constants that are used -/
structure Txt (K : PySem.W.Frag) (mg : Str → Option Value) : Prop where
  len : mg "len" = none
  list : mg "list" = none
  tuple : mg "tuple" = none
  sum : mg "sum" = none
  all : mg "all" = none
  isinstance : mg "isinstance" = none
  int : mg "int" = none
  bool : mg "bool" = none
  str : mg "str" = none
  range : mg "range" = none
  enumerate : mg "enumerate" = none
  zip : mg "zip" = none
  sorted : mg "sorted" = none
  abs : mg "abs" = none
  min : mg "min" = none
/-- a def that keeps its promise, as a caller finds it -/
structure Def (P : Program) (w : World) (K : PySem.W.Frag) (mg : Str → Option Value) (base : Heap) (k : Nat) (x : Str) (ps : List Str) (R : List Sl → D → Prop) : Prop where
  ex : ∃ f fd, FnOk P w K mg base CX0 k f fd ps (spD K R) ∧ mg x = some (.ref f) ∧ PySem.W.keepIn K (.ref f) = true ∧ Binds K fd ps []
theorem ee_callD {X : Cx} {F : Fc} {env : List Sl} {j k : Nat} {ps : List Str} {R : List Sl → D → Prop} {x : Str} {p pos : Pos} {e : Expr} {es : List Expr} {ss : List Sl} {d : D} (G : Def X.prog X.w F.K X.mg X.base k x ps R)
    (ha : EAs X F env (e :: es) ss) (hP : R ss d) (hr : Room j X.A := by assumption) (hk : k ≤ j := by first | decide | omega) (hK : X.K = F.K := by rfl) (hg : Gl X x := by rfl) (hdb : (x == ("__debug__" : Str)) = false := by decide)
    (he : starEach (e :: es) X.env = (false, eval e X.env) :: starEach es X.env := by rfl) (hpl : (backTo pos (starEach es X.env)).any (·.1) = false := by rfl) : EE X F env (.Call (.Name x p) (e :: es) [] pos) d := by
  obtain ⟨f, fd, g1, g2, g3, g4⟩ := G.ex
  exact ee_call (by rw [hK]; exact g1) (hr.mono hk) g2 (by rw [hK]; exact g3) (by rw [hK]; exact g4) ha hP hg hdb he hpl
end Tf
namespace Tf
open PySem PySem.Spec PyProof.Rows L2
theorem def_of {P : Program} {w : World} {K : PySem.W.Frag} {mg : Str → Option Value} {base : Heap} {x y : Str} {i k : Nat} {N ps : List Str} {R : List Sl → D → Prop} (S : Std K mg x y i) (sc : FnScope N ps (defScope (top i))) (len : ∀ ss d, R ss d → ss.length = ps.length)
    (hb : ∀ (kV doc pm : Value) (an : Option Addr) (cdv ct : Value) (us : List Value), us.length = ps.length → bindArgs (PySem.W.fnOf y y (defArgs (top i)) (defBody (top i)) (defScope (top i)) .none kV doc pm an cdv ct) ⟨us, []⟩ = pure (ps.zip us))
    (hbody : ∀ (f : Addr) (cdv : Value) (A : Around) (outer : List Env) (s : Shared) (H : Hp) (E : XK) (W : Ws) (ss : List Sl) (d : D), Room k (A.deeper (envOfC y (defScope (top i)) s.heap.objs.size f cdv)) → R ss d →
      SS (cx0 P w K mg base N y (defScope (top i)) f cdv A outer s H E) (fc0 K W H) (defBody (top i)) (startE N.length ss) ⟨fun _ _ _ => False, Ret (fc0 K W H) d, fun _ _ _ => False, fun _ _ _ => False⟩) : Def P w K mg base (k + 1) x ps R := by
  obtain ⟨f, fd, hm, G⟩ := S
  exact ⟨f, fd, fn_pure G sc len (hbody f), hm, G.kp, G.bindsN hb⟩
end Tf
end
section
set_option maxHeartbeats 1000000
/-! enumerate of a tuple, zip of a tuple and a list. -/
namespace Tf
open PySem PySem.Spec PyProof.Rows L2
section

theorem enum_newT {v : Value} {o : Obj} {H : Heap → Prop} (B : Begins v o H) :
    Meets (Builtin.«enumerate.__new__» ⟨[.type "enumerate", v], []⟩) (fun _ R s => H s.heap ∧
      R (.ok (.ret (.ref (s.heap.push o).objs.size))) { s with heap := (s.heap.push o).push { cls := .type "enumerate", data := .fields #[.none, .bool false, .ref s.heap.objs.size, rawInt 0, .none, .none] } }) :=
  .of_wp fun prog w A R s h => by
    obtain ⟨hp, g, d, tk, os⟩ := s; obtain ⟨h1, h⟩ := h
    have hsub := sub_enumerate
    have q1 : ∀ {A' : Around} {E : Value → Shared → Prop} {Q : Value → Shared → Prop}, Q (.ref hp.objs.size) ⟨hp.push o, g, d, tk, os⟩ → wpAny (model prog w) A' (pyIter v) Q E ⟨hp, g, d, tk, os⟩ :=
      fun q => B.iter prog w _ _ ⟨hp, g, d, tk, os⟩ _ h1 q
    wp_walk using q1
    refine wpAny_stack_any fun st => wpAny_pure ?_
    split
    · rename_i c _ _ _ _ _
      cases (c == Value.type "enumerate")
      · wp_walk using q1
        exact ⟨_, rfl, h⟩
      · wp_walk using q1
        exact ⟨_, rfl, h⟩
    · wp_walk using q1
      exact ⟨_, rfl, h⟩
theorem call_enumT {prog : Program} {w : World} {A : Around} {E : Value → Shared → Prop} {s : Shared} {v : Value} {o : Obj} {H : Heap → Prop} {Q : Value → Shared → Prop} (B : Begins v o H) (h1 : H s.heap)
    (h : ∀ h', IsEnum h' (s.heap.objs.size + 1) s.heap.objs.size 0 .none → h'.get? s.heap.objs.size = some o → h'.objs.size = s.heap.objs.size + 2 →
      (∀ b o, s.heap.get? b = some o → h'.get? b = some o) → Q (.ref (s.heap.objs.size + 1)) { s with heap := h' }) :
    wpAny (model prog w) A (call (.type "enumerate") [v]) Q E s := by
  refine callType_new F.called_enumerate (by decide) (F.typeCall_enumerate_1 _) (F.newCall_enumerate_1 _) (fun obj => F.args_object_init_2 obj _) F.entry_enumerate_new
    (enum_newT B) ⟨h1, ?_⟩
  have hz : (s.heap.push o).objs.size = s.heap.objs.size + 1 := Heap.size_push ..
  show _ ∧ _
  rw [hz]
  have he : IsEnum ((s.heap.push o).push { cls := .type "enumerate", data := .fields #[.none, .bool false, .ref s.heap.objs.size, rawInt 0, .none, .none] }) (s.heap.objs.size + 1) s.heap.objs.size 0 .none := by
    have := Heap.get?_push_size (s.heap.push o) (o := { cls := .type "enumerate", data := .fields #[.none, .bool false, .ref s.heap.objs.size, rawInt 0, .none, .none] }) rfl
    rw [hz] at this; exact this
  refine ⟨⟨_, he, rfl⟩, h _ he (Heap.get?_push_of_some _ (Heap.get?_push_size _ B.free)) (by rw [Heap.size_push, hz]) fun b o x => Heap.get?_push_of_some _ (Heap.get?_push_of_some _ x)⟩
end
/-- the tuple at a as it stands at each turn, each item in a new pair -/
def IteT (K : PySem.W.Frag) (a : Addr) : It :=
  ⟨fun i H => ∃ (xs : List V) (x : V), SqT K H a xs ∧ xs[i]? = some x, fun i H v H' => ∃ T x, v = .ref T ∧ H T = none ∧ H' = upd H T (.tup [.int (i : Nat), x]) ∧ ∀ xs, SqT K H a xs → xs[i]? = some x, fun i H => ∃ xs : List V, SqT K H a xs ∧ xs.length ≤ i⟩
theorem turn_enumT {P : Program} {w : World} {K : PySem.W.Frag} {elts : List Expr} {kk : Nat} {tpos : Pos} (a e it : Addr) (hae : a ≠ e) (hai : a ≠ it) :
    Turn P w K (.Tuple elts kk tpos) (IteT K a) [e, it] e (fun i h => (∃ old, IsEnum h e it ((i : Nat) : Int) old) ∧ h.IsTupleIter it a i ∧ e ≠ it) where
  mem := by simp
  obj := fun i h st b hb => by
    obtain ⟨⟨old, he⟩, ⟨o, ho, hc, hd⟩, _⟩ := st
    have e' : b = e ∨ b = it := by simpa using hb
    rcases e' with z | z
    · rw [z]; exact ⟨_, he, fun v q => nomatch q⟩
    · rw [z]; exact ⟨o, ho, fun v q => by rw [hd] at q; cases q⟩
  keep := fun i h h' st k => let ⟨⟨old, he⟩, hi, hne⟩ := st; ⟨⟨old, k e (by simp) _ he⟩, hi.at fun o q => k it (by simp) o q, hne⟩
  item := by
    intro X hP hw hK hc i pins s σ H E I hf st hg
    subst hP hw hK
    obtain ⟨⟨old, he⟩, hit, hne⟩ := st
    obtain ⟨xs, x, hq, hx⟩ := hg
    obtain ⟨its, rv, p, _⟩ := I.tuple hq
    obtain ⟨u, hu, ru⟩ := rv.get hx
    have hel : e < s.heap.objs.size := Heap.lt_size he
    have hil : it < s.heap.objs.size := by obtain ⟨_, q, _⟩ := hit; exact Heap.lt_size q
    have Dd := PySem.Draws.tuple (prog := X.prog) (w := X.w) (A := X.A.in1) (I.ok.hd hc) it a hai its.toArray
    have hlt : i < its.toArray.size := by
      have := (List.getElem?_eq_some_iff.mp hu).1
      simpa using this
    refine PySem.wpAny_pyNext_enum_itemD Dd he ⟨hit, show s.heap.IsTuple a its.toArray from p⟩ hlt hne (by simp [hae.symm, hne]) fun y h' tk hy ho hst' hT hsz hk => ?_
    have hyu : y = u := by
      have : its.toArray[i]? = some u := by simpa using hu
      rw [this] at hy
      exact (Option.some.inj hy).symm
    subst hyu
    refine ⟨_, rfl, wpAny_letOwnedTupleGo_enum (s := { s with heap := h', toks := tk + 1 }) ho fun h'' he' sb => ?_⟩
    have hT2 : h''.get? s.heap.objs.size = some { cls := .type "tuple", data := .seq #[.int i tk, y] } := (sb.2 _ (Nat.ne_of_gt hel)).trans hT
    have new : ObjOk X.prog X.w (upd H s.heap.objs.size (.tup [.int (i : Nat), x])) h'' s.heap.objs.size (.tup [.int (i : Nat), x]) :=
      ⟨by show 2 ≤ sizeLine; decide, [.int i tk, y], .cons ⟨_, rfl⟩ (.cons ru .nil), ⟨_, hT2, rfl, _, rfl⟩⟩
    have I1 : Inv X pins σ (upd H s.heap.objs.size (.tup [.int (i : Nat), x])) { s with heap := h'', toks := tk + 1 } :=
      I.turnedNew (ch := [e, it]) (fun b ob hb q => (sb.2 b (fun z => hb (by simp [z]))).trans (hk b ob (fun z => hb (by simp [z])) (fun z => hb (by simp [z])) q)) hf (Nat.le_refl _) new
    refine ⟨.ref s.heap.objs.size, _, I1, rfl, ⟨_, x, rfl, I.hok.fresh (Nat.le_refl _), rfl, fun ys hy => by rw [I.tuple_inj hy hq]; exact hx⟩, ⟨⟨y, ?_⟩, hst'.1.at fun o q => (sb.2 it (Ne.symm hne)).trans q, hne⟩, fun b hb => ?_⟩
    · have e1 : ((i + 1 : Nat) : Int) = (i : Int) + 1 := by omega
      rw [e1]; exact he'
    · have hb' : b < s.heap.objs.size := by
        have e' : b = e ∨ b = it := by simpa using hb
        rcases e' with z | z
        · rw [z]; exact hel
        · rw [z]; exact hil
      rw [upd_ne (Nat.ne_of_lt hb')]
      exact (hf b hb).1
  done := by
    intro X hP hw hK hc i pins s σ H E I hf st hg
    subst hP hw hK
    obtain ⟨⟨old, he⟩, hit, hne⟩ := st
    obtain ⟨xs, hq, hx⟩ := hg
    obtain ⟨its, rv, p, hz⟩ := I.tuple hq
    obtain ⟨f0, f1, f2, f3, f4, f5⟩ := hf it (by simp)
    have hl := rv.length
    have hT : s.TypeIs (.ref e) "enumerate" := ⟨_, he, rfl⟩
    unfold pyNext
    refine PySem.wpAny_bind (PySem.wpAny_attempt (PySem.wpAny_callSpecial?_slot (name := Str.ofString "__next__") hT PySem.F.slot_enumerate_next
      (PySem.wpAny_call_entry PySem.F.slot_enumerate_next hT PySem.F.entry_enumerate_next ?_ (PySem.F.args_enumerate_next_1 _))))
    show wpAny _ _ (field (.ref e) 2 >>= _) _ _ _
    refine PySem.wpAny_bind (PySem.wpAny_field he rfl (x := .ref it) rfl ?_)
    refine PySem.wpAny_bind (PySem.wpAny_nextOf_tuple_end (A := X.A.in1) (I.ok.hd hc) hit (show s.heap.IsTuple a its.toArray from p) (by simp; omega) fun h' x he' hx' => ?_)
    obtain ⟨o, ho, hc'⟩ := hx'
    refine PySem.wpAny_bind (PySem.wpAny_isInstance (T := "StopIteration") (b := true) ⟨o, ho, hc'⟩ PySem.isSubtype_stop ?_)
    exact PySem.wpAny_pure ⟨rfl, I.turned (t' := s.toks) (fun b o hb q => he' b o hb q) f0 f1 f3 f4 f5⟩
  self := fun A i s Q E st h => let ⟨⟨_, he⟩, _⟩ := st; wpAny_pyIter_enum he h
/-! ### zip of a tuple and a list -/
def ItzTL (K : PySem.W.Frag) (a b : Addr) : It :=
  ⟨fun i H => ∃ (xs ys : List V) (x y : V), SqT K H a xs ∧ SqL K H b ys ∧ xs[i]? = some x ∧ ys[i]? = some y,
    fun i H v H' => ∃ T x y, v = .ref T ∧ H T = none ∧ H' = upd H T (.tup [x, y]) ∧ (∀ xs, SqT K H a xs → xs[i]? = some x) ∧ ∀ ys, SqL K H b ys → ys[i]? = some y,
    fun i H => ∃ xs ys : List V, SqT K H a xs ∧ SqL K H b ys ∧ i ≤ xs.length ∧ i ≤ ys.length ∧ (i = xs.length ∨ i = ys.length)⟩
theorem turn_zipTL {P : Program} {w : World} {K : PySem.W.Frag} {elts : List Expr} {kk : Nat} {tpos : Pos} {a b z TI TO i1 i2 : Addr} (S : PySem.ZipSep2 z TI TO i1 i2 [i1, a] [i2, b]) :
    Turn P w K (.Tuple elts kk tpos) (ItzTL K a b) [z, TI, TO, i1, i2] z (fun i h => IsZip h z TI TO .none ∧ IsPair h TI (.ref i1) (.ref i2) ∧ (∃ x y, IsPair h TO x y) ∧ h.IsTupleIter i1 a i ∧ h.IsListIter i2 b i) where
  mem := by simp
  obj := fun i h st c hc => by
    obtain ⟨hz, hTI, ⟨x, y, hTO⟩, ⟨o1, e1, _, d1⟩, ⟨o2, e2, _, d2⟩⟩ := st
    have e' : c = z ∨ c = TI ∨ c = TO ∨ c = i1 ∨ c = i2 := by simpa using hc
    rcases e' with q | q | q | q | q
    · rw [q]; exact ⟨_, hz, fun v q => nomatch q⟩
    · rw [q]; exact ⟨_, hTI, fun v q => nomatch q⟩
    · rw [q]; exact ⟨_, hTO, fun v q => nomatch q⟩
    · rw [q]; exact ⟨o1, e1, fun v q => by rw [d1] at q; cases q⟩
    · rw [q]; exact ⟨o2, e2, fun v q => by rw [d2] at q; cases q⟩
  keep := fun i h h' st k => by
    obtain ⟨hz, hTI, ⟨x, y, hTO⟩, h1, h2⟩ := st
    exact ⟨k z (by simp) _ hz, k TI (by simp) _ hTI, ⟨x, y, k TO (by simp) _ hTO⟩, h1.at fun o q => k i1 (by simp) o q, h2.at fun o q => k i2 (by simp) o q⟩
  item := by
    intro X hP hw hK hc i pins s σ H E I hf st hg
    subst hP hw hK
    obtain ⟨hz, hTI, ⟨x0, y0, hTO⟩, h1, h2⟩ := st
    obtain ⟨xs, ys, x, y, hqx, hqy, hx, hy⟩ := hg
    obtain ⟨its, rv, p, _⟩ := I.tuple hqx
    obtain ⟨its2, rv2, p2, _⟩ := I.list hqy
    obtain ⟨u, hu, ru⟩ := rv.get hx
    obtain ⟨u2, hu2, ru2⟩ := rv2.get hy
    have hzl : z < s.heap.objs.size := Heap.lt_size hz
    have n1 : a ≠ i1 := fun e => by
      subst e
      obtain ⟨_, g1, g2, _⟩ := h1
      obtain ⟨_, g3, g4, _⟩ := id p
      rw [g1] at g3
      cases g3
      exact absurd (Value.type.inj (g2.symm.trans g4)) (by decide +kernel)
    have n2 : b ≠ i2 := fun e => by
      subst e
      obtain ⟨_, g1, g2, _⟩ := h2
      obtain ⟨_, g3, g4, _⟩ := id p2.isList
      rw [g1] at g3
      cases g3
      exact absurd (Value.type.inj (g2.symm.trans g4)) (by decide +kernel)
    have D1 := PySem.Draws.tuple (prog := X.prog) (w := X.w) (A := X.A.in1) (I.ok.hd hc) i1 a n1 its.toArray
    have D2 := PySem.Draws.list (prog := X.prog) (w := X.w) (A := X.A.in1) (I.ok.hd hc) i2 b n2 its2.toArray
    have l1 : i < its.toArray.size := by simpa using (List.getElem?_eq_some_iff.mp hu).1
    have l2 : i < its2.toArray.size := by simpa using (List.getElem?_eq_some_iff.mp hu2).1
    refine PySem.wpAny_pyNext_zipD2_item S D1 D2 hz hTI hTO ⟨h1, show s.heap.IsTuple a its.toArray from p⟩ ⟨h2, p2.isList⟩ l1 l2 fun y1 y2 h' tk hy1 hy2 z' TO' s1' s2' hT hsz hk => ?_
    have q1 : y1 = u := by
      have : its.toArray[i]? = some u := by simpa using hu
      rw [this] at hy1
      exact (Option.some.inj hy1).symm
    have q2 : y2 = u2 := by
      have : its2.toArray[i]? = some u2 := by simpa using hu2
      rw [this] at hy2
      exact (Option.some.inj hy2).symm
    subst q1 q2
    refine ⟨_, rfl, wpAny_letOwnedTupleGo_zip (s := { s with heap := h', toks := tk }) z' fun h'' z'' sb => ?_⟩
    have hT2 : h''.get? s.heap.objs.size = some { cls := .type "tuple", data := .seq #[y1, y2] } := (sb.2 _ (Nat.ne_of_gt hzl)).trans hT
    have new : ObjOk X.prog X.w (upd H s.heap.objs.size (.tup [x, y])) h'' s.heap.objs.size (.tup [x, y]) :=
      ⟨by show 2 ≤ sizeLine; decide, [y1, y2], .cons ru (.cons ru2 .nil), ⟨_, hT2, rfl, _, rfl⟩⟩
    have I1 : Inv X pins σ (upd H s.heap.objs.size (.tup [x, y])) { s with heap := h'', toks := tk } :=
      I.turnedNew (ch := [z, TI, TO, i1, i2]) (fun c o hb q => (sb.2 c (fun q' => hb (by simp [q']))).trans (hk c o (fun q' => hb (by simp [q'])) (fun q' => hb (by simp [q'])) (fun q' => hb (by simp [q'])) (fun q' => hb (by simp [q'])) q)) hf (Nat.le_refl _) new
    refine ⟨.ref s.heap.objs.size, _, I1, rfl, ⟨_, x, y, rfl, I.hok.fresh (Nat.le_refl _), rfl, fun l hl => by rw [I.tuple_inj hl hqx]; exact hx, fun l hl => by rw [I.list_inj hl hqy]; exact hy⟩, ⟨z'', ?_, ⟨y1, y2, ?_⟩, ?_, ?_⟩, fun c hcm => ?_⟩
    · exact (sb.2 _ S.TIz).trans (hk _ _ S.TIz S.TITO S.TIi1 S.TIi2 hTI)
    · exact (sb.2 _ S.TOz).trans TO'
    · exact s1'.1.at fun o q => (sb.2 _ S.zi1.symm).trans q
    · exact s2'.1.at fun o q => (sb.2 _ S.zi2.symm).trans q
    · have hlt : c < s.heap.objs.size := by
        have e' : c = z ∨ c = TI ∨ c = TO ∨ c = i1 ∨ c = i2 := by simpa using hcm
        rcases e' with q | q | q | q | q
        · rw [q]; exact hzl
        · rw [q]; exact Heap.lt_size hTI
        · rw [q]; exact Heap.lt_size hTO
        · rw [q]; obtain ⟨_, e1, _⟩ := h1; exact Heap.lt_size e1
        · rw [q]; obtain ⟨_, e2, _⟩ := h2; exact Heap.lt_size e2
      rw [upd_ne (Nat.ne_of_lt hlt)]
      exact (hf c hcm).1
  done := by
    intro X hP hw hK hc i pins s σ H E I hf st hg
    subst hP hw hK
    obtain ⟨hz, hTI, ⟨x0, y0, hTO⟩, h1, h2⟩ := st
    obtain ⟨xs, ys, hqx, hqy, le1, le2, hend⟩ := hg
    obtain ⟨its, rv, p, _⟩ := I.tuple hqx
    obtain ⟨its2, rv2, p2, _⟩ := I.list hqy
    have l1 := rv.length
    have l2 := rv2.length
    have n1 : a ≠ i1 := fun e => by
      subst e
      obtain ⟨_, g1, g2, _⟩ := h1
      obtain ⟨_, g3, g4, _⟩ := id p
      rw [g1] at g3
      cases g3
      exact absurd (Value.type.inj (g2.symm.trans g4)) (by decide +kernel)
    have n2 : b ≠ i2 := fun e => by
      subst e
      obtain ⟨_, g1, g2, _⟩ := h2
      obtain ⟨_, g3, g4, _⟩ := id p2.isList
      rw [g1] at g3
      cases g3
      exact absurd (Value.type.inj (g2.symm.trans g4)) (by decide +kernel)
    have D1 := PySem.Draws.tuple (prog := X.prog) (w := X.w) (A := X.A.in1) (I.ok.hd hc) i1 a n1 its.toArray
    have D2 := PySem.Draws.list (prog := X.prog) (w := X.w) (A := X.A.in1) (I.ok.hd hc) i2 b n2 its2.toArray
    exact PySem.wpAny_pyNext_zipD2_end S D1 D2 hz hTI hTO ⟨h1, show s.heap.IsTuple a its.toArray from p⟩ ⟨h2, p2.isList⟩ (by simp; omega) (by simp; omega) (by simp; omega) fun h' tk hk => ⟨rfl, I.turnedL (t' := tk) (ch := [z, TI, TO, i1, i2]) (fun c o hb q =>
      hk c o (fun q' => hb (by simp [q'])) (fun q' => hb (by simp [q'])) (fun q' => hb (by simp [q'])) (fun q' => hb (by simp [q'])) q) hf⟩
  self := fun A i s Q E st h => wpAny_pyIter_zip st.1 h
def iZipTL (K : PySem.W.Frag) (ta : TA) : TI := fun σ H R => ta σ H fun vs H1 => ∃ a b xs ys, vs = [.ref a, .ref b] ∧ SqT K H1 a xs ∧ SqL K H1 b ys ∧ R (ItzTL K a b) H1
theorem pi_zipTL {X : Cx} {e e2 : Expr} {ta : TA} {p pos tpos : Pos} {elts : List Expr} {kk : Nat} (hg : Gl X "zip") (hm : X.mg "zip" = none) (ha : PA X [e, e2] ta)
    (hs : starEach [e, e2] X.env = (false, eval e X.env) :: starEach [e2] X.env := by rfl) (hpl : (backTo pos (starEach [e2] X.env)).any (·.1) = false := by rfl) :
    PI X (.Tuple elts kk tpos) (.Call (.Name "zip" p) [e, e2] [] pos) (iZipTL X.K ta) := by
  refine ⟨fun pins s σ H R I h => ?_⟩
  refine Call_ (ld_blt I hg hm PyProof.Rows.boot_zip (PyProof.Rows.callWith_type1 (thn (ha.run pos pins s σ H _ I h) fun us s1 ⟨vs, H1, I1, r1, q1⟩ => ?_) hs hpl))
  obtain ⟨a, b, xs, ys, ex, hqx, hqy, q⟩ := q1
  subst ex
  cases r1 with
  | cons r rr =>
    cases rr with
    | cons r' rr =>
      cases rr
      cases r
      cases r'
      have fresh5 : ∀ c, c ∈ [s1.heap.objs.size + 4, s1.heap.objs.size + 2, s1.heap.objs.size + 3, s1.heap.objs.size, s1.heap.objs.size + 1] → FpOk X pins H1 c := fun c hcm => by
        have e' : c = s1.heap.objs.size + 4 ∨ c = s1.heap.objs.size + 2 ∨ c = s1.heap.objs.size + 3 ∨ c = s1.heap.objs.size ∨ c = s1.heap.objs.size + 1 := by simpa using hcm
        have hle : s1.heap.objs.size ≤ c := by
          rcases e' with z | z | z | z | z
          · rw [z]; exact Nat.le_add_right _ _
          · rw [z]; exact Nat.le_add_right _ _
          · rw [z]; exact Nat.le_add_right _ _
          · rw [z]; exact Nat.le_refl _
          · rw [z]; exact Nat.le_add_right _ _
        exact I1.fpOk hle (I1.hok.fresh hle)
      obtain ⟨its, rv, p1, _⟩ := I1.tuple hqx
      obtain ⟨its2, rv2, p2, _⟩ := I1.list hqy
      obtain ⟨o1, ho1, _⟩ := id p1
      obtain ⟨o2, ho2, _⟩ := id p2.isList
      have la : a < s1.heap.objs.size := Heap.lt_size ho1
      have lb : b < s1.heap.objs.size := Heap.lt_size ho2
      refine PySem.zip_begins2 (PySem.begins_tuple a its.toArray) (PySem.begins_list b its2.toArray) (show s1.heap.IsTuple a its.toArray from p1) p2.isList fun h' hz hTI hTO h1 h2 hsz hk => wpAny_pyIter_zip hz ?_
      have I2 : Inv X pins σ H1 { s1 with heap := h' } := I1.kept (t' := s1.toks) hk
      exact ⟨s1.heap.objs.size + 4, [s1.heap.objs.size + 4, s1.heap.objs.size + 2, s1.heap.objs.size + 3, s1.heap.objs.size, s1.heap.objs.size + 1], _, _, H1, rfl, I2, turn_zipTL (PySem.zip_sep2 (fp1 := [a]) (fp2 := [b]) (fun c hc => by rw [List.mem_singleton.mp hc]; exact la) (fun c hc => by rw [List.mem_singleton.mp hc]; exact lb)), ⟨hz, hTI, ⟨_, _, hTO⟩, ⟨_, h1, rfl, rfl⟩, ⟨_, h2, rfl, rfl⟩⟩, fresh5, q⟩
def iEnumT (K : PySem.W.Frag) (ta : TA) : TI := fun σ H R => ta σ H fun vs H1 => ∃ a xs, vs = [.ref a] ∧ SqT K H1 a xs ∧ R (IteT K a) H1
theorem pi_enumT {X : Cx} {e : Expr} {ta : TA} {p pos tpos : Pos} {elts : List Expr} {kk : Nat} (hg : Gl X "enumerate") (hm : X.mg "enumerate" = none) (ha : PA X [e] ta) (hs : starEach [e] X.env = [(false, eval e X.env)] := by rfl) :
    PI X (.Tuple elts kk tpos) (.Call (.Name "enumerate" p) [e] [] pos) (iEnumT X.K ta) := by
  refine ⟨fun pins s σ H R I h => ?_⟩
  refine Call_ (ld_blt I hg hm boot_enumerate (PyProof.Rows.callWith_type1 (thn (ha.run pos pins s σ H _ I h) fun us s1 ⟨vs, H1, I1, r1, q1⟩ => ?_) hs rfl))
  obtain ⟨a, xs, ex, hq, q⟩ := q1
  subst ex
  cases r1 with
  | cons r rr =>
    cases rr
    cases r
    obtain ⟨its, rv, p', hz⟩ := I1.tuple hq
    have p2 : s1.heap.IsTuple a its.toArray := p'
    obtain ⟨o1, ho1, _⟩ := id p2
    have hal : a < s1.heap.objs.size := Heap.lt_size ho1
    refine call_enumT (PySem.begins_tuple a its.toArray) p2 fun h' he hit hsz hk => wpAny_pyIter_enum he ?_
    have I2 : Inv X pins σ H1 { s1 with heap := h' } := I1.kept (t' := s1.toks) hk
    refine ⟨s1.heap.objs.size + 1, [s1.heap.objs.size + 1, s1.heap.objs.size], _, _, H1, rfl, I2, turn_enumT a (s1.heap.objs.size + 1) s1.heap.objs.size (Nat.ne_of_lt (Nat.lt_succ_of_lt hal)) (Nat.ne_of_lt hal), ⟨⟨.none, he⟩, ⟨_, hit, rfl, rfl⟩, Nat.succ_ne_self _⟩, fun b hb => ?_, q⟩
    have e' : b = s1.heap.objs.size + 1 ∨ b = s1.heap.objs.size := by simpa using hb
    have hle : s1.heap.objs.size ≤ b := by
      rcases e' with z | z
      · rw [z]; exact Nat.le_add_right _ _
      · rw [z]; exact Nat.le_refl _
    exact I1.fpOk hle (I1.hok.fresh hle)
section
variable {X : Cx} {F : Fc} {env : List Sl} {e a b tg iter : Expr} {es : List Expr} {d d1 d2 : D} {ds : List D} {pos : Pos}
theorem ei_enumT {p tpos : Pos} {elts : List Expr} {kk : Nat} (hm : X.mg "enumerate" = none) (ha : EE X F env e (.tuple ds)) (hg : Gl X "enumerate" := by rfl) (hs : starEach [e] X.env = [(false, eval e X.env)] := by rfl)
    (hs' : starEach [e] X.env = (false, eval e X.env) :: starEach [] X.env := by rfl) (hk : X.K = F.K := by rfl) : EI X F env (.Tuple elts kk tpos) (.Call (.Name "enumerate" p) [e] [] pos) (enD ds) := fun W σ H R A q =>
  sI_of (pi_enumT hg hm (pa_cons pe_s pa_nil hs') hs) (ha W σ H _ A fun v H1 e1 r1 => by
    obtain ⟨l, vs, rfl, h1, h2⟩ := dp_tup_inv r1
    have hl := dpa_len h2
    have el := enD_len ds
    refine ⟨l, vs, rfl, by rw [hk]; exact seqT_same hide_le h1, ?_⟩
    rw [hk]
    refine q _ H1 e1 ⟨fun i H2 hi s => ?_, fun H2 s => ⟨vs, seqT_same s h1, by omega⟩, fun i d H2 x H3 W2 hdi s y g dm => ?_⟩
    · have hv : i < vs.length := by omega
      exact ⟨vs, vs[i], seqT_same s h1, by simp [hv]⟩
    · obtain ⟨T, z, rfl, nT, e3, y⟩ := y
      obtain ⟨e, he, rfl⟩ := enD_get hdi
      obtain ⟨v, h3, h4⟩ := dpa_get h2 he
      have := (y vs (seqT_same s h1)).symm.trans h3
      cases this
      exact pair_is nT e3 dm (.int _) (dp_same g h4))
theorem ei_zipTL {p tpos : Pos} {elts : List Expr} {kk : Nat} {es : List D} (hm : X.mg "zip" = none) (ha : EE X F env a (.tuple ds)) (hb : EE X F env b (.list es)) (hg : Gl X "zip" := by rfl)
    (hs : starEach [a, b] X.env = (false, eval a X.env) :: starEach [b] X.env := by rfl) (hs2 : starEach [b] X.env = (false, eval b X.env) :: starEach [] X.env := by rfl) (hpl : (backTo pos (starEach [b] X.env)).any (·.1) = false := by rfl) (hk : X.K = F.K := by rfl) :
    EI X F env (.Tuple elts kk tpos) (.Call (.Name "zip" p) [a, b] [] pos) (zipD ds es) := fun W σ H R A q =>
  sI_of (pi_zipTL hg hm (pa_cons pe_s (pa_cons pe_s pa_nil hs2) hs) hs hpl) (ha W σ H _ A fun v1 H1 e1 r1 => hb W σ H1 _ (A.same e1) fun v2 H2 e2 r2 => by
    obtain ⟨l, vs, rfl, h1, h2⟩ := dp_tup_inv (dp_same (hide_same e2) r1)
    obtain ⟨m, ws, rfl, h3, h4⟩ := dp_lst_inv r2
    have l1 := dpa_len h2
    have l2 := dpa_len h4
    have zl := zipD_len ds es
    refine ⟨l, m, vs, ws, rfl, by rw [hk]; exact seqT_same hide_le h1, SqL.of (hide_le _ _ h3), ?_⟩
    rw [hk]
    refine q _ H2 (e1.trans e2) ⟨fun i H3 hi s => ?_, fun H3 s => ⟨vs, ws, seqT_same s h1, SqL.of (s _ _ h3), by omega, by omega, by omega⟩, fun i d H3 x H4 W2 hdi s y g dm => ?_⟩
    · have i1 : i < vs.length := by omega
      have i2 : i < ws.length := by omega
      exact ⟨vs, ws, vs[i], ws[i], seqT_same s h1, SqL.of (s _ _ h3), by simp [i1], by simp [i2]⟩
    · obtain ⟨T, z1, z2, rfl, nT, e3, y1, y2⟩ := y
      obtain ⟨d1, d2, g1, g2, rfl⟩ := zipD_get hdi
      obtain ⟨u1, k1, k2⟩ := dpa_get h2 g1
      obtain ⟨u2, k3, k4⟩ := dpa_get h4 g2
      have q1 := (y1 vs (seqT_same s h1)).symm.trans k1
      have q2 := (y2 ws (SqL.of (s _ _ h3))).symm.trans k3
      cases q1
      cases q2
      exact pair_is nT e3 dm (dp_same g k2) (dp_same g k4))
end
/-! ### loops over what is walked, the list of a caller's too -/
/-- what is walked, told by what stands at every later point of the frame -/
def EJ (X : Cx) (F : Fc) (env : List Sl) (tg iter : Expr) (ds : List D) : Prop := ∀ W σ H R, At F W env σ H → (∀ J H' G, Same H H' → (∀ W2 H2, (∀ a o, ¬ F.L a → F.H a = some o → H2 a = some o) → Gr W H' W2 H2 → Same G H2) → WkD F.K G (hide W H') J ds → R J H') → sI X tg iter σ H R
section
variable {X : Cx} {F : Fc} {env : List Sl} {e a b tg iter : Expr} {es : List Expr} {d d1 d2 : D} {ds : List D} {pos : Pos} {P : Po} {rest body : List Stmt}
theorem EI.j (h : EI X F env tg iter ds) : EJ X F env tg iter ds := fun W σ H R A q => h W σ H R A fun J H' e w => q J H' _ e (fun W2 H2 _ g => Same.trans g hide_le) w
theorem EJ.eq {ds' : List D} (h : EJ X F env tg iter ds) (q : ds = ds') : EJ X F env tg iter ds' := q ▸ h
theorem ej_ro (i : Nat) {x : Str} {p : Pos} (hi : env[i]? = some (.ro ds) := by rfl) (hN : X.N[i]? = some x := by rfl) (hv : Vis X.env.scope x := by first | exact Or.inl rfl | exact Or.inr (Or.inl rfl) | exact Or.inr (Or.inr rfl))
    (hd : (x == ("__debug__" : Str)) = false := by decide) (hcd : (x == ("__classdict__" : Str)) = false := by decide) (hk : X.K = F.K := by rfl) : EJ X F env tg (.Name x p) ds := fun W σ H R A q => by
  obtain ⟨l, vs, h1, ⟨h2, h3, h4⟩, h5, h6⟩ := A.ok i _ hi
  refine sI_of (pi_list (pe_var hN hv hd hcd)) ⟨_, slot_some h1, l, rfl, ⟨vs, SqL.of h5⟩, ?_⟩
  rw [hk]
  obtain ⟨o, ho⟩ : ∃ o, F.H l = some o := by
    cases q : F.H l with
    | none => exact absurd q (A.ent l h3)
    | some o => exact ⟨o, rfl⟩
  have ho2 := A.frm l o h4 ho
  rw [h5] at ho2
  cases ho2
  refine q _ H (fun a => if a = l then some (.lst vs) else none) (Same.refl H) (fun W2 H2 fr _ a o h => ?_) (wk_list (by simp) h6)
  have h : (if a = l then some (HO.lst vs) else none) = some o := h
  split at h
  · next e =>
    cases h
    rw [e]
    exact fr l _ h4 ho
  · cases h
theorem ss_forJ {α : Type} {l : List α} {en : α → D} {g : TG} {js : List Nat} {up : α → List Sl → List Sl} {ι : Type} (p : List α → ι → Prop) (E : List α → ι → List Sl)
    (hi : EJ X F env tg iter (l.map en)) (hg : PG X tg g) (tgo : ∀ x ∈ l, TgOk F g (en x) js (up x))
    (start : ∃ i, p [] i ∧ Weak env (E [] i))
    (turn : ∀ pre x post i, l = pre ++ x :: post → p pre i → SS X F body (up x (E pre i)) ⟨fun W σ H => ∃ i', p (pre ++ [x]) i' ∧ At F W (E (pre ++ [x]) i') σ H, P.rt, fun W σ H => ∃ i', p l i' ∧ At F W (E l i') σ H, fun W σ H => ∃ i', p (pre ++ [x]) i' ∧ At F W (E (pre ++ [x]) i') σ H⟩)
    (after : ∀ i, p l i → SS X F rest (E l i) P)
    (hp : PassesOwn (model X.prog X.w) X.A X.env X.xe := by exact PassesOwn.never) (hc : X.calm = true := by rfl) (hs : ∀ x, foldedSetIterable iter X.env x = pure x := by intro _; rfl) : SS X F (.For tg iter body [] pos :: rest) env P := fun W σ H D A L => by
  refine sSs_of (pss_cons (ps_for hp hc pi_s hg pss_s hs) (pss_s (sts := rest))) (hi W σ H _ A fun J H1 G e1 hG wk => ?_)
  obtain ⟨i0, hp0, w0⟩ := start
  have A1 := A.same e1
  have L1 := L.grow (Gr.of (W := W) e1)
  have ll : (l.map en).length = l.length := List.length_map _
  refine ⟨fun n m σ2 H2 => m = l.length - n ∧ n ≤ l.length ∧ ∃ W2 i, p (l.take n) i ∧ At F W2 (E (l.take n) i) σ2 H2 ∧ Gr W H1 W2 H2, ⟨l.length, by omega, Nat.zero_le _, W, i0, hp0, A1.weak w0, Gr.refl _ _⟩, ?_⟩
  rintro n m σ2 H2 ⟨rfl, hn, W2, i, hpi, A2, g2⟩
  have st2 : Same G H2 := hG W2 H2 A2.frm g2
  by_cases hlt : n < l.length
  · have hx : (l.map en)[n]? = some (en l[n]) := by rw [List.getElem?_map, List.getElem?_eq_getElem hlt]; rfl
    have hmem : l[n] ∈ l := List.getElem_mem hlt
    have ht : l.take (n + 1) = l.take n ++ [l[n]] := by rw [List.take_add_one, List.getElem?_eq_getElem hlt]; rfl
    have hsp : l = l.take n ++ l[n] :: l.drop (n + 1) := by rw [List.getElem_cons_drop, List.take_append_drop]
    refine .inr ⟨wk.go n H2 (by omega) st2, fun σ3 H3 => n + 1 ≤ l.length ∧ ∃ W3 i, p (l.take (n + 1)) i ∧ At F W3 (E (l.take (n + 1)) i) σ3 H3 ∧ Gr W H1 W3 H3, fun σ3 H3 w3 => ⟨l.length - (n + 1), by omega, rfl, w3.1, w3.2⟩, fun x H3 y => ?_⟩
    obtain ⟨e3, r3⟩ := wk.yld n _ H2 x H3 W2 hx st2 y g2 A2.dom
    refine tgo _ hmem _ _ _ _ _ _ (A2.same e3) r3 fun σ4 A4 _ _ => ?_
    have g3 : Gr W H1 W2 H3 := g2.trans (Gr.of e3)
    have fin : ∀ W' σ' H', Gr W2 H3 W' H' → (∃ i', p (l.take n ++ [l[n]]) i' ∧ At F W' (E (l.take n ++ [l[n]]) i') σ' H') → n + 1 ≤ l.length ∧ ∃ W3 i, p (l.take (n + 1)) i ∧ At F W3 (E (l.take (n + 1)) i) σ' H' ∧ Gr W H1 W3 H' := fun W' σ' H' g ⟨i', q1, q2⟩ => by
      rw [ht]
      exact ⟨hlt, W', i', q1, q2, g3.trans g⟩
    exact turn _ _ _ i hsp hpi W2 σ4 H3 _ A4 ⟨fin, L.rt, fun W' σ' H' g ⟨i', q1, q2⟩ => after i' q1 W' σ' H' D q2 (L1.grow (g3.trans g)), fin⟩
  · have en : n = l.length := by omega
    subst en
    rw [List.take_length] at hpi A2
    exact .inl ⟨by rw [← ll]; exact wk.stop H2 st2, after i hpi W2 σ2 H2 D A2 (L1.grow g2)⟩
theorem ss_forJE {α : Type} {l : List α} {en : α → D} {g : TG} {js : List Nat} {up : α → List Sl → List Sl} (E : List α → List Sl)
    (hi : EJ X F env tg iter (l.map en)) (hg : PG X tg g) (tgo : ∀ x ∈ l, TgOk F g (en x) js (up x))
    (start : Weak env (E []))
    (turn : ∀ pre x post, l = pre ++ x :: post → SS X F body (up x (E pre)) ⟨nxE F (E (pre ++ [x])), P.rt, fun _ _ _ => False, nxE F (E (pre ++ [x]))⟩)
    (after : SS X F rest (E l) P)
    (hp : PassesOwn (model X.prog X.w) X.A X.env X.xe := by exact PassesOwn.never) (hc : X.calm = true := by rfl) (hs : ∀ x, foldedSetIterable iter X.env x = pure x := by intro _; rfl) : SS X F (.For tg iter body [] pos :: rest) env P :=
  ss_forJ (fun _ (_ : Unit) => True) (fun pre _ => E pre) hi hg tgo ⟨(), trivial, start⟩ (fun pre x post _ hl _ => fun W σ H D A l => turn pre x post hl W σ H D A ⟨fun W' σ' H' g A' => l.nx W' σ' H' g ⟨(), trivial, A'⟩, l.rt, fun _ _ _ _ z => z.elim, fun W' σ' H' g A' => l.ct W' σ' H' g ⟨(), trivial, A'⟩⟩) (fun _ _ => after) hp hc hs
end
end Tf
end
section
set_option maxHeartbeats 1000000
/-! Data that are compared, in, index. -/
namespace Tf
open PySem PySem.Spec PyProof.Rows L2
structure Sh (k : Nat) (d : D) : Prop where
  lay : d.canLay0 = true
  dep : d.depth ≤ k
theorem Sh.ok {k : Nat} {d : D} (h : Sh k d) (hk : k ≤ 64 := by decide) : SeqAt.shaped d = true := by
  unfold SeqAt.shaped
  rw [h.lay, Bool.true_and]
  exact decide_eq_true (Nat.le_trans h.dep hk)
theorem Sh.int (i : Int) : Sh 0 (.int i) := ⟨by simp only [PyData.canLay0], by simp only [PyData.depth]; exact Nat.le_refl 0⟩
theorem sh_all {k : Nat} : ∀ {ds : List D}, (∀ d ∈ ds, Sh k d) → PyData.canLayAll0 ds = true ∧ PyData.depthAll ds ≤ k
  | [], _ => ⟨by simp only [PyData.canLayAll0], by simp only [PyData.depthAll]; exact Nat.zero_le k⟩
  | d :: ds, h => by
    obtain ⟨h1, h2⟩ := sh_all (ds := ds) fun x hx => h x (List.mem_cons_of_mem _ hx)
    obtain ⟨h3, h4⟩ := h d List.mem_cons_self
    refine ⟨by simp only [PyData.canLayAll0, h1, h3, Bool.and_self], ?_⟩
    simp only [PyData.depthAll]
    omega
theorem Sh.list {k : Nat} {ds : List D} (h : ∀ d ∈ ds, Sh k d) : Sh (k + 1) (.list ds) := by
  obtain ⟨h1, h2⟩ := sh_all h
  exact ⟨by simp only [PyData.canLay0, h1], by simp only [PyData.depth]; omega⟩
theorem Sh.tup {k : Nat} {ds : List D} (h : ∀ d ∈ ds, Sh k d) : Sh (k + 1) (.tuple ds) := by
  obtain ⟨h1, h2⟩ := sh_all h
  exact ⟨by simp only [PyData.canLay0, h1], by simp only [PyData.depth]; omega⟩
theorem sh_map {α : Type} {k : Nat} {l : List α} {f : α → D} (h : ∀ x ∈ l, Sh k (f x)) : ∀ d ∈ l.map f, Sh k d := fun d hd => by
  obtain ⟨x, hx, rfl⟩ := List.mem_map.mp hd
  exact h x hx
theorem sh_tI (ns : List Int) : Sh 1 (tI ns) := .tup (sh_map fun x _ => .int x)
theorem sh_lI (ns : List Int) : Sh 1 (lI ns) := .list (sh_map fun x _ => .int x)
theorem sh_tT (t : List (List Int)) : Sh 2 (tT t) := .tup (sh_map fun x _ => sh_tI x)
theorem sh_nilL : Sh 1 (.list []) := .list fun _ h => nomatch h
theorem sh_nilT : Sh 1 (.tuple []) := .tup fun _ h => nomatch h
theorem eqvAll_map {α : Type} {f : α → D} [DecidableEq α] (h : ∀ a b, PyData.eqv (f a) (f b) = decide (a = b)) : ∀ l m : List α, PyData.eqvAll (l.map f) (m.map f) = decide (l = m)
  | [], [] => by simp [PyData.eqvAll]
  | [], _ :: _ => by simp [PyData.eqvAll]
  | _ :: _, [] => by simp [PyData.eqvAll]
  | a :: l, b :: m => by
    simp only [List.map_cons, PyData.eqvAll, h a b, eqvAll_map h l m]
    by_cases h1 : a = b <;> by_cases h2 : l = m <;> simp [h1, h2]
theorem eqv_int (a b : Int) : PyData.eqv (.int a) (.int b) = decide (a = b) := by
  simp only [PyData.eqv]
  by_cases h : a = b <;> simp [h]
theorem eqv_tI (a b : List Int) : PyData.eqv (tI a) (tI b) = decide (a = b) := by
  show PyData.eqv (.tuple _) (.tuple _) = _
  simp only [PyData.eqv]
  exact eqvAll_map eqv_int a b
theorem eqv_lI (a b : List Int) : PyData.eqv (lI a) (lI b) = decide (a = b) := by
  show PyData.eqv (.list _) (.list _) = _
  simp only [PyData.eqv]
  exact eqvAll_map eqv_int a b
theorem eqv_tT (a b : List (List Int)) : PyData.eqv (tT a) (tT b) = decide (a = b) := by
  show PyData.eqv (.tuple _) (.tuple _) = _
  simp only [PyData.eqv]
  exact eqvAll_map eqv_tI a b
theorem eqv_nilL (l : List D) : PyData.eqv (.list l) (.list []) = l.isEmpty := by
  cases l <;> simp [PyData.eqv, PyData.eqvAll]
theorem eqv_nilT (l : List D) : PyData.eqv (.tuple l) (.tuple []) = l.isEmpty := by
  cases l <;> simp [PyData.eqv, PyData.eqvAll]
theorem hu_65 {k : Nat} {A : Around} (hr : Room k A) : A.units + 65 < cLine := by have := hr.un; omega
section
variable {X : Cx} {F : Fc} {env : List Sl} {e a b : Expr} {es : List Expr} {d d1 d2 : D} {ds : List D} {pos : Pos}
/-! ### flat: an int in a tuple, in a list -/
theorem inV_ints (i : Int) : ∀ ns : List Int, inV (.int i) (ns.map V.int) = decide (i ∈ ns) := fun ns => by
  induction ns with
  | nil => rfl
  | cons n ns ih =>
    have e : inV (.int i) ((n :: ns).map V.int) = (eqV (.int n) (.int i) || inV (.int i) (ns.map V.int)) := rfl
    rw [e, ih]
    have e2 : eqV (.int n) (.int i) = decide (n = i) := by
      first | rfl | (simp [eqV]) | (unfold eqV; by_cases h : i = n <;> simp [h])
    rw [e2]
    by_cases h : i = n
    · subst h; simp
    · have h' : ¬ n = i := fun z => h z.symm
      by_cases h2 : i ∈ ns <;> simp [h, h', h2]
theorem flat_ints (ns : List Int) : (ns.map V.int).all flatV = true := by
  rw [List.all_map, List.all_eq_true]
  intro x _
  rfl
theorem cd_inT {i : Int} {ns : List Int} (hk : X.K = F.K := by rfl) : CmpD X F .In (.int i) (tI ns) (decide (i ∈ ns)) :=
  ⟨_, op_in_seq, fun W H v1 v2 Q _ r1 r2 q => by
    obtain ⟨p, vs, rfl, h1, h2⟩ := dp_tup_inv r2
    obtain rfl := dpa_ints h2
    obtain rfl := dp_int_inv r1
    refine ⟨p, _, rfl, .inr (by rw [hk]; exact seqT_same hide_le h1), rfl, flat_ints ns, ?_⟩
    show Q (.bl (inV (.int i) (ns.map V.int))) H
    rw [inV_ints]
    exact q _ H (Same.refl H) (.bl _)⟩
theorem cd_ninT {i : Int} {ns : List Int} (hk : X.K = F.K := by rfl) : CmpD X F .NotIn (.int i) (tI ns) (!decide (i ∈ ns)) :=
  ⟨_, op_notIn_seq, fun W H v1 v2 Q _ r1 r2 q => by
    obtain ⟨p, vs, rfl, h1, h2⟩ := dp_tup_inv r2
    obtain rfl := dpa_ints h2
    obtain rfl := dp_int_inv r1
    refine ⟨p, _, rfl, .inr (by rw [hk]; exact seqT_same hide_le h1), rfl, flat_ints ns, ?_⟩
    show Q (.bl (!inV (.int i) (ns.map V.int))) H
    rw [inV_ints]
    exact q _ H (Same.refl H) (.bl _)⟩
theorem inV_non : ∀ ns : List Int, inV .non (ns.map V.int) = false := fun ns => by
  induction ns with
  | nil => rfl
  | cons n ns ih =>
    have e : inV .non ((n :: ns).map V.int) = (eqV (.int n) .non || inV .non (ns.map V.int)) := rfl
    rw [e, ih]
    rfl
theorem cd_noneInL {ns : List Int} (hk : X.K = F.K := by rfl) : CmpD X F .In .none (lI ns) false :=
  ⟨_, op_in_seq, fun W H v1 v2 Q _ r1 r2 q => by
    obtain ⟨p, vs, rfl, h1, h2⟩ := dp_lst_inv r2
    obtain rfl := dpa_ints h2
    obtain rfl := dp_non_inv r1
    refine ⟨p, _, rfl, .inl (SqL.of (hide_le _ _ h1)), rfl, flat_ints ns, ?_⟩
    show Q (.bl (inV .non (ns.map V.int))) H
    rw [inV_non]
    exact q _ H (Same.refl H) (.bl _)⟩
/-! ### data at any depth, a list that may be one's own -/
theorem et_ninL (ha : EE X F env a d) (hb : EL X F env b ds) (hs : SeqAt.shaped d = true) (hs2 : SeqAt.shaped (.list ds) = true) (hu : X.A.units + 65 < cLine) (hk : X.K = F.K := by rfl)
    (hm : behindInMarks .NotIn b = false := by first | exact nobehind _ (by decide) (by decide) | rfl) : ET X F env (.Compare a [.NotIn] [b] pos) (!ds.any fun z => PyData.eqv z d) := fun W σ H Q A q =>
  sT_of (pt_cmpR (op_notInD hu) pe_s pe_s hm) (ha W σ H _ A fun v1 H1 e1 r1 => hb W σ H1 _ (A.same e1) fun l vs H2 e2 h2 r2 =>
    ⟨d, ds, by rw [hk]; exact (dp_same hide_le (dp_same (hide_same e2) r1)).dp (SeqAt.canLay_of_shaped hs), by rw [hk]; exact .lst (.inl (.inl h2)) ((dpa_same hide_le r2).dp (by simpa only [PyData.canLay0] using SeqAt.canLay_of_shaped hs2)), hs, hs2, _, rfl, q H2 (e1.trans e2)⟩)
end
end Tf
end
section
set_option maxHeartbeats 1000000
/-! Defs that change what they are handed: a list, the well, tables of code objects. -/
namespace Tf
open PySem PySem.Spec PyProof.Rows L2
def noRo : Sl → Prop
  | .ro _ => False
  | _ => True
theorem SlOk.re {F F' : Fc} {W : Ws} {H : Hp} {s : Sl} {o : Option V} (hK : F.K = F'.K) (n : noRo s) (h : SlOk F W H s o) : SlOk F' W H s o := by
  cases s with
  | any => trivial
  | val d => obtain ⟨v, h1, h2⟩ := h; exact ⟨v, h1, hK ▸ h2⟩
  | lst xs => obtain ⟨l, vs, h1, h2, h3, h4⟩ := h; exact ⟨l, vs, h1, h2, h3, hK ▸ h4⟩
  | ro xs => exact n.elim
  | own l xs => obtain ⟨vs, h1, h2, h3, h4⟩ := h; exact ⟨vs, h1, h2, h3, hK ▸ h4⟩
  | well b k w c => exact h
  | fn mk => exact h
  | scr ns => obtain ⟨a, h1, h2⟩ := h; exact ⟨a, h1, hK ▸ h2⟩
/-- what is handed back: a value, or a new list -/
def ResOk (K : PySem.W.Frag) (W : Ws) (H H' : Hp) : Sl → V → Prop
  | .val d, v => Is K (hide W H') v d
  | .lst ds, v => ∃ l vs, v = .ref l ∧ H l = none ∧ H' l = some (.lst vs) ∧ IsA K (hide (fun a => W a ∨ a = l) H') vs ds
  | _, _ => False
def isVal : Sl → Prop
  | .val _ => True
  | _ => False
/-- a def whose first argument is one's own (or a value); T: tables that it may write -/
def spM (K : PySem.W.Frag) (T : List NdefX.NTab) (G : Sl → List Sl → Prop) (R : Sl → List Sl → Sl → Sl → Prop) : Sp := fun vs H Q _ => ∃ (W : Ws) (v0 : V) (vs1 : List V) (s0 : Sl) (ss : List Sl), vs = v0 :: vs1 ∧ DomW W H ∧ noRo s0 ∧ SlOk (fc0 K W H) W H s0 (some v0) ∧ Args K W H vs1 ss ∧ (∀ s ∈ ss, isVal s) ∧ NdefX.TabsN T H ∧ (∀ p ∈ T, W p.1 ∧ ¬ Own s0 (some v0) p.1) ∧ G s0 ss ∧
  ∀ v H' r s0', R s0 ss r s0' → (∀ a o, ¬ Own s0 (some v0) a → (∀ p ∈ T, a ≠ p.1) → H a = some o → H' a = some o) → NdefX.TabsN T H' → ResOk K W H H' r v → noRo s0' → SlOk (fc0 K W H') W H' s0' (some v0) → (∀ a, Own s0' (some v0) a ↔ Own s0 (some v0) a) → Q v H'
section
variable {F : Fc} {W : Ws} {env : List Sl} {σ : L2.St} {H H' : Hp}
theorem own_code {s : Sl} {o : Option V} {a c : Addr} {q : Str} (h : SlOk F W H s o) (ho : Own s o a) : H a ≠ some (LamX.CodeO c q) := by
  cases s with
  | any => exact ho.elim
  | val d => exact ho.elim
  | ro xs => exact ho.elim
  | scr ns => exact ho.elim
  | fn mk => exact ho.elim
  | lst xs =>
    obtain ⟨l, vs, h1, h2, h3, h4⟩ := h
    have ho : o = some (.ref a) := ho
    rw [h1] at ho
    cases ho
    rw [h3]
    exact fun z => nomatch z
  | own m xs =>
    obtain ⟨vs, h1, h2, h3, h4⟩ := h
    have ho : o = some (.ref a) := ho
    rw [h1] at ho
    cases ho
    rw [h3]
    exact fun z => nomatch z
  | well b k w c =>
    obtain ⟨cs, seed, at_, h1, h2, h3, h4, h5, h6, h7⟩ := h
    rcases ho with ho | ho
    · rw [h1] at ho
      cases ho
      rw [h5]
      exact fun z => nomatch z
    · subst ho
      rw [h6]
      exact fun z => nomatch z
/-- tables that are no part of a change -/
theorem At.tabs (A : At F W env σ H) {i : Nat} {s0 : Sl} (h : env[i]? = some s0) (fr : ∀ a o, ¬ Own s0 (slot σ i) a → H a = some o → H' a = some o) : NdefX.TabsN F.T H' := fun p hp => by
  obtain ⟨ps, t1, t2, t3⟩ := A.tab p hp
  refine ⟨ps, fr _ _ (A.tsep p hp i s0 h) t1, t2, fun pos cv hc => ?_⟩
  obtain ⟨c, e1, e2⟩ := t3 pos cv hc
  exact ⟨c, e1, fr _ _ (fun ho => own_code (A.ok i s0 h) ho e2) e2⟩
/-- what the slot i owns was changed -/
theorem At.turnM (A : At F W env σ H) {i : Nat} {s0 s1 : Sl} {v0 : V} {T : List NdefX.NTab} (h : env[i]? = some s0) (hs : slot σ i = some v0) (fr : ∀ a o, ¬ Own s0 (some v0) a → (∀ p ∈ T, a ≠ p.1) → H a = some o → H' a = some o)
    (hT : ∀ p ∈ T, p ∈ F.T) (tb : NdefX.TabsN F.T H') (n1 : noRo s1) (ok : SlOk (fc0 F.K W H') W H' s1 (some v0)) (ow : ∀ a, Own s1 (some v0) a ↔ Own s0 (some v0) a) : At F W (env.set i s1) σ H' ∧ Same (hide W H) (hide W H') := by
  have hok := A.ok i s0 h
  rw [hs] at hok
  have ok' : SlOk F W H' s1 (some v0) := SlOk.re (F := fc0 F.K W H') rfl n1 ok
  have tabW : ∀ p ∈ F.T, W p.1 := fun p hp => A.sub _ (A.low _ (A.tin p hp))
  have hsame : Same (hide W H) (hide W H') := fun b u hb => by
    obtain ⟨h1, h2⟩ := hide_some hb
    rw [hide_at h1]
    exact fr b u (fun ho => h1 (own_dom hok ho).1) (fun p hp e => h1 (e ▸ tabW p (hT p hp))) h2
  -- what another slot owns
  have oth : ∀ j t a o, j ≠ i → env[j]? = some t → Own t (slot σ j) a → H a = some o → H' a = some o := fun j t a o hj ht ho e =>
    fr a o (fun z => A.sep j i t s0 a hj ht h ho (by rw [hs]; exact z)) (fun p hp q => A.tsep p (hT p hp) j t ht (q ▸ ho)) e
  refine ⟨⟨A.sub, fun a ha => ?_, A.ent, A.new, A.low, fun a o h1 h2 => ?_, tb, A.tin, by simpa using A.len, fun j t hj => ?_, fun j t a hj ho => ?_, fun j k t u a hjk h1 h2 o1 o2 => ?_, fun p hp j t hj ho => ?_⟩, hsame⟩
  · by_cases ho : Own s0 (some v0) a
    · exact (own_dom ok' ((ow a).mpr ho)).2
    · by_cases ht : ∃ p ∈ T, a = p.1
      · obtain ⟨p, hp, rfl⟩ := ht
        obtain ⟨ps, t1, _⟩ := tb p (hT p hp)
        rw [t1]
        exact fun z => nomatch z
      · cases q : H a with
        | none => exact absurd q (A.dom a ha)
        | some o =>
          rw [fr a o ho (fun p hp e => ht ⟨p, hp, e⟩) q]
          exact fun z => nomatch z
  · refine fr a o (fun ho => ?_) (fun p hp e => h1 (e ▸ A.tin p (hT p hp))) (A.frm a o h1 h2)
    rcases A.wr i s0 a h (by rw [hs]; exact ho) with z | z
    · rw [z] at h2; cases h2
    · exact h1 z
  · rcases env_set hj with ⟨rfl, rfl, hl⟩ | ⟨hne, hj⟩
    · rw [hs]; exact ok'
    · have hj2 := A.ok j t hj
      cases t with
      | any => trivial
      | val d =>
        obtain ⟨v, h1, h2⟩ := hj2
        exact ⟨v, h1, dp_same hsame h2⟩
      | lst zs =>
        obtain ⟨m, ws, h1, h2, h3, h4⟩ := hj2
        exact ⟨m, ws, h1, h2, oth j _ m _ hne hj (by rw [h1]; rfl) h3, dpa_same hsame h4⟩
      | fn mk =>
        obtain ⟨f, c, h1, h2, h3⟩ := hj2
        refine ⟨f, c, h1, hsame _ _ h2, fr _ _ (fun ho => own_code hok ho h3) (fun p hp z => ?_) h3⟩
        obtain ⟨ps, t1, _⟩ := A.tab p (hT p hp)
        rw [z, t1] at h3
        cases h3
      | own m zs =>
        obtain ⟨ws, h1, h2, h3, h4⟩ := hj2
        exact ⟨ws, h1, h2, oth j _ m _ hne hj (by rw [h1]; rfl) h3, dpa_same hsame h4⟩
      | ro zs =>
        obtain ⟨m, ws, h1, h2, h3, h4⟩ := hj2
        refine ⟨m, ws, h1, h2, fr m _ (fun ho => ?_) (fun p hp e => h2.2.2 (e ▸ A.tin p (hT p hp))) h3, dpa_same hsame h4⟩
        rcases A.wr i s0 m h (by rw [hs]; exact ho) with z | z
        · exact A.ent m h2.2.1 z
        · exact h2.2.2 z
      | well b k w c =>
        obtain ⟨cs, seed, at_, h1, h2, h3, h4, h5, h6, h7⟩ := hj2
        exact ⟨cs, seed, at_, h1, h2, h3, h4, oth j _ w _ hne hj (.inl (by rw [h1])) h5, oth j _ c _ hne hj (.inr rfl) h6, h7⟩
      | scr ns =>
        obtain ⟨m, h1, h2⟩ := hj2
        exact ⟨m, h1, hsame.seq h2⟩
  · rcases env_set hj with ⟨rfl, rfl, hl⟩ | ⟨hne, hj⟩
    · rw [hs] at ho
      exact A.wr j s0 a h (by rw [hs]; exact (ow a).mp ho)
    · exact A.wr j t a hj ho
  · rcases env_set h1 with ⟨rfl, rfl, hl⟩ | ⟨hne, g1⟩
    · rcases env_set h2 with ⟨rfl, rfl, hl2⟩ | ⟨hne2, h2⟩
      · exact hjk rfl
      · rw [hs] at o1
        exact A.sep j k s0 u a hjk h h2 (by rw [hs]; exact (ow a).mp o1) o2
    · rcases env_set h2 with ⟨rfl, rfl, hl⟩ | ⟨hne2, h2⟩
      · rw [hs] at o2
        exact A.sep j k t s0 a hjk g1 h o1 (by rw [hs]; exact (ow a).mp o2)
      · exact A.sep j k t u a hjk g1 h2 o1 o2
  · rcases env_set hj with ⟨rfl, rfl, hl⟩ | ⟨hne, hj⟩
    · rw [hs] at ho
      exact A.tsep p hp j s0 h (by rw [hs]; exact (ow _).mp ho)
    · exact A.tsep p hp j t hj ho
end
/-! ### such a def -/
/-- its frame -/
def fcM (K : PySem.W.Frag) (W : Ws) (H : Hp) (s0 : Sl) (v0 : V) (T : List NdefX.NTab) : Fc := ⟨K, W, fun a => Own s0 (some v0) a ∨ ∃ p ∈ T, a = p.1, H, T⟩
/-- what it hands back, its argument s1 by then -/
structure RetM (K : PySem.W.Frag) (W : Ws) (H : Hp) (s0 : Sl) (v0 : V) (T : List NdefX.NTab) (r s1 : Sl) (v : V) (H' : Hp) : Prop where
  fr : ∀ a o, ¬ Own s0 (some v0) a → (∀ p ∈ T, a ≠ p.1) → H a = some o → H' a = some o
  tb : NdefX.TabsN T H'
  res : ResOk K W H H' r v
  nr : noRo s1
  ok : SlOk (fc0 K W H') W H' s1 (some v0)
  ow : ∀ a, Own s1 (some v0) a ↔ Own s0 (some v0) a
section
variable {P : Program} {w : World} {K : PySem.W.Frag} {mg : Str → Option Value} {base : Heap}
theorem at_startM {W : Ws} {H : Hp} {v0 : V} {vs : List V} {s0 : Sl} {ss : List Sl} {N : List Str} {T : List NdefX.NTab} (dm : DomW W H) (nr : noRo s0) (ok : SlOk (fc0 K W H) W H s0 (some v0)) (ha : Args K W H vs ss) (hv : ∀ s ∈ ss, isVal s) (tb : NdefX.TabsN T H) (tw : ∀ p ∈ T, W p.1 ∧ ¬ Own s0 (some v0) p.1) (hl : vs.length + 1 ≤ N.length) :
    At (fcM K W H s0 v0 T) W (startE N.length (s0 :: ss)) (start N (v0 :: vs)) H := by
  have l1 : vs.length = ss.length := Paired.length ha
  have sl0 : slot (start N (v0 :: vs)) 0 = some v0 := rfl
  have sls : ∀ i v, vs[i]? = some v → slot (start N (v0 :: vs)) (i + 1) = some v := fun i v h => by
    refine slot_of ?_
    unfold L2.start
    have : i < vs.length := (List.getElem?_eq_some_iff.mp h).1
    rw [List.getElem?_append_left (by rw [List.length_map, List.length_cons]; omega), List.getElem?_map, List.getElem?_cons_succ, h]
    rfl
  have cases_ : ∀ i s, (startE N.length (s0 :: ss))[i]? = some s → (i = 0 ∧ s = s0) ∨ (∃ j v, i = j + 1 ∧ vs[j]? = some v ∧ Arg K W H v s ∧ isVal s) ∨ s = .any := fun i s h => by
    unfold startE at h
    by_cases hi : i < (s0 :: ss).length
    · rw [List.getElem?_append_left hi] at h
      cases i with
      | zero => exact .inl ⟨rfl, (Option.some.inj h).symm⟩
      | succ i =>
        rw [List.getElem?_cons_succ] at h
        obtain ⟨v, h1, h2⟩ := args_slot ha h
        exact .inr (.inl ⟨i, v, rfl, h1, h2, hv s (List.mem_of_getElem? h)⟩)
    · rw [List.getElem?_append_right (by omega), List.getElem?_replicate] at h
      split at h
      · cases h; exact .inr (.inr rfl)
      · cases h
  have own0 : ∀ i s a, (startE N.length (s0 :: ss))[i]? = some s → Own s (slot (start N (v0 :: vs)) i) a → i = 0 ∧ Own s0 (some v0) a := fun i s a h ho => by
    rcases cases_ i s h with ⟨rfl, rfl⟩ | ⟨j, v, rfl, h1, h2, _⟩ | rfl
    · rw [sl0] at ho
      exact ⟨rfl, ho⟩
    · cases h2 <;> exact ho.elim
    · exact ho.elim
  refine ⟨fun _ h => h, dm, dm, fun _ h => .inl h, fun a h => ?_, fun _ _ _ h => h, tb, fun p hp => .inr ⟨p, hp, rfl⟩, ?_, fun i s h => ?_, fun i s a h ho => .inr (.inl (own0 i s a h ho).2), fun i j s t a hij h1 h2 o1 o2 => hij ((own0 i s a h1 o1).1.trans (own0 j t a h2 o2).1.symm), fun p hp i s h ho => (tw p hp).2 (own0 i s _ h ho).2⟩
  · rcases h with h | ⟨p, hp, rfl⟩
    · exact (own_dom ok h).1
    · exact (tw p hp).1
  · unfold L2.start startE
    simp only [List.length_append, List.length_map, List.length_replicate, List.length_cons]
    omega
  · rcases cases_ i s h with ⟨rfl, rfl⟩ | ⟨j, v, rfl, h1, h2, h3⟩ | rfl
    · rw [sl0]
      exact SlOk.re (F := fc0 K W H) rfl nr ok
    · rw [sls j v h1]
      cases h2 with
      | val hv => exact ⟨v, rfl, hv⟩
      | ro hw hv hx => exact h3.elim
      | fn h1 h2 => exact h3.elim
    · trivial
/-- the argument is the same thing -/
def sameK : Sl → Sl → Prop
  | .own l _, .own m _ => l = m
  | .well _ _ w c, .well _ _ w' c' => w = w' ∧ c = c'
  | .val d, .val e => d = e
  | .scr ns, .scr ms => ns = ms
  | _, _ => False
theorem sameK.own {s0 s1 : Sl} (h : sameK s0 s1) {o : Option V} (a : Addr) : Own s1 o a ↔ Own s0 o a := by
  cases s0 <;> cases s1 <;> first | exact h.elim | exact Iff.rfl | (obtain ⟨rfl, rfl⟩ := h; exact Iff.rfl)
theorem At.retM {W W' : Ws} {H H' : Hp} {s0 s1 : Sl} {v0 : V} {T : List NdefX.NTab} {env : List Sl} {σ : L2.St} {r : Sl} {v : V} (ok0 : SlOk (fc0 K W H) W H s0 (some v0)) (A : At (fcM K W H s0 v0 T) W' env σ H') (h0 : env[0]? = some s1) (sk : sameK s0 s1) (hr : ResOk K W H H' r v) : RetM K W H s0 v0 T r s1 v H' := by
  have fr : ∀ a o, ¬ Own s0 (some v0) a → (∀ p ∈ T, a ≠ p.1) → H a = some o → H' a = some o := fun a o h1 h2 h3 => A.frm a o (by
    rintro (z | ⟨p, hp, e⟩)
    · exact h1 z
    · exact h2 p hp e) h3
  have hok := A.ok 0 s1 h0
  refine ⟨fr, A.tab, hr, ?_, ?_, fun a => sk.own a⟩
  · cases s0 <;> cases s1 <;> first | exact sk.elim | trivial
  · cases s0 with
    | any => exact sk.elim
    | lst xs => exact sk.elim
    | ro xs => exact sk.elim
    | scr ns =>
      cases s1 with
      | scr ms =>
        have e1 : ns = ms := sk
        subst e1
        obtain ⟨a, h1, h2⟩ := ok0
        refine ⟨a, h1, Same.seq (fun b u hb => ?_) h2⟩
        obtain ⟨h3, h4⟩ := hide_some hb
        rw [hide_at h3]
        exact fr b u (fun z => z) (fun p hp e => h3 (e ▸ A.low _ (A.tin p hp))) h4
      | _ => exact sk.elim
    | fn mk => exact sk.elim
    | val d =>
      cases s1 with
      | val e =>
        have e1 : d = e := sk
        subst e1
        obtain ⟨v, h1, h2⟩ := ok0
        refine ⟨v, h1, dp_same (fun b u hb => ?_) h2⟩
        obtain ⟨h3, h4⟩ := hide_some hb
        rw [hide_at h3]
        exact fr b u (fun z => z) (fun p hp e => h3 (e ▸ A.low _ (A.tin p hp))) h4
      | _ => exact sk.elim
    | own l xs =>
      cases s1 with
      | own m ys =>
        have e1 : l = m := sk
        subst e1
        obtain ⟨vs, h1, h2, h3, h4⟩ := hok
        obtain ⟨vs0, g1, g2, _⟩ := ok0
        exact ⟨vs, g1, g2, h3, dpa_same (hide_sub A.sub) h4⟩
      | _ => exact sk.elim
    | well b k w c =>
      cases s1 with
      | well b' k' w' c' =>
        obtain ⟨rfl, rfl⟩ := sk
        obtain ⟨cs, seed, at_, h1, h2, h3, h4, h5⟩ := hok
        obtain ⟨cs0, seed0, at0, g1, g2, g3, _⟩ := ok0
        exact ⟨cs, seed, at_, g1, g2, g3, h4, h5⟩
      | _ => exact sk.elim
theorem fn_M {x qual : Str} {params : Arguments} {body : List Stmt} {scope : Scope} {f : Addr} {fd : FuncData} {N ps : List Str} {k : Nat} {T : List NdefX.NTab} {Gp : Sl → List Sl → Prop} {R : Sl → List Sl → Sl → Sl → Prop} (G : FunD K x qual params body scope [] [] f fd) (S : FnScope N ps scope)
    (len : ∀ s0 ss, Gp s0 ss → ss.length + 1 = ps.length) (hbody : ∀ (cdv : Value) (A : Around) (outer : List Env) (s : Shared) (H : Hp) (E : XK) (W : Ws) (s0 : Sl) (v0 : V) (ss : List Sl), Room k (A.deeper (envOfC qual scope s.heap.objs.size f cdv)) → noRo s0 → SlOk (fc0 K W H) W H s0 (some v0) → Gp s0 ss →
      SS (cx0 P w K mg base N qual scope f cdv A outer s H E) (fcM K W H s0 v0 T) body (startE N.length (s0 :: ss)) ⟨fun _ _ H' => ∃ s1, R s0 ss (.val .none) s1 ∧ RetM K W H s0 v0 T (.val .none) s1 .non H', fun v H' => ∃ r s1, R s0 ss r s1 ∧ RetM K W H s0 v0 T r s1 v H', fun _ _ _ => False, fun _ _ _ => False⟩) : FnOk P w K mg base CX0 (k + 1) f fd ps (spM K T Gp R) := by
  have hpl : ps.length ≤ N.length := by
    have := congrArg List.length S.pre
    rw [List.length_take] at this
    omega
  refine G.ok S (fun vs H Q E ⟨W, v0, vs1, s0, ss, ev, dm, nr, ok, ha, hv, tb, tw, hg, q⟩ => ?_) (fun cdv A outer s H vs Q E hr ⟨W, v0, vs1, s0, ss, ev, dm, nr, ok, ha, hv, tb, tw, hg, q⟩ => ⟨sSs (cx0 P w K mg base N qual scope f cdv A outer s H E) body, pss_s.nox, ?_⟩)
  · rw [ev, List.length_cons, Paired.length ha]
    exact len s0 ss hg
  · subst ev
    refine hbody cdv A outer s H E W s0 v0 ss hr nr ok hg W (start N (v0 :: vs1)) H _ (at_startM dm nr ok ha hv tb tw ?_) ⟨fun _ _ H' _ ⟨s1, h1, h2⟩ => q _ H' _ s1 h1 h2.fr h2.tb h2.res h2.nr h2.ok h2.ow, fun v H' ⟨r, s1, h1, h2⟩ => q v H' r s1 h1 h2.fr h2.tb h2.res h2.nr h2.ok h2.ow, fun _ _ _ _ z => z.elim, fun _ _ _ _ z => z.elim⟩
    rw [Paired.length ha, len s0 ss hg]
    exact hpl
/-- a def that changes what it is handed, as a caller finds it -/
structure DefM (P : Program) (w : World) (K : PySem.W.Frag) (mg : Str → Option Value) (base : Heap) (k : Nat) (x : Str) (ps : List Str) (T : List NdefX.NTab) (Gp : Sl → List Sl → Prop) (R : Sl → List Sl → Sl → Sl → Prop) : Prop where
  ex : ∃ f fd, FnOk P w K mg base CX0 k f fd ps (spM K T Gp R) ∧ mg x = some (.ref f) ∧ PySem.W.keepIn K (.ref f) = true ∧ Binds K fd ps []
theorem defM_of {x y : Str} {i k : Nat} {N ps : List Str} {T : List NdefX.NTab} {Gp : Sl → List Sl → Prop} {R : Sl → List Sl → Sl → Sl → Prop} (S : Std K mg x y i) (sc : FnScope N ps (defScope (top i))) (len : ∀ s0 ss, Gp s0 ss → ss.length + 1 = ps.length)
    (hb : ∀ (kV doc pm : Value) (an : Option Addr) (cdv ct : Value) (us : List Value), us.length = ps.length → bindArgs (PySem.W.fnOf y y (defArgs (top i)) (defBody (top i)) (defScope (top i)) .none kV doc pm an cdv ct) ⟨us, []⟩ = pure (ps.zip us))
    (hbody : ∀ (f : Addr) (cdv : Value) (A : Around) (outer : List Env) (s : Shared) (H : Hp) (E : XK) (W : Ws) (s0 : Sl) (v0 : V) (ss : List Sl), Room k (A.deeper (envOfC y (defScope (top i)) s.heap.objs.size f cdv)) → noRo s0 → SlOk (fc0 K W H) W H s0 (some v0) → Gp s0 ss →
      SS (cx0 P w K mg base N y (defScope (top i)) f cdv A outer s H E) (fcM K W H s0 v0 T) (defBody (top i)) (startE N.length (s0 :: ss)) ⟨fun _ _ H' => ∃ s1, R s0 ss (.val .none) s1 ∧ RetM K W H s0 v0 T (.val .none) s1 .non H', fun v H' => ∃ r s1, R s0 ss r s1 ∧ RetM K W H s0 v0 T r s1 v H', fun _ _ _ => False, fun _ _ _ => False⟩) : DefM P w K mg base (k + 1) x ps T Gp R := by
  obtain ⟨f, fd, hm, G⟩ := S
  exact ⟨f, fd, fn_M G sc len (hbody f), hm, G.kp, G.bindsN hb⟩
end
/-! ### expressions that change slots -/
/-- the addresses that a slot may change -/
def zA : Sl → Addr → Prop
  | .own l _, a => a = l
  | .well _ _ w c, a => a = w ∨ a = c
  | _, _ => False
def zOf (env : List Sl) (a : Addr) : Prop := ∃ (j : Nat) (s : Sl), env[j]? = some s ∧ zA s a
/-- nothing else is changed -/
def Kept (F : Fc) (env : List Sl) (H H' : Hp) : Prop := ∀ a o, ¬ zOf env a → (∀ p ∈ F.T, a ≠ p.1) → H a = some o → H' a = some o
theorem Kept.of {F : Fc} {env : List Sl} {H H' : Hp} (e : Same H H') : Kept F env H H' := fun a o _ _ h => e _ _ h
theorem Kept.trans {F : Fc} {env env1 : List Sl} {H H1 H2 : Hp} (k : Kept F env H H1) (z : ∀ a, zOf env1 a → zOf env a) (k2 : Kept F env1 H1 H2) : Kept F env H H2 := fun a o h1 h2 h3 => k2 a o (fun y => h1 (z a y)) h2 (k a o h1 h2 h3)
theorem zA_own {F : Fc} {W : Ws} {H : Hp} {s : Sl} {v : V} {a : Addr} (ok : SlOk F W H s (some v)) (h : zA s a) : Own s (some v) a := by
  cases s with
  | own l xs =>
    obtain ⟨vs, h1, _⟩ := ok
    have h : a = l := h
    rw [h]
    exact h1
  | well b k w c =>
    obtain ⟨cs, seed, at_, h1, _⟩ := ok
    rcases h with h | h
    · exact .inl (by rw [h]; exact h1)
    · exact .inr h
  | _ => exact h.elim
def noLst : Sl → Prop
  | .lst _ => False
  | _ => True
theorem own_zA {F : Fc} {W : Ws} {H : Hp} {s : Sl} {v : V} {a : Addr} (ok : SlOk F W H s (some v)) (n : noLst s) (h : Own s (some v) a) : zA s a := by
  cases s with
  | own l xs =>
    obtain ⟨vs, h1, _⟩ := ok
    have h : some v = some (.ref a) := h
    rw [h1] at h
    cases h
    exact rfl
  | well b k w c =>
    obtain ⟨cs, seed, at_, h1, _⟩ := ok
    rcases h with h | h
    · rw [h1] at h
      cases h
      exact .inl rfl
    · exact .inr h
  | lst xs => exact n.elim
  | _ => exact h.elim
def EF (X : Cx) (F : Fc) (env : List Sl) (e : Expr) (S : D → List Sl → Prop) : Prop := ∀ W σ H Q, At F W env σ H → (∀ v H' d env', S d env' → Gr W H W H' → Kept F env H H' ∧ (∀ a, zOf env' a → zOf env a) → At F W env' σ H' → Is F.K (hide W H') v d → Q v H') → sE X e σ H Q
section
variable {X : Cx} {F : Fc} {env env' : List Sl} {e a b c : Expr} {es : List Expr} {d d1 d2 : D} {ds : List D} {ss : List Sl} {S S' : D → List Sl → Prop} {pos pos' : Pos} {P : Po} {rest th el : List Stmt}
theorem EE.ef (h : EE X F env e d) : EF X F env e (fun d' env' => d' = d ∧ env' = env) := fun W σ H Q A q => h W σ H Q A fun v H' e1 r1 => q v H' d env ⟨rfl, rfl⟩ (Gr.of e1) ⟨Kept.of e1, fun _ z => z⟩ (A.same e1) r1
theorem EF.imp (h : EF X F env e S) (i : ∀ d env', S d env' → S' d env') : EF X F env e S' := fun W σ H Q A q => h W σ H Q A fun v H' d env' s => q v H' d env' (i d env' s)
theorem ss_exprF (he : EF X F env e S) (h : ∀ d env', S d env' → SS X F rest env' P) (hs : swapsWith e none pos.line X.env = pure false := by rfl) : SS X F (.Expr e pos :: rest) env P := fun W σ H D A l =>
  sSs_of (pss_cons (ps_expr pe_s hs) pss_s) (he W σ H _ A fun v H' d env' s g _ A' r => h d env' s W σ H' D A' (l.grow g))
theorem ss_asgF (i : Nat) {x : Str} (he : EF X F env e S) (h : ∀ d env', S d env' → SS X F rest (env'.set i (.val d)) P) (hN : X.N.Nodup := by assumption) (hi : X.N[i]? = some x := by rfl) (hx : Loc X.env.scope x := by first | exact Or.inl rfl | exact Or.inr rfl)
    (hs : swapsWith e (some (.Name x pos')) pos.line X.env = pure false := by rfl) (hf : X.fn x = true ∨ X.env.scope.names.lookup x = some .local := by first | exact .inl rfl | exact .inr rfl) : SS X F (.Assign [.Name x pos'] e pos :: rest) env P := fun W σ H D A l =>
  sSs_of (pss_cons (ps_set hN hi hx pe_s hs hf) pss_s) (he W σ H _ A fun v H' d env' s g _ A' r => h d env' s W _ H' D (A'.setv r) (l.grow g))
/-- a call of such a def: its argument stands in the slot i -/
theorem ef_callM {j k : Nat} {ps : List Str} {T : List NdefX.NTab} {Gp : Sl → List Sl → Prop} {R : Sl → List Sl → Sl → Sl → Prop} {x y : Str} {p p2 : Pos} {s0 : Sl} (G : DefM X.prog X.w F.K X.mg X.base k x ps T Gp R) (i : Nat) (hi : env[i]? = some s0) (s0ok : noRo s0 ∧ s0 ≠ .any)
    (ha : EAs X F env es ss) (hv : ∀ s ∈ ss, isVal s) (hG : Gp s0 ss) (hT : T = [] ∨ T = F.T) (hS : ∀ r s1, R s0 ss r s1 → ∃ d, r = .val d ∧ S d (env.set i s1)) (s0n : noLst s0 := by trivial) (hr : Room j X.A := by assumption) (hk : k ≤ j := by first | decide | omega) (hN : X.N[i]? = some y := by rfl) (hvis : Vis X.env.scope y := by first | exact Or.inl rfl | exact Or.inr (Or.inl rfl) | exact Or.inr (Or.inr rfl)) (hK : X.K = F.K := by rfl) (hg : Gl X x := by rfl) (hdb : (x == ("__debug__" : Str)) = false := by decide)
    (hdy : (y == ("__debug__" : Str)) = false := by decide) (hcy : (y == ("__classdict__" : Str)) = false := by decide)
    (he : starEach (.Name y p2 :: es) X.env = (false, eval (.Name y p2) X.env) :: starEach es X.env := by rfl) (hpl : (backTo pos (starEach es X.env)).any (·.1) = false := by rfl) : EF X F env (.Call (.Name x p) (.Name y p2 :: es) [] pos) S := fun W σ H Q A q => by
  obtain ⟨f, fd, g1, g2, g3, g4⟩ := G.ex
  refine sE_of (pe_call (by rw [hK]; exact g1) (hr.mono hk) hg g2 (by rw [hK]; exact g3) (by rw [hK]; exact g4) .nil pass0 (pa_cons (pe_var hN hvis hdy hcy) pa_s he) hdb he hpl) ?_
  obtain ⟨v0, hs⟩ : ∃ v0, slot σ i = some v0 := by
    have hok := A.ok i s0 hi
    cases s0 with
    | any => exact absurd rfl s0ok.2
    | val d => obtain ⟨v, h1, _⟩ := hok; exact ⟨v, h1⟩
    | lst xs => obtain ⟨l, vs, h1, _⟩ := hok; exact ⟨_, h1⟩
    | ro xs => exact s0ok.1.elim
    | own l xs => obtain ⟨vs, h1, _⟩ := hok; exact ⟨_, h1⟩
    | well b k w c => obtain ⟨cs, seed, at_, h1, _⟩ := hok; exact ⟨_, h1⟩
    | scr ns => obtain ⟨m, h1, _⟩ := hok; exact ⟨_, h1⟩
    | fn mk => obtain ⟨f, c, h1, _⟩ := hok; exact ⟨_, h1⟩
  refine ⟨v0, slot_some hs, ha W σ H _ A fun vs H1 e1 r1 => ?_⟩
  show spM F.K T Gp R ((v0 :: vs) ++ []) H1 Q E0
  rw [List.append_nil]
  have A1 := A.same e1
  have ok1 := A1.ok i s0 hi
  rw [hs] at ok1
  refine ⟨W, v0, vs, s0, ss, rfl, A1.dom, s0ok.1, SlOk.re (F := F) rfl s0ok.1 ok1, r1, hv, ?_, ?_, hG, fun v H' r s1 hR fr tb res nr ok ow => ?_⟩
  · rcases hT with rfl | rfl
    · exact fun p hp => nomatch hp
    · exact A1.tab
  · rcases hT with rfl | rfl
    · exact fun p hp => nomatch hp
    · exact fun p hp => ⟨A1.sub _ (A1.low _ (A1.tin p hp)), fun z => A1.tsep p hp i s0 hi (by rw [hs]; exact z)⟩
  · obtain ⟨d, rfl, hSd⟩ := hS r s1 hR
    have tb' : NdefX.TabsN F.T H' := by
      rcases hT with rfl | rfl
      · exact A1.tabs hi fun a o h1 h2 => fr a o (by rw [hs] at h1; exact h1) (fun p hp => nomatch hp) h2
      · exact tb
    obtain ⟨A2, sm⟩ := A1.turnM hi hs fr (by
      rcases hT with rfl | rfl
      · exact fun p hp => nomatch hp
      · exact fun p hp => hp) tb' nr ok ow
    have ok0 := A1.ok i s0 hi
    rw [hs] at ok0
    refine q v H' d _ hSd ((Gr.of e1).trans sm) ⟨fun a o h1 h2 h3 => fr a o (fun ho => h1 ⟨i, s0, hi, own_zA ok0 s0n ho⟩) (fun p hp => ?_) (e1 _ _ h3), fun a ⟨j, s, hj, hz⟩ => ?_⟩ A2 res
    · rcases hT with rfl | rfl
      · exact nomatch hp
      · exact h2 p hp
    · rcases env_set hj with ⟨rfl, rfl, hl⟩ | ⟨hne, hj⟩
      · exact ⟨j, s0, hi, own_zA ok0 s0n ((ow a).mp (zA_own ok hz))⟩
      · exact ⟨j, s, hj, hz⟩
theorem At.reslot {W : Ws} {σ : L2.St} {H : Hp} (A : At F W env σ H) {i : Nat} {s0 s1 : Sl} (h : env[i]? = some s0) (ok : SlOk F W H s1 (slot σ i)) (ow : ∀ a, Own s1 (slot σ i) a → Own s0 (slot σ i) a) : At F W (env.set i s1) σ H := by
  refine ⟨A.sub, A.dom, A.ent, A.new, A.low, A.frm, A.tab, A.tin, by simpa using A.len, fun j t hj => ?_, fun j t a hj ho => ?_, fun j k t u a hjk h1 h2 o1 o2 => ?_, fun p hp j t hj ho => ?_⟩
  · rcases env_set hj with ⟨rfl, rfl, hl⟩ | ⟨hne, hj⟩
    · exact ok
    · exact A.ok j t hj
  · rcases env_set hj with ⟨rfl, rfl, hl⟩ | ⟨hne, hj⟩
    · exact A.wr j s0 a h (ow a ho)
    · exact A.wr j t a hj ho
  · rcases env_set h1 with ⟨rfl, rfl, hl⟩ | ⟨hne, g1⟩
    · rcases env_set h2 with ⟨rfl, rfl, hl2⟩ | ⟨hne2, h2⟩
      · exact hjk rfl
      · exact A.sep j k s0 u a hjk h h2 (ow a o1) o2
    · rcases env_set h2 with ⟨rfl, rfl, hl⟩ | ⟨hne2, h2⟩
      · exact A.sep j k t s0 a hjk g1 h o1 (ow a o2)
      · exact A.sep j k t u a hjk g1 h2 o1 o2
  · rcases env_set hj with ⟨rfl, rfl, hl⟩ | ⟨hne, hj⟩
    · exact A.tsep p hp j s0 h (ow _ ho)
    · exact A.tsep p hp j t hj ho
/-- a list of one's own: its address is told -/
theorem ss_fix (i : Nat) {xs : List D} {sts : List Stmt} (hi : env[i]? = some (.lst xs)) (h : ∀ l, SS X F sts (env.set i (.own l xs)) P) : SS X F sts env P := fun W σ H D A L => by
  obtain ⟨l, vs, h1, h2, h3, h4⟩ := A.ok i _ hi
  exact h l W σ H D (A.reslot hi ⟨vs, h1, h2, h3, h4⟩ fun a ho => ho) L
theorem ss_unfix (i : Nat) {l : Addr} {xs : List D} {sts : List Stmt} (hi : env[i]? = some (.own l xs)) (h : SS X F sts (env.set i (.lst xs)) P) : SS X F sts env P := fun W σ H D A L => by
  obtain ⟨vs, h1, h2, h3, h4⟩ := A.ok i _ hi
  exact h W σ H D (A.reslot hi ⟨l, vs, h1, h2, h3, h4⟩ fun a ho => ho) L
end
end Tf
end
section
set_option maxHeartbeats 1000000
namespace Tf
open PySem PySem.Spec PyProof.Rows L2
section
variable {X : Cx} {F : Fc} {env env' : List Sl} {e a b c : Expr} {es : List Expr} {d d1 d2 : D} {ds : List D} {pos pos' : Pos} {P : Po} {rest th el : List Stmt}
/-- xs[a], xs[b] = e -/
theorem ss_swap (i : Nat) {x : Str} {p1 p2 p3 p4 pt : Pos} {kt : Nat} {xs : List D} {ka kb : Int} {ja jb : Nat} (he : EE X F env e (.tuple [d1, d2])) (ha : EE X F env a (.int ka)) (hja : ixN xs.length ka = some ja) (hb : EE X F (env.set i (.lst (xs.set ja d1))) b (.int kb)) (hjb : ixN xs.length kb = some jb)
    (h : SS X F rest ((env.set i (.lst (xs.set ja d1))).set i (.lst ((xs.set ja d1).set jb d2))) P) (hi : env[i]? = some (.lst xs) := by rfl) (hil : i < env.length := by simp) (hN : X.N[i]? = some x := by rfl) (hv : Vis X.env.scope x := by first | exact Or.inl rfl | exact Or.inr (Or.inl rfl) | exact Or.inr (Or.inr rfl))
    (hd : (x == ("__debug__" : Str)) = false := by decide) (hcd : (x == ("__classdict__" : Str)) = false := by decide) (hK : X.K = F.K := by rfl)
    (pg : PG X (.Tuple [.Subscript (.Name x p1) a p2, .Subscript (.Name x p3) b p4] kt pt) (gTup X.K 2 (gCons (gSub (tVar i) (sE X a) rSetL) (gCons (gSub (tVar i) (sE X b) rSetL) gNil))) := by exact pg_tup rfl (pgs_cons (pg_sub (pe_var rfl (Or.inl rfl) (by decide) (by decide)) pe_s set_list) (pgs_cons (pg_sub (pe_var rfl (Or.inl rfl) (by decide) (by decide)) pe_s set_list) pgs_nil)))
    (hs : swapsWithSole [.Tuple [.Subscript (.Name x p1) a p2, .Subscript (.Name x p3) b p4] kt pt] e pos.line X.env = pure false := by rfl) (hw : swappedStores [.Tuple [.Subscript (.Name x p1) a p2, .Subscript (.Name x p3) b p4] kt pt] e X.env = pure none := by rfl)
    (h1 : (assignEach [.Tuple [.Subscript (.Name x p1) a p2, .Subscript (.Name x p3) b p4] kt pt] X.env).map (·.2) = [assign (.Tuple [.Subscript (.Name x p1) a p2, .Subscript (.Name x p3) b p4] kt pt) X.env] := by rfl) :
    SS X F (.Assign [.Tuple [.Subscript (.Name x p1) a p2, .Subscript (.Name x p3) b p4] kt pt] e pos :: rest) env P := fun W σ H D A l =>
  sSs_of (pss_cons (ps_asg pe_s pg hs hw h1) pss_s) (he W σ H _ A fun v H1 e1 r1 => by
    obtain ⟨p, vs, rfl, h2, h3⟩ := dp_tup_inv r1
    cases h3 with
    | cons q1 q2 =>
      cases q2 with
      | cons q2 q3 =>
        cases q3
        rename_i v1 v2
        refine ⟨p, [v1, v2], rfl, by rw [hK]; exact seqT_same hide_le h2, rfl, v1, [v2], rfl, ?_⟩
        have A1 := A.same e1
        obtain ⟨m, ws, g1, g2, g3, g4⟩ := A1.ok i _ hi
        refine ⟨_, slot_some g1, ha W σ H1 _ A1 fun u H2 e2 r2 => ?_⟩
        have A2 := A1.same e2
        obtain rfl := dp_int_inv r2
        have d4 := dpa_same (hide_same e2) g4
        have hm := hide_mut (H := H2) (o := .lst (ws.set ja v1)) g2
        refine ⟨m, ws, ka, ja, rfl, rfl, e2 _ _ g3, by rw [dpa_len g4]; exact hja, v2, [], rfl, ?_⟩
        have A3 := A2.turn hi g1 (dpa_set (dp_same (hide_same e2) q1) ja d4)
        have hi3 : (env.set i (.lst (xs.set ja d1)))[i]? = some (.lst (xs.set ja d1)) := List.getElem?_set_self hil
        refine ⟨_, slot_some g1, hb W σ _ _ A3 fun u H3 e3 r3 => ?_⟩
        have A4 := A3.same e3
        obtain rfl := dp_int_inv r3
        have q2' : Is F.K (hide W H3) v2 d2 := dp_same (hide_same e3) (by rw [hm]; exact dp_same (hide_same e2) q2)
        have d5 : IsA F.K (hide W H3) (ws.set ja v1) (xs.set ja d1) := dpa_same (hide_same e3) (by rw [hm]; exact dpa_set (dp_same (hide_same e2) q1) ja d4)
        refine ⟨m, ws.set ja v1, kb, jb, rfl, rfl, e3 _ _ upd_same, by rw [List.length_set, dpa_len g4]; exact hjb, rfl, ?_⟩
        refine h W σ _ D (A4.turn hi3 g1 (dpa_set q2' jb d5)) (l.grow ?_)
        have s1 : Same (hide W H) (hide W H2) := hide_same (e1.trans e2)
        have s2 : Same (hide W H2) (hide W (upd H2 m (.lst (ws.set ja v1)))) := by rw [hm]; exact Same.refl _
        have s3 := hide_same (W := W) e3
        show Same (hide W H) (hide W (upd H3 m (.lst ((ws.set ja v1).set jb v2))))
        rw [hide_mut g2]
        exact (s1.trans s2).trans s3)
end
end Tf
end
section
set_option maxHeartbeats 1000000
/-! The module's tuples and dicts. -/
namespace Tf
open PySem PySem.Spec PyProof.Rows L2
/-- the module's name x is data that stands for good -/
def Gd (K : PySem.W.Frag) (mg : Str → Option Value) (x : Str) (d : D) : Prop := ∃ p, mg x = some (.ref p) ∧ ∀ H, Is K H (.ref p) d
/-- the module's name x is a dict of texts, z in it -/
def Gk (K : PySem.W.Frag) (w : World) (mg : Str → Option Value) (x z : Str) (u : Value) : Prop := ∃ p es n, mg x = some (.ref p) ∧ KDict K w p es n ∧ PySem.W.nsIn K p z = some (some u)
section
variable {X : Cx} {F : Fc} {env env' : List Sl} {e a b c : Expr} {es : List Expr} {d d1 d2 : D} {ds : List D} {pos pos' : Pos} {P : Po} {rest th el : List Stmt}
theorem ee_gd {x : Str} (h : Gd F.K X.mg x d) (hg : Gl X x := by rfl) (hd : (x == ("__debug__" : Str)) = false := by decide) : EE X F env (.Name x pos) d := fun W σ H Q A q => by
  obtain ⟨p, h1, h2⟩ := h
  exact sE_of (pe_glob (v := .ref p) hg h1 rfl hd) (q _ H (Same.refl H) (h2 _))
/-- e not in x -/
theorem et_ninK {x z : Str} {u : Value} {p2 : Pos} (h : Gk F.K X.w X.mg x z u) (ha : EE X F env a (.str z)) (hK : X.K = F.K := by rfl) (hg : Gl X x := by rfl) (hd : (x == ("__debug__" : Str)) = false := by decide)
    (hm : behindInMarks .NotIn (.Name x p2) = false := by first | exact nobehind _ (by decide) (by decide) | rfl) : ET X F env (.Compare a [.NotIn] [.Name x p2] pos) false := fun W σ H Q A q => by
  obtain ⟨p, es, n, h1, h2, h3⟩ := h
  rw [← hK] at h2 h3
  refine sT_of (pt_cmpR (op_notIn_kd h2) pe_s (pe_glob (v := .ref p) hg h1 rfl hd) hm) (ha W σ H _ A fun v1 H1 e1 r1 => ?_)
  exact ⟨z, some u, dp_str_inv r1, rfl, h3, false, rfl, q H1 e1⟩
/-- x[e], an int -/
theorem ee_ixK {x z : Str} {i : Int} {t : Tok} {p2 : Pos} (h : Gk F.K X.w X.mg x z (.int i t)) (hb : EE X F env b (.str z)) (hs : PlainIx b := by exact fun _ _ => rfl) (hK : X.K = F.K := by rfl) (hg : Gl X x := by rfl) (hd : (x == ("__debug__" : Str)) = false := by decide) : EE X F env (.Subscript (.Name x p2) b pos) (.int i) := fun W σ H Q A q => by
  obtain ⟨p, es, n, h1, h2, h3⟩ := h
  rw [← hK] at h2 h3
  refine sE_of (pe_ix ix_kdict (pe_glob (v := .ref p) hg h1 rfl hd) pe_s hs) (hb W σ H _ A fun v2 H2 e2 r2 => ?_)
  exact ⟨p, z, .int i, rfl, dp_str_inv r2, ⟨es, n, _, h2.at_, h2.lit, h3, ⟨t, rfl⟩⟩, q _ H2 e2 (.int i)⟩
/-- y = x[b]; return y(e), a def -/
theorem ss_judge (i : Nat) {x y z : Str} {p2 p3 py pos2 : Pos} {k j : Nat} {f : Addr} {fd : FuncData} {ps : List Str} {R : List Sl → D → Prop} {ss : List Sl} (G : FnOk X.prog X.w F.K X.mg X.base CX0 k f fd ps (spD F.K R)) (kp : PySem.W.keepIn F.K (.ref f) = true) (hbn : L2.Binds F.K fd ps []) (h : Gk F.K X.w X.mg x z (.ref f)) (hb : EE X F env b (.str z))
    (ha : EAs X F (env.set i .any) (e :: es) ss) (hP : R ss d) (ht : ∀ v H', Ret F d v H' → P.rt v H') (hr : Room j X.A := by assumption) (hk : k ≤ j := by first | decide | omega) (hnd : X.N.Nodup := by assumption) (hN : X.N[i]? = some y := by rfl) (hx : Loc X.env.scope y := by first | exact Or.inl rfl | exact Or.inr rfl) (hv : Vis X.env.scope y := by first | exact Or.inl rfl | exact Or.inr (Or.inl rfl) | exact Or.inr (Or.inr rfl)) (hs : PlainIx b := by exact fun _ _ => rfl) (hK : X.K = F.K := by rfl)
    (hg : Gl X x := by rfl) (hd : (x == ("__debug__" : Str)) = false := by decide) (hdy : (y == ("__debug__" : Str)) = false := by decide) (hcy : (y == ("__classdict__" : Str)) = false := by decide) (hil : i < env.length := by simp)
    (hsw : swapsWith (.Subscript (.Name x p2) b p3) (some (.Name y py)) pos.line X.env = pure false := by rfl) (hf : X.fn y = true ∨ X.env.scope.names.lookup y = some .local := by first | exact .inl rfl | exact .inr rfl)
    (he : starEach (e :: es) X.env = (false, eval e X.env) :: starEach es X.env := by rfl) (hpl : (backTo pos' (starEach es X.env)).any (·.1) = false := by rfl) {py2 : Pos} :
    SS X F (.Assign [.Name y py] (.Subscript (.Name x p2) b p3) pos :: .Return (some (.Call (.Name y py2) (e :: es) [] pos')) pos2 :: rest) env P := fun W σ H D A l => by
  obtain ⟨p, es', n, h1, h2, h3⟩ := h
  rw [← hK] at h2 h3 G kp hbn
  refine sSs_of (pss_cons (ps_set hnd hN hx (pe_ix ix_kdict (pe_glob (v := .ref p) hg h1 rfl hd) pe_s hs) hsw hf) (pss_cons (ps_ret (pe_callL G (hr.mono hk) hN hv kp hbn .nil pass0 pa_s hdy hcy he hpl)) (pss_s (sts := rest)))) ?_
  refine hb W σ H _ A fun v2 H2 e2 r2 => ⟨p, z, .ref f, rfl, dp_str_inv r2, ⟨es', n, _, h2.at_, h2.lit, h3, rfl⟩, ?_⟩
  have A2 : At F W (env.set i .any) (σ.set i (some (.ref f))) H2 := (A.same e2).store trivial fun _ z => z
  refine ⟨?_, ha W _ H2 _ A2 fun vs H3 e3 r3 => ?_⟩
  · rw [List.getElem?_set_self (by rw [A.len]; exact hil)]
  · rw [List.append_nil]
    rw [hK]
    exact ⟨W, ss, d, (A2.same e3).dom, r3, hP, fun v H' e4 r4 => l.rt v H' (ht v H' ⟨A.fr ((e2.trans e3).trans e4), dp_same (hide_sub A.sub) r4⟩)⟩
end
end Tf
end
section
set_option maxHeartbeats 1000000
/-! Texts of signs; index of a list of one's own. -/
namespace Tf
open PySem PySem.Spec PyProof.Rows L2
section
variable {X : Cx} {F : Fc} {env env' : List Sl} {e a b c : Expr} {es : List Expr} {d d1 d2 : D} {ds : List D} {pos pos' : Pos} {P : Po} {rest th el : List Stmt}
/-- xs.index(e) -/
theorem ee_index (i : Nat) {x : Str} {p1 p2 : Pos} {xs : List D} {z : D} {j : Nat} (he : EE X F env e d) (hs : SeqAt.shaped (.list xs) = true) (hs2 : SeqAt.shaped d = true) (hj : xs[j]? = some z) (hz : PyData.eqv z d = true) (hno : ∀ (m : Nat) (z' : D), m < j → xs[m]? = some z' → PyData.eqv z' d = false) (hu : X.A.units + 65 < cLine)
    (hi : env[i]? = some (.lst xs) := by rfl) (hN : X.N[i]? = some x := by rfl) (hv : Vis X.env.scope x := by first | exact Or.inl rfl | exact Or.inr (Or.inl rfl) | exact Or.inr (Or.inr rfl))
    (hd : (x == ("__debug__" : Str)) = false := by decide) (hcd : (x == ("__classdict__" : Str)) = false := by decide) (hk : X.K = F.K := by rfl)
    (pb : ∀ {t1 : TE} {t2 : TA}, PE X (.Name x p1) t1 → PA X [e] t2 → PE X (.Call (.Attribute (.Name x p1) "index" p2) [e] [] pos) (tBM X.K "list" (rIndexD X.K) t1 t2) := by exact fun h1 h2 => pe_bm PySem.F.plainAttrs_list PySem.F.slot_list_index PySem.F.type_list_index (mt_indexD (hu_65 (by assumption))) h1 h2)
    (q1 : starEach [e] X.env = (false, eval e X.env) :: starEach [] X.env := by rfl) : EE X F env (.Call (.Attribute (.Name x p1) "index" p2) [e] [] pos) (.int (j : Int)) := fun W σ H Q A q => by
  obtain ⟨m, vs, h1, h2, h3, h4⟩ := A.ok i _ hi
  refine sE_of (pb (pe_var hN hv hd hcd) (pa_cons pe_s pa_nil q1)) ⟨_, slot_some h1, .inl ⟨rfl, vs, SqL.of h3⟩, he W σ H _ A fun v H' e1 r1 => ?_⟩
  refine ⟨m, v, d, xs, j, z, rfl, rfl, ?_, ?_, hs, hs2, hj, hz, hno, q _ H' e1 (.int _)⟩
  · rw [hk]
    exact .lst (.inl (.inl (e1 _ _ h3))) ((dpa_same hide_le (dpa_same (hide_same e1) h4)).dp (by simpa only [PyData.canLay0] using SeqAt.canLay_of_shaped hs))
  · rw [hk]
    exact (dp_same hide_le r1).dp (SeqAt.canLay_of_shaped hs2)
end
/-! ### texts of the signs 0 and 1 -/
def sg1 (i : Int) : Str := ⟨#[(48 + i).toNat]⟩
def tx (b : List Int) : Str := ⟨(b.map fun i => (48 + i).toNat).toArray⟩
def sgS (i : Int) : D := .str (sg1 i)
theorem sgD_tx (b : List Int) : sgD (tx b) = b.map sgS := by
  unfold sgD tx sgS sg1
  simp
theorem tx_len (b : List Int) : (tx b).length = b.length := by
  show (tx b).cps.size = _
  simp [tx]
theorem int_sg {i : Int} (h : i = 0 ∨ i = 1) : PySem.intText? (sg1 i) = some i := by
  rcases h with rfl | rfl <;> decide +kernel
theorem cutS_tx (b : List Int) {lo hi : Nat} (h : hi ≤ b.length) (hl : lo ≤ hi) : cutS (tx b) (some (lo : Int)) (some (hi : Int)) = tx ((b.drop lo).take (hi - lo)) := by
  show (⟨(((tx b).cps.toList.drop (HT.sIx (tx b).length 0 (some (lo : Int)))).take (HT.sIx (tx b).length (tx b).length (some (hi : Int)) - HT.sIx (tx b).length 0 (some (lo : Int)))).toArray⟩ : Str) = _
  rw [HT.sIx_nat, HT.sIx_nat, tx_len, Nat.min_eq_left h, Nat.min_eq_left (by omega)]
  unfold tx
  simp [List.map_take, List.map_drop]
end Tf
end
section
set_option maxHeartbeats 4000000
/-! tuple * int, tuple(range(..)), dicts of texts and ints. -/
namespace Tf
open PySem PySem.Spec PyProof.Rows L2
theorem tuple_mul1 (l : Addr) (items : Array Value) (n : Nat) (dd : Option Addr) (sl : Array (Option Value)) (u : Tok) :
    Meets (Builtin.«tuple.__mul__» ⟨[.ref l, .int 1 u], []⟩) (fun _ R s => s.heap.get? l = some { cls := .type "tuple", dict := dd, data := .seq items n, slots := sl } ∧ R (.ok (.ret (Value.ref l))) s) :=
  .of_wp fun prog w A R s h => by
    obtain ⟨hp, g, d, tk, os⟩ := s
    obtain ⟨hl, h⟩ := h
    have f1 := AutoSeq1.idx_int
    have c1 : (items.isEmpty || (1 : Int) == 1) = true := by simp
    wp_walk using wpAny_loadPart' hl
    repeat (first
      | (refine wpAny_ite_false (decide_eq_false (by decide)) ?_; wp_walk using wpAny_loadPart' hl)
      | (refine wpAny_ite_true (decide_eq_true c1) ?_; wp_walk using wpAny_loadPart' hl))
    exact ⟨_, rfl, h⟩
theorem op_repT1 {X : Cx} : OpR X (binaryOp .Mult) (fun x y H Q => ∃ l xs, x = .ref l ∧ y = .int 1 ∧ SqT X.K H l xs ∧ xs ≠ [] ∧ Q (.ref l) H) := by
  intro pins s σ H x y v u Q I rx ry h
  obtain ⟨l, xs, rfl, rfl, hT, hne, q⟩ := h
  cases rx
  obtain ⟨t, rfl⟩ := ry
  obtain ⟨its, r, ⟨⟨cls, dd, data, sl⟩, ho, hc, n, hd⟩, hs⟩ := I.tuple hT
  simp only at hc hd
  subst hc hd
  exact wpAny_binaryOp_repeat_ref (T := "tuple") (U := "int") (by decide) ⟨_, ho, rfl⟩ (fun s' => typeIs_int s' 1 t) noFill_tuple_mul F.fills_int_mul F.slot_int_rmul repeat_tuple F.slot_int_index.lookup
    (call_meets F.slot_int_rmul (typeIs_int s 1 t) F.entry_int_rmul (F.args_int_rmul_2 _ _) (int_rmul_tuple 1 t l its.toArray n dd sl)
      ⟨ho, rfl, ⟨_, ho, rfl⟩, call_meets F.slot_tuple_mul ⟨_, ho, rfl⟩ F.entry_tuple_mul (F.args_tuple_mul_2 _ _) (tuple_mul1 l its.toArray n dd sl t) ⟨ho, ⟨.ref l, H, I, rfl, q⟩⟩⟩)
section
variable {X : Cx} {F : Fc} {env env' : List Sl} {e a b c : Expr} {es : List Expr} {d d1 d2 : D} {ds : List D} {pos pos' : Pos} {P : Po} {rest th el : List Stmt}
theorem ee_repTn {xs : List D} {k : Int} (ha : EE X F env a (.tuple xs)) (hb : EE X F env b (.int k)) (h0 : xs ≠ []) (h1 : 1 ≤ k) (h2 : k ≤ 1000) (h3 : xs.length ≤ 1000) (hk : X.K = F.K := by rfl) : EE X F env (.BinOp a .Mult b pos) (.tuple (List.replicate k.toNat xs).flatten) :=
  ee_repT ha hb h0 h1 h2 h3 (by rw [← hk]; exact op_repT1) hk
/-- tuple(range(a)) -/
theorem ee_tupRg {n : Int} {p p2 pos2 : Pos} (hm : X.mg "tuple" = none) (hm2 : X.mg "range" = none) (ha : EE X F env a (.int n)) (h0 : 0 ≤ n) (h1 : n ≤ 100000) (hc : X.calm = true := by rfl) (hg : Gl X "tuple" := by rfl) (hg2 : Gl X "range" := by rfl)
    (na : starEach [a] X.env = (false, eval a X.env) :: starEach [] X.env := by rfl) (nb : starEach [.Call (.Name "range" p2) [a] [] pos2] X.env = (false, eval (.Call (.Name "range" p2) [a] [] pos2) X.env) :: starEach [] X.env := by rfl) :
    EE X F env (.Call (.Name "tuple" p) [.Call (.Name "range" p2) [a] [] pos2] [] pos) (.tuple ((List.range n.toNat).map fun (i : Nat) => PyData.int (i : Int))) := fun W σ H Q A q =>
  sE_of (pe_tupRg hc hg hm (prg_1 hg2 hm2 pe_s na) nb) (ha W σ H _ A fun v H1 e1 r1 => by
    refine ⟨n, dp_int_inv r1, ⟨by omega, by omega, by omega, by omega, by omega⟩, fun l hl => ?_⟩
    have A1 := A.same e1
    have nW : ¬ W l := fun z => A1.dom l z hl
    have s3 := same_new (o := HO.tup (rgV 0 n)) hl
    refine q _ _ (e1.trans s3) (.tup (SqT.of (by rw [hide_at nW]; exact upd_same)) ?_)
    have e : rgV 0 n = ((List.range n.toNat).map fun (i : Nat) => (i : Int)).map V.int := by
      unfold rgV
      rw [List.map_map, Int.sub_zero]
      refine List.map_congr_left fun i _ => ?_
      show V.int (0 + (i : Int)) = V.int (i : Int)
      rw [Int.zero_add]
    have e2 : ((List.range n.toNat).map fun (i : Nat) => PyData.int (i : Int)) = ((List.range n.toNat).map fun (i : Nat) => (i : Int)).map PyData.int := by rw [List.map_map]; rfl
    rw [e, e2]
    exact dpa_of_ints _)
/-! ### dicts -/
/-- {x: a, y: b} -/
theorem ee_dct2 {x y : Str} {i j : Int} {k1 k2 : Nat} {p1 p2 : Pos} (ha : EE X F env a (.int i)) (hb : EE X F env b (.int j)) (hxy : x ≠ y) : EE X F env (.Dict [some (.Constant (.str x) k1 p1), some (.Constant (.str y) k2 p2)] [a, b] pos) (.dict ([(x, i), (y, j)].map fun p => (PyData.str p.1, PyData.int p.2))) := fun W σ H Q A q =>
  sE_of (pe_disp (pps_cons pe_str pe_s (pps_cons pe_str pe_s pps_nil)) (by rfl) (by rfl) (by simp) (by simp)) fun p hp => by
    have s1 := same_new (o := HO.dK []) hp
    have A1 := A.same s1
    refine ha W σ _ _ A1 fun v1 H1 e1 r1 => hb W σ H1 _ (A1.same e1) fun v2 H2 e2 r2 => ?_
    obtain rfl := dp_int_inv r1
    obtain rfl := dp_int_inv r2
    have hp2 : H2 p = some (.dK []) := e2 _ _ (e1 _ _ upd_same)
    refine ⟨hp2, [(Sum.inr x, V.int i), (Sum.inr y, V.int j)], rfl, by simp, ?_⟩
    have em : mergeK [] [(Sum.inr x, V.int i), (Sum.inr y, V.int j)] = [(x, i), (y, j)].map (fun p => ((Sum.inr p.1 : Key), V.int p.2)) := by
      show putK (putK [] (Sum.inr x) (V.int i)) (Sum.inr y) (V.int j) = _
      have hne : ¬ (Sum.inr x : Key) = Sum.inr y := fun z => hxy (Sum.inr.inj z)
      simp [putK, hne]
    rw [em]
    have nW : ¬ W p := fun z => A.dom p z hp
    have sf : Same H (upd H2 p (.dK ([(x, i), (y, j)].map (fun p => ((Sum.inr p.1 : Key), V.int p.2))))) := fun b o hb => by
      rw [upd_ne (ne_of_none hb hp)]
      exact e2 _ _ (e1 _ _ (s1 _ _ hb))
    exact q _ _ sf (.dct (by rw [hide_at nW]; exact upd_same))
/-- d[e] -/
theorem ee_ixD {kvs : List (Str × Int)} {z : Str} {i : Int} (ha : EE X F env a (.dict (kvs.map fun p => (PyData.str p.1, PyData.int p.2)))) (hb : EE X F env b (.str z)) (hz : (kvs.find? fun p => decide (p.1 = z)) = some (z, i)) (hu : X.A.units + 1 < cLine) (hs : NoSl b := by exact fun _ _ => rfl) : EE X F env (.Subscript a b pos) (.int i) := fun W σ H Q A q =>
  sE_of (pe_dget hu pe_s pe_s hs) (ha W σ H _ A fun v1 H1 e1 r1 => hb W σ H1 _ (A.same e1) fun v2 H2 e2 r2 => by
    obtain rfl := dp_str_inv r2
    obtain ⟨p, rfl, hp⟩ : ∃ p, v1 = .ref p ∧ hide W H1 p = some (.dK (kvs.map fun p => ((Sum.inr p.1 : Key), V.int p.2))) := by
      generalize hk : (kvs.map fun p => (PyData.str p.1, PyData.int p.2)) = ks at r1
      cases r1 with
      | dct h =>
        rename_i p kvs'
        refine ⟨p, rfl, ?_⟩
        have e : kvs = kvs' := by
          refine (List.map_inj_right (fun x y z => ?_)).mp hk
          have h1 := Prod.mk.inj z
          exact Prod.ext (PyData.str.inj h1.1) (PyData.int.inj h1.2)
        subst e
        exact h
    have hp2 : H2 p = some (.dK (kvs.map fun p => ((Sum.inr p.1 : Key), V.int p.2))) := e2 _ _ (hide_le _ _ hp)
    have ev : valV (kvs.map fun p => ((Sum.inr p.1 : Key), V.int p.2)) (Sum.inr z) = some (V.int i) := by
      unfold valV
      rw [List.find?_map]
      have e : ((fun kv : Key × V => decide (kv.1 = Sum.inr z)) ∘ fun p : Str × Int => ((Sum.inr p.1 : Key), V.int p.2)) = fun p => decide (p.1 = z) := by
        funext p
        show decide ((Sum.inr p.1 : Key) = Sum.inr z) = decide (p.1 = z)
        exact decide_eq_decide.mpr ⟨fun h => Sum.inr.inj h, fun h => by rw [h]⟩
      rw [e, hz]
      rfl
    refine ⟨p, .int i, rfl, ?_, q _ H2 (e1.trans e2) (.int i)⟩
    have := DGet.k (k := Sum.inr z) hp2
    rw [ev] at this
    exact this)
end
end Tf
end
section
set_option maxHeartbeats 4000000
/-! The well of draws: what is read of it, what is written. -/
namespace Tf
open PySem PySem.Spec PyProof.Rows L2
theorem well_v (c : Addr) (seed at_ : Int) : valV [((Sum.inr "cells" : Key), V.ref c), (Sum.inr "seed", .int seed), (Sum.inr "at", .int at_)] (Sum.inr "at") = some (.int at_) ∧ valV [((Sum.inr "cells" : Key), V.ref c), (Sum.inr "seed", .int seed), (Sum.inr "at", .int at_)] (Sum.inr "seed") = some (.int seed) ∧
    valV [((Sum.inr "cells" : Key), V.ref c), (Sum.inr "seed", .int seed), (Sum.inr "at", .int at_)] (Sum.inr "cells") = some (.ref c) := by
  have n1 : ¬ (("cells" : Str) = "at") := by decide
  have n2 : ¬ (("seed" : Str) = "at") := by decide
  have n3 : ¬ (("cells" : Str) = "seed") := by decide
  refine ⟨?_, ?_, ?_⟩
  · rw [valV_neg (fun z => n1 (Sum.inr.inj z)), valV_neg (fun z => n2 (Sum.inr.inj z)), valV_pos rfl]
  · rw [valV_neg (fun z => n3 (Sum.inr.inj z)), valV_pos rfl]
  · rw [valV_pos rfl]
theorem well_put (c : Addr) (seed at_ v : Int) : putK [((Sum.inr "cells" : Key), V.ref c), (Sum.inr "seed", .int seed), (Sum.inr "at", .int at_)] (Sum.inr "at") (.int v) = [((Sum.inr "cells" : Key), V.ref c), (Sum.inr "seed", .int seed), (Sum.inr "at", .int v)] := by
  have m1 : ¬ (("cells" : Str) = "at") := by decide
  have m2 : ¬ (("seed" : Str) = "at") := by decide
  have n1 : ¬ ((Sum.inr "cells" : Key) = (Sum.inr "at" : Key)) := fun z => m1 (Sum.inr.inj z)
  have n2 : ¬ ((Sum.inr "seed" : Key) = (Sum.inr "at" : Key)) := fun z => m2 (Sum.inr.inj z)
  unfold putK
  simp [n1, n2]
section
variable {X : Cx} {F : Fc} {env env' env2 : List Sl} {e a : Expr} {es : List Expr} {d d1 d2 : D} {ds : List D} {pos pos' : Pos} {P : Po} {rest th el : List Stmt} {b k : Nat} {w c : Addr}
theorem ef_wellAt (i : Nat) {x : Str} {p1 p2 : Pos} {j : Nat} (hi : env[i]? = some (.well b k w c)) (hu : X.A.units + 1 < cLine) (hN : X.N[i]? = some x := by rfl) (hv : Vis X.env.scope x := by first | exact Or.inl rfl | exact Or.inr (Or.inl rfl) | exact Or.inr (Or.inr rfl))
    (hd : (x == ("__debug__" : Str)) = false := by decide) (hcd : (x == ("__classdict__" : Str)) = false := by decide) :
    EF X F env (.Subscript (.Name x p1) (.Constant (.str "at") j p2) pos) (fun d env' => env' = env ∧ ∃ a : Int, d = .int a ∧ 0 ≤ a ∧ a ≤ (b : Int)) := fun W σ H Q A q => by
  obtain ⟨cs, seed, at_, h1, h2, h3, h4, h5, h6, h7, h8, h9, h10, h11⟩ := A.ok i _ hi
  have g := DGet.k (k := Sum.inr "at") h5
  rw [(well_v c seed at_).1] at g
  exact sE_of (pe_dget hu (pe_var hN hv hd hcd) pe_str (fun _ _ => rfl)) ⟨_, slot_some h1, w, .int at_, rfl, g, q _ H _ _ ⟨rfl, at_, rfl, h8, h9⟩ (Gr.refl _ _) ⟨Kept.of (Same.refl _), fun _ z => z⟩ A (.int _)⟩
theorem ef_wellSeed (i : Nat) {x : Str} {p1 p2 : Pos} {j : Nat} (hi : env[i]? = some (.well b k w c)) (hu : X.A.units + 1 < cLine) (hN : X.N[i]? = some x := by rfl) (hv : Vis X.env.scope x := by first | exact Or.inl rfl | exact Or.inr (Or.inl rfl) | exact Or.inr (Or.inr rfl))
    (hd : (x == ("__debug__" : Str)) = false := by decide) (hcd : (x == ("__classdict__" : Str)) = false := by decide) :
    EF X F env (.Subscript (.Name x p1) (.Constant (.str "seed") j p2) pos) (fun d env' => env' = env ∧ ∃ a : Int, d = .int a ∧ 0 ≤ a ∧ a ≤ 2 ^ 40) := fun W σ H Q A q => by
  obtain ⟨cs, seed, at_, h1, h2, h3, h4, h5, h6, h7, h8, h9, h10, h11⟩ := A.ok i _ hi
  have g := DGet.k (k := Sum.inr "seed") h5
  rw [(well_v c seed at_).2.1] at g
  exact sE_of (pe_dget hu (pe_var hN hv hd hcd) pe_str (fun _ _ => rfl)) ⟨_, slot_some h1, w, .int seed, rfl, g, q _ H _ _ ⟨rfl, seed, rfl, h10, h11⟩ (Gr.refl _ _) ⟨Kept.of (Same.refl _), fun _ z => z⟩ A (.int _)⟩
/-- a + b, a with draws before, b without -/
theorem ef_add {bb : Expr} {i : Int} {S S' : D → List Sl → Prop} (ha : EF X F env a S) (hb : ∀ d env', S d env' → ∃ j : Int, d = .int j ∧ ∃ i : Int, EE X F env' bb (.int i) ∧ S' (.int (j + i)) env') : EF X F env (.BinOp a .Add bb pos) S' := fun W σ H Q A q =>
  sE_of (pe_op op_add pe_s pe_s) (ha W σ H _ A fun v1 H1 d env' s g kz A1 r1 => by
    obtain ⟨j, rfl, i, he, hs⟩ := hb d env' s
    exact he W σ H1 _ A1 fun v2 H2 e2 r2 => ⟨j, i, dp_int_inv r1, dp_int_inv r2, q _ H2 _ env' hs (g.trans (Gr.of e2)) ⟨kz.1.trans kz.2 (Kept.of e2), kz.2⟩ (A1.same e2) (.int _)⟩)
/-- a + b, b with draws -/
theorem ef_addR {bb : Expr} {i : Int} {S S' : D → List Sl → Prop} (ha : EE X F env a (.int i)) (hb : EF X F env bb S) (hS : ∀ d env', S d env' → ∃ j : Int, d = .int j ∧ S' (.int (i + j)) env') : EF X F env (.BinOp a .Add bb pos) S' := fun W σ H Q A q =>
  sE_of (pe_op op_add pe_s pe_s) (ha W σ H _ A fun v1 H1 e1 r1 => hb W σ H1 _ (A.same e1) fun v2 H2 d env' s g kz A2 r2 => by
    obtain ⟨j, rfl, hs⟩ := hS d env' s
    exact ⟨i, j, dp_int_inv r1, dp_int_inv r2, q _ H2 _ env' hs ((Gr.of e1).trans g) ⟨(Kept.of e1).trans (fun _ z => z) kz.1, kz.2⟩ A2 (.int _)⟩)
/-- the well is written: at -/
theorem ss_wellPut (i : Nat) {x : Str} {p1 p2 p3 : Pos} {j b' : Nat} {v : Int} (hi : env[i]? = some (.well b k w c)) (hu : X.A.units + 1 < cLine) (he : EE X F env e (.int v)) (h0 : 0 ≤ v) (hv : v ≤ (b' : Int)) (h : SS X F rest (env.set i (.well b' k w c)) P) (hN : X.N[i]? = some x := by rfl) (hvis : Vis X.env.scope x := by first | exact Or.inl rfl | exact Or.inr (Or.inl rfl) | exact Or.inr (Or.inr rfl))
    (hd : (x == ("__debug__" : Str)) = false := by decide) (hcd : (x == ("__classdict__" : Str)) = false := by decide) (hs : swapsWith e (some (.Subscript (.Name x p1) (.Constant (.str "at") j p2) p3)) pos.line X.env = pure false := by rfl) :
    SS X F (.Assign [.Subscript (.Name x p1) (.Constant (.str "at") j p2) p3] e pos :: rest) env P := fun W σ H D A L =>
  sSs_of (pss_cons (ps_dput hu (pe_var hN hvis hd hcd) pe_str pe_s hs) pss_s) (he W σ H _ A fun u H1 e1 r1 => by
    obtain rfl := dp_int_inv r1
    have A1 := A.same e1
    obtain ⟨cs, seed, at_, h1, h2, h3, h4, h5, h6, h7, h8, h9, h10, h11⟩ := A1.ok i _ hi
    have pt := DPut.k (k := Sum.inr "at") (v := .int v) h5 (by show 3 < sizeLine; decide)
    rw [well_put] at pt
    refine ⟨_, slot_some h1, w, _, rfl, pt, ?_⟩
    have nw : ∀ a o, a ≠ w → H1 a = some o → (upd H1 w (wellD c seed v)) a = some o := fun a o ha e => by rw [upd_ne ha]; exact e
    have fr : ∀ a o, ¬ Own (.well b k w c) (some (.ref w)) a → (∀ p ∈ ([] : List NdefX.NTab), a ≠ p.1) → H1 a = some o → (upd H1 w (wellD c seed v)) a = some o := fun a o ha _ e => nw a o (fun z => ha (.inl (by rw [z]))) e
    obtain ⟨A2, sm⟩ := A1.turnM (s1 := .well b' k w c) hi h1 fr (fun p hp => nomatch hp) (A1.tabs hi fun a o ha e => fr a o (by rw [← h1]; exact ha) (fun p hp => nomatch hp) e) trivial ⟨cs, seed, v, rfl, h2, h3, h4, upd_same, nw _ _ (Ne.symm h4) h6, h7, h0, hv, h10, h11⟩ (fun a => Iff.rfl)
    exact h W σ _ D A2 (L.grow ((Gr.of e1).trans sm)))
/-- if there are cells: the last one is taken -/
theorem ss_ifPop (i j : Nat) {x y : Str} {p1 p2 p3 p4 p5 p6 p7 p8 p9 p10 p11 p12 : Pos} {k1 k2 : Nat} (hi : env[i]? = some (.well b (k + 1) w c)) (hij : j ≠ i) (hu : X.A.units + 65 < cLine)
    {E : Int → List Sl} (h1 : ∀ v : Int, SS X F th ((env.set i (.well b k w c)).set j (.val (.int v))) { P with nx := fun W σ H => ∃ z, At F W (E z) σ H }) (h2 : ∃ z, Weak env (E z)) (h : ∀ z, SS X F rest (E z) P) (hK : X.K = F.K := by rfl)
    (hnd : X.N.Nodup := by assumption) (hN : X.N[i]? = some x := by rfl) (hv : Vis X.env.scope x := by first | exact Or.inl rfl | exact Or.inr (Or.inl rfl) | exact Or.inr (Or.inr rfl)) (hd : (x == ("__debug__" : Str)) = false := by decide) (hcd : (x == ("__classdict__" : Str)) = false := by decide)
    (hNy : X.N[j]? = some y := by rfl) (hly : Loc X.env.scope y := by first | exact Or.inl rfl | exact Or.inr rfl) (hf : X.fn y = true ∨ X.env.scope.names.lookup y = some .local := by first | exact .inl rfl | exact .inr rfl)
    (hm : behindInMarks .NotEq (.List [] p4) = false := by first | exact nobehind _ (by decide) (by decide) | rfl)
    (hbase : attributeBase (.Subscript (.Name x p7) (.Constant (.str "cells") k2 p8) p9) "pop" X.env (eval (.Subscript (.Name x p7) (.Constant (.str "cells") k2 p8) p9) X.env) = eval (.Subscript (.Name x p7) (.Constant (.str "cells") k2 p8) p9) X.env := by rfl) (hline : (p10.endLine == p11.line) = true := by rfl)
    (hsw : swapsWith (.Call (.Attribute (.Subscript (.Name x p7) (.Constant (.str "cells") k2 p8) p9) "pop" p10) [] [] p11) (some (.Name y p6)) p12.line X.env = pure false := by rfl) :
    SS X F (.If (.Compare (.Subscript (.Name x p1) (.Constant (.str "cells") k1 p2) p3) [.NotEq] [.List [] p4] p5) (.Assign [.Name y p6] (.Call (.Attribute (.Subscript (.Name x p7) (.Constant (.str "cells") k2 p8) p9) "pop" p10) [] [] p11) p12 :: th) [] pos :: rest) env P := fun W σ H D A L => by
  have hu1 : X.A.units + 1 < cLine := by omega
  have hu64 : X.A.units + 64 < cLine := by omega
  have pcell : ∀ {q1 q2 q3 : Pos} {kk : Nat}, PE X (.Subscript (.Name x q1) (.Constant (.str "cells") kk q2) q3) (tDGet (tVar i) (tC (.str "cells"))) := fun {q1 q2 q3 kk} => pe_dget hu1 (pe_var hN hv hd hcd) pe_str (fun _ _ => rfl)
  obtain ⟨cs, seed, at_, g1, g2, g3, g4, g5, g6, g7, g8, g9, g10, g11⟩ := A.ok i _ hi
  have gc := DGet.k (k := Sum.inr "cells") g5
  rw [(well_v c seed at_).2.2] at gc
  refine sSs_of (pss_cons (ps_if (pt_cmpR (op_neD hu64) pcell (pe_lst pa_nil) hm) (pss_cons (ps_set hnd hNy hly (pe_bm0 PySem.F.plainAttrs_list PySem.F.slot_list_pop PySem.F.type_list_pop mt_pop pcell hbase hline) hsw hf) (pss_s (sts := th))) (pss_nil (X := X))) (pss_s (sts := rest))) ?_
  refine ⟨_, slot_some g1, w, .ref c, rfl, gc, ⟨by decide, fun l hl => ?_⟩⟩
  have s1 := same_new (o := HO.lst []) hl
  have hc1 : (upd H l (.lst [])) c = some (.lst (cs.map V.int)) := s1 _ _ g6
  have dpi : ∀ (K : PySem.W.Frag) (H : Hp) (ns : List Int), DpAll K H (ns.map V.int) (ns.map PyData.int) := fun K H ns => by
    induction ns with
    | nil => exact .nil
    | cons n ns ih => exact .cons (.int n) ih
  refine ⟨.list (cs.map PyData.int), .list [], .lst (.inl (.inl hc1)) (dpi _ _ _), .lst (.inl (.inl upd_same)) .nil, (sh_lI cs).ok, sh_nilL.ok, _, rfl, ?_⟩
  rw [eqv_nilL, List.isEmpty_map]
  have A1 := A.same s1
  have L1 := L.grow (Gr.of (W := W) s1)
  cases hcs : cs with
  | nil =>
    obtain ⟨z, h2⟩ := h2
    exact iteF (h z W σ _ D (A1.weak h2) L1)
  | cons z zs =>
    rw [← hcs]
    have hne : cs.isEmpty = false := by rw [hcs]; rfl
    rw [hne]
    refine iteT ?_
    obtain ⟨cs', seed', at', g1', g2', g3', g4', g5', g6', g7', g8', g9', g10', g11'⟩ := A1.ok i _ hi
    have gc' := DGet.k (k := Sum.inr "cells") g5'
    rw [(well_v c seed' at').2.2] at gc'
    rw [hc1] at g6'
    have ecs : cs.map V.int = cs'.map V.int := HO.lst.inj (Option.some.inj g6')
    have ecs : cs = cs' := (List.map_inj_right (fun x y z => V.int.inj z)).mp ecs
    subst ecs
    have hlen : cs.length ≠ 0 := by rw [hcs]; simp
    have hlast : (cs.map V.int)[(cs.map V.int).length - 1]? = some (.int (cs.getLast (by rw [hcs]; simp))) := by
      rw [List.length_map, List.getElem?_map, ← List.getLast?_eq_getElem?, List.getLast?_eq_some_getLast (by rw [hcs]; simp)]
      rfl
    refine ⟨_, slot_some g1', w, .ref c, rfl, gc', .inl ⟨rfl, _, SqL.of hc1⟩, c, cs.map V.int, _, rfl, rfl, hc1, hlast, ?_⟩
    generalize cs.getLast (by rw [hcs]; simp) = v
    have ncc : ∀ a o, a ≠ c → (upd H l (.lst [])) a = some o → (upd (upd H l (.lst [])) c (.lst (cs.map V.int).dropLast)) a = some o := fun a o ha e => by rw [upd_ne ha]; exact e
    have fr : ∀ a o, ¬ Own (.well b (k + 1) w c) (some (.ref w)) a → (∀ p ∈ ([] : List NdefX.NTab), a ≠ p.1) → (upd H l (.lst [])) a = some o → (upd (upd H l (.lst [])) c (.lst (cs.map V.int).dropLast)) a = some o := fun a o ha _ e => ncc a o (fun z => ha (.inr z)) e
    obtain ⟨A2, sm⟩ := A1.turnM (s1 := .well b k w c) hi g1' fr (fun p hp => nomatch hp) (A1.tabs hi fun a o ha e => fr a o (by rw [← g1']; exact ha) (fun p hp => nomatch hp) e) trivial ⟨cs.dropLast, seed', at', rfl, g2', g3', g4', ncc _ _ g4' g5', by rw [upd_same, List.map_dropLast], by rw [List.length_dropLast]; omega, g8', g9', g10', g11'⟩ (fun a => Iff.rfl)
    refine h1 v W _ _ _ (A2.setv (.int v)) ⟨fun W' σ' H' g ⟨z, A'⟩ => h z W' σ' H' D A' ((L1.grow sm).grow g), (L1.grow sm).rt, (L1.grow sm).bk, (L1.grow sm).ct⟩
/-- well['cells'].append(e) -/
theorem ss_cellsAppend (i : Nat) {x : Str} {p1 p2 p3 p4 : Pos} {k1 : Nat} {v : Int} (hi : env[i]? = some (.well b k w c)) (hk : k ≤ 1000) (hu : X.A.units + 1 < cLine) (he : EE X F env e (.int v)) (h : SS X F rest (env.set i (.well b (k + 1) w c)) P) (hK : X.K = F.K := by rfl)
    (hN : X.N[i]? = some x := by rfl) (hv : Vis X.env.scope x := by first | exact Or.inl rfl | exact Or.inr (Or.inl rfl) | exact Or.inr (Or.inr rfl)) (hd : (x == ("__debug__" : Str)) = false := by decide) (hcd : (x == ("__classdict__" : Str)) = false := by decide)
    (pb : ∀ {t1 : TE} {t2 : TA}, PE X (.Subscript (.Name x p1) (.Constant (.str "cells") k1 p2) p3) t1 → PA X [e] t2 → PE X (.Call (.Attribute (.Subscript (.Name x p1) (.Constant (.str "cells") k1 p2) p3) "append" p4) [e] [] pos') (tBM X.K "list" rAppend t1 t2) := by exact fun h1 h2 => pe_bm PySem.F.plainAttrs_list PySem.F.slot_list_append PySem.F.type_list_append mt_append h1 h2)
    (hs : swapsWith (.Call (.Attribute (.Subscript (.Name x p1) (.Constant (.str "cells") k1 p2) p3) "append" p4) [e] [] pos') none pos.line X.env = pure false := by rfl)
    (q1 : starEach [e] X.env = (false, eval e X.env) :: starEach [] X.env := by rfl) :
    SS X F (.Expr (.Call (.Attribute (.Subscript (.Name x p1) (.Constant (.str "cells") k1 p2) p3) "append" p4) [e] [] pos') pos :: rest) env P := fun W σ H D A L => by
  obtain ⟨cs, seed, at_, g1, g2, g3, g4, g5, g6, g7, g8, g9, g10, g11⟩ := A.ok i _ hi
  have gc := DGet.k (k := Sum.inr "cells") g5
  rw [(well_v c seed at_).2.2] at gc
  refine sSs_of (pss_cons (ps_expr (pb (pe_dget hu (pe_var hN hv hd hcd) pe_str (fun _ _ => rfl)) (pa_cons pe_s pa_nil q1)) hs) pss_s) ⟨_, slot_some g1, w, .ref c, rfl, gc, .inl ⟨rfl, _, SqL.of g6⟩, he W σ H _ A fun u H1 e1 r1 => ?_⟩
  obtain rfl := dp_int_inv r1
  have A1 := A.same e1
  have hc1 := e1 _ _ g6
  have hw1 := e1 _ _ g5
  refine ⟨c, cs.map V.int, .int v, rfl, rfl, hc1, by rw [List.length_map, sizeLine_eq]; omega, ?_⟩
  have ncc : ∀ a o, a ≠ c → H1 a = some o → (upd H1 c (.lst (cs.map V.int ++ [.int v]))) a = some o := fun a o ha e => by rw [upd_ne ha]; exact e
  have fr : ∀ a o, ¬ Own (.well b k w c) (some (.ref w)) a → (∀ p ∈ ([] : List NdefX.NTab), a ≠ p.1) → H1 a = some o → (upd H1 c (.lst (cs.map V.int ++ [.int v]))) a = some o := fun a o ha _ e => ncc a o (fun z => ha (.inr z)) e
  obtain ⟨A2, sm⟩ := A1.turnM (s1 := .well b (k + 1) w c) hi g1 fr (fun p hp => nomatch hp) (A1.tabs hi fun a o ha e => fr a o (by rw [← g1]; exact ha) (fun p hp => nomatch hp) e) trivial ⟨cs ++ [v], seed, at_, rfl, g2, g3, g4, ncc _ _ g4 hw1, by rw [upd_same, List.map_append]; rfl, by rw [List.length_append, List.length_singleton]; omega, g8, g9, g10, g11⟩ (fun a => Iff.rfl)
  exact h W σ _ D A2 (L.grow ((Gr.of e1).trans sm))
/-- told less of the well -/
theorem ss_wellWeak (i : Nat) {b' k' : Nat} {sts : List Stmt} (hi : env[i]? = some (.well b k w c)) (hb : b ≤ b') (hk : k ≤ k') (h : SS X F sts (env.set i (.well b' k' w c)) P) : SS X F sts env P := fun W σ H D A L => by
  obtain ⟨cs, seed, at_, g1, g2, g3, g4, g5, g6, g7, g8, g9, g10, g11⟩ := A.ok i _ hi
  exact h W σ H D (A.reslot hi ⟨cs, seed, at_, g1, g2, g3, g4, g5, g6, by omega, g8, by omega, g10, g11⟩ fun a ho => ho) L
/-- return e, of a def that changes what it is handed -/
theorem ss_retM {K : PySem.W.Frag} {W : Ws} {H : Hp} {s0 s1 : Sl} {v0 : V} {T : List NdefX.NTab} (ok0 : SlOk (fc0 K W H) W H s0 (some v0)) (he : EE X (fcM K W H s0 v0 T) env e d) (h0 : env[0]? = some s1) (sk : sameK s0 s1) (hR : ∀ v H', RetM K W H s0 v0 T (.val d) s1 v H' → P.rt v H') : SS X (fcM K W H s0 v0 T) (.Return (some e) pos :: rest) env P := fun W' σ H' D A l =>
  sSs_of (pss_cons (ps_ret pe_s) (pss_s (sts := rest))) (he W' σ H' _ A fun v H2 e1 r1 => l.rt v H2 (hR v H2 ((A.same e1).retM ok0 h0 sk (dp_same (hide_sub A.sub) r1))))
/-- .. whose value takes draws -/
theorem ss_retMF {K : PySem.W.Frag} {W : Ws} {H : Hp} {s0 : Sl} {v0 : V} {T : List NdefX.NTab} {S : D → List Sl → Prop} (ok0 : SlOk (fc0 K W H) W H s0 (some v0)) (he : EF X (fcM K W H s0 v0 T) env e S) (hR : ∀ d env', S d env' → ∃ s1, env'[0]? = some s1 ∧ sameK s0 s1 ∧ ∀ v H', RetM K W H s0 v0 T (.val d) s1 v H' → P.rt v H') : SS X (fcM K W H s0 v0 T) (.Return (some e) pos :: rest) env P := fun W' σ H' D A l =>
  sSs_of (pss_cons (ps_ret pe_s) (pss_s (sts := rest))) (he W' σ H' _ A fun v H2 d env' s g _ A2 r1 => by
    obtain ⟨s1, h0, sk, q⟩ := hR d env' s
    exact l.rt v H2 (q v H2 (A2.retM ok0 h0 sk (dp_same (hide_sub A.sub) r1))))
end
end Tf
end
section
set_option maxHeartbeats 4000000
/-! Comprehensions whose items take draws. -/
namespace Tf
open PySem PySem.Spec PyProof.Rows L2
/-- the same thing in a slot, or the well later on -/
def laterS (s1 s2 : Sl) : Prop := s1 = s2 ∨ ∃ b b' k k' w c, s1 = .well b k w c ∧ s2 = .well b' k' w c
section
variable {X : Cx} {F : Fc} {env env1 env2 : List Sl} {e a : Expr} {pos : Pos} {W : Ws} {σ σ2 : L2.St} {H H1 H2 : Hp} {l : Addr}
/-- a list that was hidden for a while is hidden no more -/
theorem At.ungrow (A1 : At F W env1 σ H1) (A2 : At F (fun a => W a ∨ a = l) env2 σ H2) (hl : H1 l = none) (lt : ∀ (j : Nat) (s2 : Sl), env2[j]? = some s2 → s2 = .any ∨ ∃ s1, env1[j]? = some s1 ∧ laterS s1 s2) : At F W env2 σ H2 := by
  have nW : ¬ W l := fun z => A1.dom l z hl
  have hs : Same (hide (fun a => W a ∨ a = l) H2) (hide W H2) := hide_sub fun a h => .inl h
  refine ⟨A1.sub, fun a h => A2.dom a (.inl h), A2.ent, fun a h => A1.new a h, A2.low, A2.frm, A2.tab, A2.tin, A2.len, fun j s h => ?_, A2.wr, A2.sep, A2.tsep⟩
  have ok := A2.ok j s h
  rcases lt j s h with rfl | ⟨s1, h1, hs1⟩
  · trivial
  have ok1 := A1.ok j s1 h1
  cases s with
  | any => trivial
  | val d => obtain ⟨v, g1, g2⟩ := ok; exact ⟨v, g1, dp_same hs g2⟩
  | lst xs =>
    obtain ⟨m, vs, g1, g2, g3, g4⟩ := ok
    rcases hs1 with rfl | ⟨_, _, _, _, _, _, _, z⟩
    · obtain ⟨m1, vs1, q1, q2, _⟩ := ok1
      rw [g1] at q1
      cases q1
      exact ⟨m, vs, g1, q2, g3, dpa_same hs g4⟩
    · cases z
  | ro xs =>
    obtain ⟨m, vs, g1, g2, g3, g4⟩ := ok
    exact ⟨m, vs, g1, ⟨A1.sub _ g2.2.1, g2.2⟩, g3, dpa_same hs g4⟩
  | own m xs =>
    obtain ⟨vs, g1, g2, g3, g4⟩ := ok
    rcases hs1 with rfl | ⟨_, _, _, _, _, _, _, z⟩
    · obtain ⟨vs1, q1, q2, _⟩ := ok1
      exact ⟨vs, g1, q2, g3, dpa_same hs g4⟩
    · cases z
  | well b k w c =>
    obtain ⟨cs, seed, at_, g1, g2, g3, g4⟩ := ok
    have : W w ∧ W c := by
      rcases hs1 with rfl | ⟨b1, b2, k1, k2, w1, c1, rfl, z⟩
      · obtain ⟨_, _, _, _, q2, q3, _⟩ := ok1
        exact ⟨q2, q3⟩
      · cases z
        obtain ⟨_, _, _, _, q2, q3, _⟩ := ok1
        exact ⟨q2, q3⟩
    exact ⟨cs, seed, at_, g1, this.1, this.2, g4⟩
  | scr ns => obtain ⟨m, g1, g2⟩ := ok; exact ⟨m, g1, hs.seq g2⟩
  | fn mk => obtain ⟨f, c, g1, g2, g3⟩ := ok; exact ⟨f, c, g1, hs _ _ g2, g3⟩
/-- slots of which nothing is told may hold anything -/
theorem At.other (A : At F W env σ2 H) (hl : σ.length = σ2.length) (h : ∀ (j : Nat) (s : Sl), env[j]? = some s → s = .any ∨ slot σ j = slot σ2 j) : At F W env σ H := by
  refine ⟨A.sub, A.dom, A.ent, A.new, A.low, A.frm, A.tab, A.tin, hl.trans A.len, fun j s hj => ?_, fun j s a hj ho => ?_, fun i j s t a hij hi hj o1 o2 => ?_, fun p hp j s hj ho => ?_⟩
  · rcases h j s hj with rfl | e
    · trivial
    · rw [e]; exact A.ok j s hj
  · rcases h j s hj with rfl | e
    · exact ho.elim
    · rw [e] at ho; exact A.wr j s a hj ho
  · rcases h i s hi with rfl | e
    · exact o1.elim
    · rcases h j t hj with rfl | e2
      · exact o2.elim
      · rw [e] at o1
        rw [e2] at o2
        exact A.sep i j s t a hij hi hj o1 o2
  · rcases h j s hj with rfl | e
    · exact ho.elim
    · rw [e] at ho; exact A.tsep p hp j s hj ho
/-- the well in the slot i, behind some draws -/
theorem zOf_well {env : List Sl} {i : Nat} {b b' k k' : Nat} {w c : Addr} (h : env[i]? = some (.well b k w c)) : ∀ a, zOf (env.set i (.well b' k' w c)) a → zOf env a := fun a ⟨j, s, hj, hz⟩ => by
  rcases env_set hj with ⟨rfl, rfl, hl⟩ | ⟨hne, hj⟩
  · exact ⟨j, _, h, hz⟩
  · exact ⟨j, s, hj, hz⟩
theorem zOf_W {F : Fc} {W : Ws} {env : List Sl} {σ : L2.St} {H : Hp} (A : At F W env σ H) {a : Addr} (h : zOf env a) : W a := by
  obtain ⟨j, s, hj, hz⟩ := h
  have ok := A.ok j s hj
  cases s with
  | own l xs =>
    obtain ⟨vs, h1, h2, _⟩ := ok
    have hz : a = l := hz
    rw [hz]
    exact h2
  | well b k w c =>
    obtain ⟨cs, seed, at_, h1, h2, h3, _⟩ := ok
    rcases hz with rfl | rfl
    · exact h2
    · exact h3
  | _ => exact hz.elim
theorem wipe_len (σ : L2.St) : ∀ vs : List Nat, (wipe σ vs).length = σ.length := fun vs => by
  induction vs generalizing σ with
  | nil => rfl
  | cons v vs ih =>
    unfold wipe
    simp
    exact ih σ
theorem wipeE_any : ∀ (vs : List Nat) {env : List Sl}, (∀ (j : Nat) (s : Sl), j ∈ vs → env[j]? = some s → s = .any) → wipeE env vs = env
  | [], _, _ => rfl
  | v :: vs, env, h => by
    have e : env.set v .any = env := List.ext_getElem? fun j => by
      by_cases hj : v = j
      · subst hj
        cases q : env[v]? with
        | none =>
          rw [List.getElem?_eq_none_iff] at q ⊢
          simpa using q
        | some s =>
          rw [List.getElem?_set_self (List.getElem?_eq_some_iff.mp q).1, h v s List.mem_cons_self q]
      · rw [List.getElem?_set_ne hj]
    show (wipeE env vs).set v .any = env
    rw [wipeE_any vs fun j s hj => h j s (List.mem_cons_of_mem _ hj)]
    exact e
theorem set_same {env : List Sl} {i : Nat} {s : Sl} (h : env[i]? = some s) : env.set i s = env := List.ext_getElem? fun j => by
  by_cases hj : i = j
  · subst hj
    rw [List.getElem?_set_self (List.getElem?_eq_some_iff.mp h).1, h]
  · rw [List.getElem?_set_ne hj]
/-- a hidden list that no slot owns is written -/
theorem At.updL {F : Fc} {W : Ws} {env : List Sl} {σ : L2.St} {H : Hp} {L : Addr} {vs0 vs : List V} (A : At F W env σ H) (hW : W L) (hno : ∀ (j : Nat) (s : Sl), env[j]? = some s → ¬ Own s (slot σ j) L) (hf : F.H L = none) (hT : ∀ p ∈ F.T, p.1 ≠ L) (hL : H L = some (.lst vs0)) : At F W env σ (upd H L (.lst vs)) := by
  have hm := hide_mut (H := H) (o := .lst vs) hW
  have ne : ∀ b o, b ≠ L → H b = some o → (upd H L (.lst vs)) b = some o := fun b o hb e => by rw [upd_ne hb]; exact e
  refine ⟨A.sub, fun a ha => ?_, A.ent, A.new, A.low, fun a o h1 h2 => ne a o (fun e => by rw [e, hf] at h2; cases h2) (A.frm a o h1 h2), fun p hp => ?_, A.tin, A.len, fun j t hj => ?_, A.wr, A.sep, A.tsep⟩
  · by_cases e : a = L
    · rw [e, upd_same]; exact fun z => nomatch z
    · rw [upd_ne e]; exact A.dom a ha
  · obtain ⟨ps, t1, t2, t3⟩ := A.tab p hp
    refine ⟨ps, ne _ _ (hT p hp) t1, t2, fun pos cv hc => ?_⟩
    obtain ⟨c, e1, e2⟩ := t3 pos cv hc
    exact ⟨c, e1, ne _ _ (fun e => by rw [e, hL] at e2; cases e2) e2⟩
  · have hok := A.ok j t hj
    have hn := hno j t hj
    cases t with
    | any => trivial
    | val d => obtain ⟨v, h1, h2⟩ := hok; exact ⟨v, h1, by rw [hm]; exact h2⟩
    | lst zs =>
      obtain ⟨m, ws, h1, h2, h3, h4⟩ := hok
      exact ⟨m, ws, h1, h2, ne _ _ (fun e => hn (by rw [h1, e]; rfl)) h3, by rw [hm]; exact h4⟩
    | own m zs =>
      obtain ⟨ws, h1, h2, h3, h4⟩ := hok
      exact ⟨ws, h1, h2, ne _ _ (fun e => hn (by rw [h1, e]; rfl)) h3, by rw [hm]; exact h4⟩
    | ro zs =>
      obtain ⟨m, ws, h1, h2, h3, h4⟩ := hok
      exact ⟨m, ws, h1, h2, ne _ _ (fun e => A.ent m h2.2.1 (by rw [e]; exact hf)) h3, by rw [hm]; exact h4⟩
    | well b k w c =>
      obtain ⟨cs, seed, at_, h1, h2, h3, h4, h5, h6, h7⟩ := hok
      exact ⟨cs, seed, at_, h1, h2, h3, h4, ne _ _ (fun e => hn (.inl (by rw [h1, e]))) h5, ne _ _ (fun e => hn (.inr e.symm)) h6, h7⟩
    | scr ns => obtain ⟨m, h1, h2⟩ := hok; exact ⟨m, h1, by rw [hm]; exact h2⟩
    | fn mk => obtain ⟨f, c, h1, h2, h3⟩ := hok; exact ⟨f, c, h1, by rw [hm]; exact h2, ne _ _ (fun e => by rw [e, hL] at h3; cases h3) h3⟩
end
end Tf
end
section
set_option maxHeartbeats 4000000
/-! Expressions that take draws. -/
namespace Tf
open PySem PySem.Spec PyProof.Rows L2
section
variable {X : Cx} {F : Fc} {env : List Sl} {e a bb : Expr} {es : List Expr} {pos : Pos} {S S' : D → List Sl → Prop}
/-- a > b, a with draws -/
theorem ef_gt {j : Int} (ha : EF X F env a S) (hb : ∀ d env', S d env' → ∃ i : Int, d = .int i ∧ EE X F env' bb (.int j) ∧ S' (.bool (decide (j < i))) env') (hm : behindInMarks .Gt bb = false := by first | exact nobehind _ (by decide) (by decide) | rfl) : EF X F env (.Compare a [.Gt] [bb] pos) S' := fun W σ H Q A q =>
  sE_of (pe_cmpR op_gt pe_s pe_s hm) (ha W σ H _ A fun v1 H1 d env' s g kz A1 r1 => by
    obtain ⟨i, rfl, he, hs⟩ := hb d env' s
    exact he W σ H1 _ A1 fun v2 H2 e2 r2 => ⟨i, j, dp_int_inv r1, dp_int_inv r2, q _ H2 _ env' hs (g.trans (Gr.of e2)) ⟨kz.1.trans kz.2 (Kept.of e2), kz.2⟩ (A1.same e2) (.bl _)⟩)
/-- a == b, a with draws -/
theorem ef_eq {j : Int} (ha : EF X F env a S) (hb : ∀ d env', S d env' → ∃ i : Int, d = .int i ∧ EE X F env' bb (.int j) ∧ S' (.bool (decide (i = j))) env') (hm : behindInMarks .Eq bb = false := by first | exact nobehind _ (by decide) (by decide) | rfl) : EF X F env (.Compare a [.Eq] [bb] pos) S' := fun W σ H Q A q =>
  sE_of (pe_cmpR op_eq pe_s pe_s hm) (ha W σ H _ A fun v1 H1 d env' s g kz A1 r1 => by
    obtain ⟨i, rfl, he, hs⟩ := hb d env' s
    exact he W σ H1 _ A1 fun v2 H2 e2 r2 => ⟨by rw [dp_int_inv r1, dp_int_inv r2]; rfl, q _ H2 _ env' hs (g.trans (Gr.of e2)) ⟨kz.1.trans kz.2 (Kept.of e2), kz.2⟩ (A1.same e2) (by rw [dp_int_inv r1, dp_int_inv r2, dec_int, show (i == j) = decide (i = j) from rfl]; exact .bl _)⟩)
/-- tuple(e) -/
theorem ef_tupleL {p : Pos} (hm : X.mg "tuple" = none) (ha : EF X F env e S) (hS : ∀ d env', S d env' → ∃ ds, d = .list ds ∧ S' (.tuple ds) env') (hg : Gl X "tuple" := by rfl)
    (he : starEach [e] X.env = (false, eval e X.env) :: starEach [] X.env := by rfl) (hpl : (backTo pos (starEach [] X.env)).any (·.1) = false := by rfl) : EF X F env (.Call (.Name "tuple" p) [e] [] pos) S' := fun W σ H Q A q =>
  sE_of (pe_callTy call_tuple_of hg hm (by decide +kernel) (pa_cons pe_s pa_nil he) (by decide) (by decide) he hpl) (ha W σ H _ A fun v H1 d env' s g kz A1 r1 => by
    obtain ⟨ds, rfl, hs⟩ := hS d env' s
    obtain ⟨l, vs, rfl, h1, h2⟩ := dp_lst_inv r1
    refine ⟨l, vs, rfl, .inl ⟨SqL.of (hide_le _ _ h1), fun p hp => ?_⟩⟩
    have nW : ¬ W p := fun z => A1.dom p z hp
    have s3 := same_new (o := HO.tup vs) hp
    exact q _ _ _ env' hs (g.trans (Gr.of s3)) ⟨kz.1.trans kz.2 (Kept.of s3), kz.2⟩ (A1.same s3) (.tup (SqT.of (by rw [hide_at nW]; exact upd_same)) (dpa_same (hide_same s3) h2)))
/-- int(a test's value) -/
theorem ef_intB {p : Pos} (hm : X.mg "int" = none) (ha : EF X F env e S) (hS : ∀ d env', S d env' → ∃ c, d = .bool c ∧ S' (.int (if c then 1 else 0)) env') (hg : Gl X "int" := by rfl)
    (he : starEach [e] X.env = (false, eval e X.env) :: starEach [] X.env := by rfl) (hpl : (backTo pos (starEach [] X.env)).any (·.1) = false := by rfl) : EF X F env (.Call (.Name "int" p) [e] [] pos) S' := fun W σ H Q A q =>
  sE_of (pe_callTy call_int1 hg hm (by decide +kernel) (pa_cons pe_s pa_nil he) (by decide) (by decide) he hpl) (ha W σ H _ A fun v H1 d env' s g kz A1 r1 => by
    obtain ⟨c, rfl, hs⟩ := hS d env' s
    obtain rfl := dp_bl_inv r1
    exact .inr ⟨c, rfl, q _ H1 _ env' hs g kz A1 (.int _)⟩)
/-- a test that takes draws -/
def EFT (X : Cx) (F : Fc) (env : List Sl) (e : Expr) (S : Bool → List Sl → Prop) : Prop := ∀ W σ H Q, At F W env σ H → (∀ H' b env', S b env' → Gr W H W H' → Kept F env H H' ∧ (∀ a, zOf env' a → zOf env a) → At F W env' σ H' → Q b H') → sT X e σ H Q
theorem ft_eq {j : Int} {T : Bool → List Sl → Prop} (ha : EF X F env a S) (hb : ∀ d env', S d env' → ∃ i : Int, d = .int i ∧ EE X F env' bb (.int j) ∧ T (decide (i = j)) env') (hm : behindInMarks .Eq bb = false := by first | exact nobehind _ (by decide) (by decide) | rfl) : EFT X F env (.Compare a [.Eq] [bb] pos) T := fun W σ H Q A q =>
  sT_of (pt_cmpR op_eq pe_s pe_s hm) (ha W σ H _ A fun v1 H1 d env' s g kz A1 r1 => by
    obtain ⟨i, rfl, he, hs⟩ := hb d env' s
    exact he W σ H1 _ A1 fun v2 H2 e2 r2 => ⟨by rw [dp_int_inv r1, dp_int_inv r2]; rfl, decide (i = j), by rw [dp_int_inv r1, dp_int_inv r2, dec_int]; rfl, q H2 _ env' hs (g.trans (Gr.of e2)) ⟨kz.1.trans kz.2 (Kept.of e2), kz.2⟩ (A1.same e2)⟩)
theorem ft_val {T : Bool → List Sl → Prop} (h : EF X F env e S) (hS : ∀ d env', S d env' → ∃ c, d = .bool c ∧ T c env') (he : ∀ whole, isTrue e X.env whole = (do let v ← whole; standAt e.pos; holding [v] (truthy v)) := by intro _; rfl) : EFT X F env e T := fun W σ H Q A q =>
  sT_of (pt_val pe_s he) (h W σ H _ A fun v H' d env' s g kz A1 r => by
    obtain ⟨c, rfl, hs⟩ := hS d env' s
    exact ⟨c, dp_bl_inv r, q H' c env' hs g kz A1⟩)
theorem ft_not {T : Bool → List Sl → Prop} (h : EFT X F env a (fun c env' => T (!c) env')) : EFT X F env (.UnaryOp .Not a pos) T := fun W σ H Q A q => sT_of (pt_not pt_s) (h W σ H _ A fun H' c env' s g kz A1 => q H' (!c) env' s g kz A1)
/-- if, with draws in the test; join behind it -/
theorem ss_ifF {T : Bool → List Sl → Prop} {P : Po} {rest th el : List Stmt} {M : Ws → L2.St → Hp → Prop} {c : Expr} (hc : EFT X F env c T) (h1 : ∀ env', T true env' → SS X F th env' { P with nx := M }) (h2 : ∀ env', T false env' → SS X F el env' { P with nx := M }) (h : ∀ W σ H D, M W σ H → Lee W H P D → sSs X rest D σ H) : SS X F (.If c th el pos :: rest) env P := fun W σ H D A l => by
  refine sSs_of (pss_cons (ps_if pt_s pss_s pss_s) (pss_s (sts := rest))) (hc W σ H _ A fun H' b env' s g _ A1 => ?_)
  have l1 := l.grow g
  have l2 : Lee W H' { P with nx := M } { D with nx := sSs X rest D } := ⟨fun W' σ' H2 g m => h W' σ' H2 D m (l1.grow g), l1.rt, l1.bk, l1.ct⟩
  cases b with
  | true => exact iteT (h1 env' s W σ H' _ A1 l2)
  | false => exact iteF (h2 env' s W σ H' _ A1 l2)
theorem ss_ifFR {T : Bool → List Sl → Prop} {P : Po} {rest th : List Stmt} {c : Expr} (hc : EFT X F env c T) (h1 : ∀ env', T true env' → SS X F th env' P.out) (h2 : ∀ env', T false env' → SS X F rest env' P) : SS X F (.If c th [] pos :: rest) env P := fun W σ H D A l => by
  refine sSs_of (pss_cons (ps_if pt_s pss_s (pss_nil (X := X))) (pss_s (sts := rest))) (hc W σ H _ A fun H' b env' s g _ A1 => ?_)
  have l1 := l.grow g
  cases b with
  | true => exact iteT (h1 env' s W σ H' _ A1 ⟨fun _ _ _ _ z => z.elim, l1.rt, l1.bk, l1.ct⟩)
  | false => exact iteF (h2 env' s W σ H' D A1 l1)
/-! ### displays, items -/
def EFA (X : Cx) (F : Fc) (env : List Sl) (es : List Expr) (S : List D → List Sl → Prop) : Prop := ∀ W σ H Q, At F W env σ H → (∀ vs H' ds env', S ds env' → Gr W H W H' → Kept F env H H' ∧ (∀ a, zOf env' a → zOf env a) → At F W env' σ H' → IsA F.K (hide W H') vs ds → Q vs H') → sA X es σ H Q
theorem efa_nil {S : List D → List Sl → Prop} (h : S [] env) : EFA X F env [] S := fun W σ H Q A q => sA_of pa_nil (q [] H [] env h (Gr.refl _ _) ⟨Kept.of (Same.refl _), fun _ z => z⟩ A .nil)
theorem efa_cons {S1 : D → List Sl → Prop} {S : List D → List Sl → Prop} (ha : EF X F env e S1) (hb : ∀ d env', S1 d env' → EFA X F env' es (fun ds env2 => S (d :: ds) env2)) (he : starEach (e :: es) X.env = (false, eval e X.env) :: starEach es X.env := by rfl) : EFA X F env (e :: es) S := fun W σ H Q A q =>
  sA_of (pa_cons pe_s pa_s he) (ha W σ H _ A fun v H1 d env' s g kz A1 r1 => hb d env' s W σ H1 _ A1 fun vs H2 ds env2 s2 g2 kz2 A2 r2 => q (v :: vs) H2 (d :: ds) env2 s2 (g.trans g2) ⟨kz.1.trans kz.2 kz2.1, fun a z => kz.2 a (kz2.2 a z)⟩ A2 (.cons (dp_same g2 r1) r2))
theorem ef_tup {kk : Nat} {S1 : List D → List Sl → Prop} (h : EFA X F env es S1) (hz : es.length ≤ 1000) (hS : ∀ ds env', S1 ds env' → ds.length = es.length ∧ S (.tuple ds) env') : EF X F env (.Tuple es kk pos) S := fun W σ H Q A q =>
  sE_of (pe_tup pa_s) (h W σ H _ A fun vs H1 ds env' s g kz A1 r1 => by
    obtain ⟨hl, hs⟩ := hS ds env' s
    refine ⟨by rw [dpa_len r1, hl, sizeLine_eq]; omega, fun p hp => ?_⟩
    have nW : ¬ W p := fun z => A1.dom p z hp
    have s3 := same_new (o := HO.tup vs) hp
    exact q _ _ _ env' hs (g.trans (Gr.of s3)) ⟨kz.1.trans kz.2 (Kept.of s3), kz.2⟩ (A1.same s3) (.tup (SqT.of (by rw [hide_at nW]; exact upd_same)) (dpa_same (hide_same s3) r1)))
theorem ef_lst {S1 : List D → List Sl → Prop} (h : EFA X F env es S1) (hz : es.length ≤ 1000) (hS : ∀ ds env', S1 ds env' → ds.length = es.length ∧ S (.list ds) env') : EF X F env (.List es pos) S := fun W σ H Q A q =>
  sE_of (pe_lst pa_s) (h W σ H _ A fun vs H1 ds env' s g kz A1 r1 => by
    obtain ⟨hl, hs⟩ := hS ds env' s
    refine ⟨by rw [dpa_len r1, hl, sizeLine_eq]; omega, fun p hp => ?_⟩
    have nW : ¬ W p := fun z => A1.dom p z hp
    have s3 := same_new (o := HO.lst vs) hp
    exact q _ _ _ env' hs (g.trans (Gr.of s3)) ⟨kz.1.trans kz.2 (Kept.of s3), kz.2⟩ (A1.same s3) (.lst (by rw [hide_at nW]; exact upd_same) (dpa_same (hide_same s3) r1)))
/-- xs[i], a list, both with draws -/
theorem ef_ixL {S1 : D → List Sl → Prop} {S2 : D → D → List Sl → Prop} (ha : EF X F env a S1) (hb : ∀ d env', S1 d env' → EF X F env' bb (S2 d)) (hS : ∀ d env' d2 env2, S1 d env' → S2 d d2 env2 → ∃ ds i y, d = .list ds ∧ d2 = .int i ∧ atI ds i = some y ∧ S y env2) (hs : PlainIx bb := by exact fun _ _ => rfl) : EF X F env (.Subscript a bb pos) S := fun W σ H Q A q =>
  sE_of (pe_ix ix_list pe_s pe_s hs) (ha W σ H _ A fun v1 H1 d env' s g kz A1 r1 => hb d env' s W σ H1 _ A1 fun v2 H2 d2 env2 s2 g2 kz2 A2 r2 => by
    obtain ⟨ds, i, y, rfl, rfl, hat, hy⟩ := hS d env' d2 env2 s s2
    obtain ⟨l, vs, rfl, h1, h2⟩ := dp_lst_inv r1
    obtain rfl := dp_int_inv r2
    obtain ⟨v, h3, h4⟩ := dpa_at (dpa_same g2 h2) hat
    exact ⟨l, vs, i, v, rfl, rfl, SqL.of (hide_le _ _ (g2 _ _ h1)), h3, q v H2 y env2 hy (g.trans g2) ⟨kz.1.trans kz.2 kz2.1, fun a z => kz.2 a (kz2.2 a z)⟩ A2 h4⟩)
/-- a text's sign, its place with draws -/
theorem ef_ixS {z : Str} {S2 : D → List Sl → Prop} (ha : EE X F env a (.str z)) (hb : EF X F env bb S2) (hz : z.length ≤ 100000) (hS : ∀ d env', S2 d env' → ∃ i c, d = .int i ∧ atI z.cps.toList i = some c ∧ S (.str ⟨#[c]⟩) env') (hs : PlainIx bb := by exact fun _ _ => rfl) : EF X F env (.Subscript a bb pos) S := fun W σ H Q A q =>
  sE_of (pe_ix ix_str pe_s pe_s hs) (ha W σ H _ A fun v1 H1 e1 r1 => hb W σ H1 _ (A.same e1) fun v2 H2 d env' s g kz A2 r2 => by
    obtain ⟨i, c, rfl, hat, hy⟩ := hS d env' s
    exact ⟨z, i, c, dp_str_inv r1, dp_int_inv r2, by rw [sizeLine_eq]; omega, hat, q _ H2 _ env' hy ((Gr.of e1).trans g) ⟨(Kept.of e1).trans (fun _ z => z) kz.1, kz.2⟩ A2 (.str _)⟩)
/-- a, b = e, e with draws -/
theorem ss_unpackF {g : TG} {js : List Nat} {up : List Sl → List Sl} {tg : Expr} {P : Po} {rest : List Stmt} (he : EF X F env e S) (hg : PG X tg g) (tgo : ∀ d env', S d env' → TgOk F g d js (fun _ => up env')) (tgu : True) (h : ∀ d env', S d env' → SS X F rest (up env') P) (hs : swapsWithSole [tg] e pos.line X.env = pure false := by rfl) (hw : swappedStores [tg] e X.env = pure none := by rfl)
    (h1 : (assignEach [tg] X.env).map (·.2) = [assign tg X.env] := by rfl) : SS X F (.Assign [tg] e pos :: rest) env P := fun W σ H D A l =>
  sSs_of (pss_cons (ps_asg pe_s hg hs hw h1) pss_s) (he W σ H _ A fun v H' d env' s g' _ A1 r1 => tgo d env' s W env' σ H' v _ A1 r1 fun σ' A' _ _ => h d env' s W σ' H' D A' (l.grow g'))
end
end Tf
end
section
set_option maxHeartbeats 1000000
/-! Defs within defs: made, handed on, called. -/
namespace Tf
open PySem PySem.Spec PyProof.Rows L2 LamX NdefX
section
variable {X : Cx} {pins : List (Addr × Obj)} {σ : L2.St} {H : Hp} {s : Shared}
/-- the def's object is made; told: all but the own table stays -/
theorem nd_make {T : List NTab} {nm : Nat → Nat → Str} {c P : Addr} {name : Str} {params : Arguments} {body : List Stmt} {scope : Scope} {pos : Pos} {E : Value → Shared → Prop} {Q : Value → Shared → Prop} (I : Inv X pins σ H s) (TB : TabB X.base X.mg c P) (hcode : X.env.code = .ref c)
    (hm : (P, nm) ∈ T) (hn : nm pos.line pos.col = X.env.qual ++ name) (hu : ∀ p ∈ T, p.1 = P → p.2 = nm) (hT : TabsN T H) (hfree : ∀ y ∈ scope.names, y.2 = .free → ∃ c, X.env.cells.lookup y.1 = some c)
    (h : ∀ (f c' : Addr) (H1 : Hp) (s' : Shared), Inv X pins σ H1 s' → (∀ b o, b ≠ P → H b = some o → H1 b = some o) → TabsN T H1 → H f = none → H1 f = some (FnO f ⟨name, X.env.qual ++ name, params, body, scope, cloFrom X.env.cells scope.names [], c'⟩) → H1 c' = some (CodeO c' (X.env.qual ++ name)) → Q (.ref f) s') :
    wpAny (model X.prog X.w) X.A (makeFunction name (X.env.qual ++ name) params (.stmts body) scope X.env [] [] [] pos pos.line) Q E s := by
  obtain ⟨ps, hP, ht, ha⟩ := (show TabN H P nm from hT _ hm)
  have bP : s.heap.BuiltinsAt X.mg P := TB.bm.keeps I.bk
  have hP' := I.hok P _ hP
  cases hc : codeAmong pos ps.toList with
  | none =>
    refine PySem.W.makeFunction_K (mg := X.mg) (c := c) (P := P) (ps := ps) (closure_ok hfree) I.ok.glob (I.mod.glob.keeps I.bk) hcode (TB.code.keeps I.bk) hP' ht hc TB.gP bP fun c' ctv doc h' tk hx hge hlt hrec htb => ?_
    obtain ⟨c2, oc, vs, t, e2, hoc, hd, hv⟩ := hrec
    cases e2
    have nC : H c' = none := I.hok.fresh hge
    have I1 := inv_table (t' := tk) (more := #[rawInt pos.line, rawInt pos.col, .ref c']) (h' := h') I hP (fun b o hb e => hx b o hb e) htb hge ⟨oc, vs, t, hoc, hd, hv⟩
    have hE : ∀ b o, b ≠ P → H b = some o → (upd (upd H P (.tbl (ps ++ #[rawInt pos.line, rawInt pos.col, .ref c']))) c' (CodeO c' (X.env.qual ++ name))) b = some o := fun b o hb e => by
      rw [upd_ne (ne_of_none e nC), upd_ne hb]
      exact e
    have nCP : ∀ {c0 : Addr} {q : Str}, H c0 = some (CodeO c0 q) → c0 ≠ P := fun {c0 q} e z => by
      rw [z, hP] at e
      exact codeO_ne ps (Option.some.inj e).symm
    have eL : (ps ++ #[rawInt pos.line, rawInt pos.col, .ref c']).toList = ps.toList ++ [rawInt pos.line, rawInt pos.col, .ref c'] := by simp
    have T1 : TabsN T (upd (upd H P (.tbl (ps ++ #[rawInt pos.line, rawInt pos.col, .ref c']))) c' (CodeO c' (X.env.qual ++ name))) := fun p hp => by
      by_cases hb : p.1 = P
      · rw [hu p hp hb, hb]
        refine ⟨_, by rw [upd_ne (ne_of_none hP nC), upd_same], by rw [eL]; exact PySem.TriplesOk_snoc _ _ _ _ ht, fun p' cv hcv => ?_⟩
        rw [eL] at hcv
        rcases among_app2 _ ht hcv with z | ⟨z, z1, z2⟩
        · obtain ⟨c0, e1, e2⟩ := ha p' cv z
          exact ⟨c0, e1, hE _ _ (nCP e2) e2⟩
        · refine ⟨c', z, ?_⟩
          rw [← z1, ← z2, hn]
          exact upd_same
      · obtain ⟨ps', a1, a2, a3⟩ := hT p hp
        refine ⟨ps', hE _ _ hb a1, a2, fun p' cv hcv => ?_⟩
        obtain ⟨c0, e1, e2⟩ := a3 p' cv hcv
        exact ⟨c0, e1, hE _ _ (nCP e2) e2⟩
    have nF := I1.hok.fresh (Nat.le_refl _)
    have I2 := inv_fn (F := ⟨name, X.env.qual ++ name, params, body, scope, cloFrom X.env.cells scope.names [], c'⟩) (t' := tk) (doc := doc) (pm := (X.mg "__name__").getD .none) (ctv := ctv) I1 rfl
    refine h h'.objs.size c' _ _ I2 (fun b o hb e => ?_) (T1.ext fun b o e => ?_) (I.hok.fresh (Nat.le_trans hge (Nat.le_of_lt hlt))) upd_same ?_
    · have e1 := hE b o hb e
      exact (upd_ne (ne_of_none e1 nF)).trans e1
    · exact (upd_ne (ne_of_none e nF)).trans e
    · exact (upd_ne (Nat.ne_of_lt hlt)).trans upd_same
  | some cv =>
    obtain ⟨c', e, hco⟩ := ha pos cv hc
    subst e
    rw [hn] at hco
    refine PySem.W.makeFunction_hit (mg := X.mg) (c := c) (P := P) (ps := ps) (closure_ok hfree) I.ok.glob (I.mod.glob.keeps I.bk) hcode (TB.code.keeps I.bk) hP' ht hc bP fun ctv doc h' tk hx hsz => ?_
    have I1 : Inv X pins σ H { s with heap := h', toks := tk } := I.kept hx
    have nF : H h'.objs.size = none := I1.hok.fresh (Nat.le_refl _)
    have I2 := inv_fn (F := ⟨name, X.env.qual ++ name, params, body, scope, cloFrom X.env.cells scope.names [], c'⟩) (t' := tk) (doc := doc) (pm := (X.mg "__name__").getD .none) (ctv := ctv) I1 rfl
    refine h h'.objs.size c' _ _ I2 (fun b o _ e => ?_) (hT.ext fun b o e => ?_) nF upd_same ?_
    · exact (upd_ne (ne_of_none e nF)).trans e
    · exact (upd_ne (ne_of_none e nF)).trans e
    · exact (upd_ne (ne_of_none hco nF)).trans hco
end
/-- «def name(..): ..» : the reading -/
def tNd (T : List NTab) (P : Addr) (i : Nat) (mk : Addr → NF) : TS := fun D σ H => TabsN T H ∧ ∀ (f c' : Addr) (H1 : Hp), (∀ b o, b ≠ P → H b = some o → H1 b = some o) → TabsN T H1 → H f = none → H1 f = some (FnO f (mk c')) → H1 c' = some (CodeO c' (mk c').qual) → D.nx (σ.set i (some (.ref f))) H1
section
variable {X : Cx}
theorem ps_nd {T : List NTab} {nm : Nat → Nat → Str} {c P : Addr} {name : Str} {params : Arguments} {body : List Stmt} {scope : Scope} {pos : Pos} {i : Nat} (TB : TabB X.base X.mg c P) (hcode : X.env.code = .ref c) (hm : (P, nm) ∈ T) (hn : nm pos.line pos.col = X.env.qual ++ name) (hu : ∀ p ∈ T, p.1 = P → p.2 = nm)
    (hfree : ∀ y ∈ scope.names, y.2 = .free → X.env.scope.names.lookup y.1 = some .cell ∨ X.env.scope.names.lookup y.1 = some .free) (hd0 : params.defaults = []) (hk0 : params.kw_defaults = []) (ha : annTrees params none X.env = [])
    (hN : X.N.Nodup) (hi : X.N[i]? = some name) (hx : Loc X.env.scope name) (hf : X.fn name = true ∨ X.env.scope.names.lookup name = some .local) :
    PS X (.FunctionDef name params body [] none [] scope none name pos) (tNd T P i fun c' => ⟨name, X.env.qual ++ name, params, body, scope, cloFrom X.env.cells scope.names [], c'⟩) := by
  refine ⟨fun pins s σ H D I h => ?_⟩
  obtain ⟨hT, h⟩ := h
  have hq : qualnameIn X.env name name = X.env.qual ++ name := by
    have hk : X.env.kindOf name = some .local ∨ X.env.kindOf name = some .cell := hx
    unfold qualnameIn
    rcases hk with k | k <;> rw [k] <;> first | rfl | exact if_neg (by decide)
  refine PySem.W.nestDef_K hd0 hk0 ha ?_
  rw [hq]
  have hfr : ∀ y ∈ scope.names, y.2 = .free → ∃ c, X.env.cells.lookup y.1 = some c := fun y hy e => (hfree y hy e).elim (fun z => I.ok.has _ (.inl z)) fun z => I.ok.has _ (.inr z)
  refine nd_make I TB hcode hm hn hu hT hfr fun f c' H1 s' I1 eN T1 f0 f1 c1 => ?_
  exact store_ok I1 hN hi hx (v := .ref f) rfl (fun s'' J => ⟨_, H1, J, h f c' H1 eN T1 f0 f1 c1⟩) hf
end
/-- a table grows -/
theorem At.grown {F : Fc} {W : Ws} {env : List Sl} {σ : L2.St} {H H1 : Hp} {P : Addr} {nm : Nat → Nat → Str} (A : At F W env σ H) (hm : (P, nm) ∈ F.T) (e : ∀ b o, b ≠ P → H b = some o → H1 b = some o) (tb : TabsN F.T H1) : At F W env σ H1 ∧ Same (hide W H) (hide W H1) := by
  have hL : F.L P := A.tin _ hm
  have hW : W P := A.sub _ (A.low _ hL)
  obtain ⟨ps, hP, _⟩ := A.tab _ hm
  obtain ⟨ps1, hP1, _⟩ := tb _ hm
  have hP : H P = some (.tbl ps) := hP
  have hs : Same (hide W H) (hide W H1) := fun b u h => by
    obtain ⟨h1, h2⟩ := hide_some h
    rw [hide_at h1]
    exact e b u (fun z => h1 (z ▸ hW)) h2
  have el : ∀ {b : Addr} {o : HO}, (∀ ps, o ≠ .tbl ps) → H b = some o → H1 b = some o := fun {b o} n h => e b o (fun z => by rw [z, hP] at h; exact n ps (Option.some.inj h).symm) h
  refine ⟨⟨A.sub, fun a ha => ?_, A.ent, A.new, A.low, fun a o h1 h2 => e a o (fun z => h1 (z ▸ hL)) (A.frm a o h1 h2), tb, A.tin, A.len, fun j t hj => ?_, A.wr, A.sep, A.tsep⟩, hs⟩
  · by_cases z : a = P
    · rw [z, hP1]
      exact fun q => nomatch q
    · cases q : H a with
      | none => exact absurd q (A.dom a ha)
      | some o => rw [e a o z q]; exact fun q => nomatch q
  · have hok := A.ok j t hj
    cases t with
    | any => trivial
    | val d => obtain ⟨v, h1, h2⟩ := hok; exact ⟨v, h1, dp_same hs h2⟩
    | lst zs => obtain ⟨m, ws, h1, h2, h3, h4⟩ := hok; exact ⟨m, ws, h1, h2, el (fun _ z => nomatch z) h3, dpa_same hs h4⟩
    | ro zs => obtain ⟨m, ws, h1, h2, h3, h4⟩ := hok; exact ⟨m, ws, h1, h2, el (fun _ z => nomatch z) h3, dpa_same hs h4⟩
    | own m zs => obtain ⟨ws, h1, h2, h3, h4⟩ := hok; exact ⟨ws, h1, h2, el (fun _ z => nomatch z) h3, dpa_same hs h4⟩
    | fn mk => obtain ⟨f, c, h1, h2, h3⟩ := hok; exact ⟨f, c, h1, hs _ _ h2, el codeO_ne h3⟩
    | well b k w c => obtain ⟨cs, seed, at_, h1, h2, h3, h4, h5, h6, h7⟩ := hok; exact ⟨cs, seed, at_, h1, h2, h3, h4, el (fun _ z => nomatch z) h5, el (fun _ z => nomatch z) h6, h7⟩
    | scr ns => obtain ⟨m, h1, h2⟩ := hok; exact ⟨m, h1, hs.seq h2⟩
section
variable {X : Cx} {F : Fc} {env : List Sl} {rest : List Stmt} {P : Po}
theorem ss_nd {nm : Nat → Nat → Str} {c Pt : Addr} {name : Str} {params : Arguments} {body : List Stmt} {scope : Scope} {pos : Pos} (i : Nat) (TB : TabB X.base X.mg c Pt) (hcode : X.env.code = .ref c) (hm : (Pt, nm) ∈ F.T) (hn : nm pos.line pos.col = X.env.qual ++ name) (hu : ∀ p ∈ F.T, p.1 = Pt → p.2 = nm)
    (h : SS X F rest (env.set i (.fn fun c' => ⟨name, X.env.qual ++ name, params, body, scope, cloFrom X.env.cells scope.names [], c'⟩)) P)
    (hfree : ∀ y ∈ scope.names, y.2 = .free → X.env.scope.names.lookup y.1 = some .cell ∨ X.env.scope.names.lookup y.1 = some .free := by decide) (hd0 : params.defaults = [] := by rfl) (hk0 : params.kw_defaults = [] := by rfl) (ha : annTrees params none X.env = [] := by rfl)
    (hN : X.N.Nodup := by assumption) (hi : X.N[i]? = some name := by rfl) (hx : Loc X.env.scope name := by first | exact Or.inl rfl | exact Or.inr rfl) (hf : X.fn name = true ∨ X.env.scope.names.lookup name = some .local := by first | exact .inl rfl | exact .inr rfl) :
    SS X F (.FunctionDef name params body [] none [] scope none name pos :: rest) env P := fun W σ H D A l =>
  sSs_of (pss_cons (ps_nd TB hcode hm hn hu hfree hd0 hk0 ha hN hi hx hf) pss_s) ⟨A.tab, fun f c' H1 e tb f0 f1 c1 => by
    obtain ⟨A1, sm⟩ := A.grown hm e tb
    have nW : ¬ W f := fun z => A.dom f z f0
    refine h W _ H1 D (A1.store (s := .fn _) ⟨f, c', rfl, by rw [hide_at nW]; exact f1, c1⟩ fun _ z => z) (l.grow sm)⟩
/-- such a function is handed on -/
theorem eas_fn {es : List Expr} {mk : Addr → NF} {ss : List Sl} {x : Str} {ppos : Pos} (i : Nat) (t : EAs X F env es ss) (hi : env[i]? = some (.fn mk) := by rfl) (hN : X.N[i]? = some x := by rfl) (hv : Vis X.env.scope x := by first | exact Or.inl rfl | exact Or.inr (Or.inl rfl) | exact Or.inr (Or.inr rfl))
    (hd : (x == ("__debug__" : Str)) = false := by decide) (hcd : (x == ("__classdict__" : Str)) = false := by decide)
    (hs : starEach (.Name x ppos :: es) X.env = (false, eval (.Name x ppos) X.env) :: starEach es X.env := by rfl) : EAs X F env (.Name x ppos :: es) (.fn mk :: ss) := fun W σ H Q A q => by
  obtain ⟨f, c, h1, h2, h3⟩ := A.ok i _ hi
  exact sA_of (pa_cons (pe_var hN hv hd hcd) pa_s hs) ⟨_, slot_some h1, t W σ H _ A fun ws H2 e2 r2 => q _ H2 e2 (.cons (.fn (hide_same e2 _ _ h2) (e2 _ _ h3)) r2)⟩
end
/-- what a function of two ints gives -/
def spG (g : Int → Int → Int) (_ : List (Option V)) : Sp := fun vs H Q _ => ∃ a b : Int, vs = [.int a, .int b] ∧ 0 ≤ a ∧ a ≤ 9 ∧ 0 ≤ b ∧ b ≤ 9 ∧ ∀ H', Same H H' → Q (.int (g a b)) H'
structure FnG (P : Program) (w : World) (K : PySem.W.Frag) (mg : Str → Option Value) (base : Heap) (k : Nat) (mk : Addr → NF) (g : Int → Int → Int) : Prop where
  ok : ∀ f c', NOk P w K mg base CX0 k f (mk c') ["a", "b"] [] (spG g)
  cl : ∀ c', (mk c').cl = []
section
variable {X : Cx} {F : Fc} {env : List Sl}
theorem ee_calln {k j : Nat} {mk : Addr → NF} {g : Int → Int → Int} {a b : Expr} {x y : Int} {p pos : Pos} {nmx : Str} (G : FnG X.prog X.w X.K X.mg X.base k mk g) (i : Nat) (ha : EE X F env a (.int x)) (hb : EE X F env b (.int y)) (h1 : 0 ≤ x ∧ x ≤ 9) (h2 : 0 ≤ y ∧ y ≤ 9)
    (hi : env[i]? = some (.fn mk) := by rfl) (hr : Room j X.A := by assumption) (hk : k ≤ j := by first | decide | omega) (hN : X.N[i]? = some nmx := by rfl) (hv : Vis X.env.scope nmx := by first | exact Or.inl rfl | exact Or.inr (Or.inl rfl) | exact Or.inr (Or.inr rfl))
    (hd : (nmx == ("__debug__" : Str)) = false := by decide) (hcd : (nmx == ("__classdict__" : Str)) = false := by decide)
    (q1 : starEach [a, b] X.env = (false, eval a X.env) :: starEach [b] X.env := by rfl) (q2 : starEach [b] X.env = (false, eval b X.env) :: starEach [] X.env := by rfl) (hpl : (backTo pos (starEach [b] X.env)).any (·.1) = false := by rfl) :
    EE X F env (.Call (.Name nmx p) [a, b] [] pos) (.int (g x y)) := fun W σ H Q A q => by
  obtain ⟨f, c, g1, g2, g3⟩ := A.ok i _ hi
  have cp : X.Ok → Caps X [] [] [] := fun _ => Caps.mk (fun y c e => nomatch e) (fun y hy => nomatch hy) (fun y hy => nomatch hy) rfl
  refine sE_of (pe_calln (sp := fun _ _ => spG g) (E := E0) G.ok G.cl cp hr hk pass0 hN hv (pa_cons pe_s (pa_cons pe_s pa_nil q2) q1) hd hcd q1 hpl) ⟨f, c, slot_some g1, hide_le _ _ g2, ha W σ H _ A fun v1 H1 e1 r1 => hb W σ H1 _ (A.same e1) fun v2 H2 e2 r2 => ?_⟩
  have e12 := e1.trans e2
  obtain rfl := dp_int_inv r1
  obtain rfl := dp_int_inv r2
  exact ⟨e12 _ _ (hide_le _ _ g2), e12 _ _ g3, x, y, rfl, h1.1, h1.2, h2.1, h2.2, fun H3 e3 => q _ H3 (e12.trans e3) (.int _)⟩
end
end Tf
end
section
set_option maxHeartbeats 1000000
/-! A def whose code object is known. -/
namespace Tf
open PySem PySem.Spec PyProof.Rows L2 LamX NdefX
/-- .. and its code object stands at c -/
def StdC (K : PySem.W.Frag) (mg : Str → Option Value) (x y : Str) (i : Nat) (c : Addr) : Prop := ∃ f fd, mg x = some (.ref f) ∧ FunD K y y (defArgs (top i)) (defBody (top i)) (defScope (top i)) [] [] f fd ∧ fd.code = .ref c
section
variable {P : Program} {w : World} {K : PySem.W.Frag} {mg : Str → Option Value} {base : Heap}
theorem fn_MC {x qual : Str} {params : Arguments} {body : List Stmt} {scope : Scope} {f c : Addr} {fd : FuncData} {N ps : List Str} {k : Nat} {T : List NdefX.NTab} {Gp : Sl → List Sl → Prop} {R : Sl → List Sl → Sl → Sl → Prop} (G : FunD K x qual params body scope [] [] f fd) (hc : fd.code = .ref c) (S : FnScope N ps scope)
    (len : ∀ s0 ss, Gp s0 ss → ss.length + 1 = ps.length) (hbody : ∀ (cdv : Value) (A : Around) (outer : List Env) (s : Shared) (H : Hp) (E : XK) (W : Ws) (s0 : Sl) (v0 : V) (ss : List Sl), cdv = .ref c → Room k (A.deeper (envOfC qual scope s.heap.objs.size f cdv)) → noRo s0 → SlOk (fc0 K W H) W H s0 (some v0) → Gp s0 ss →
      SS (cx0 P w K mg base N qual scope f cdv A outer s H E) (fcM K W H s0 v0 T) body (startE N.length (s0 :: ss)) ⟨fun _ _ H' => ∃ s1, R s0 ss (.val .none) s1 ∧ RetM K W H s0 v0 T (.val .none) s1 .non H', fun v H' => ∃ r s1, R s0 ss r s1 ∧ RetM K W H s0 v0 T r s1 v H', fun _ _ _ => False, fun _ _ _ => False⟩) : FnOk P w K mg base CX0 (k + 1) f fd ps (spM K T Gp R) := by
  have hpl : ps.length ≤ N.length := by
    have := congrArg List.length S.pre
    rw [List.length_take] at this
    omega
  obtain ⟨oc, od, dV, kV, doc, pm, an, cdv, ct, osl, rfl, lk, hcd, _, _⟩ := G.ex
  have hcv : cdv = .ref c := hc
  refine fn_of lk hcd S (fun vs H Q E ⟨W, v0, vs1, s0, ss, ev, dm, nr, ok, ha, hv, tb, tw, hg, q⟩ => ?_) (fun A outer s H vs Q E hr ⟨W, v0, vs1, s0, ss, ev, dm, nr, ok, ha, hv, tb, tw, hg, q⟩ => ⟨sSs (cx0 P w K mg base N qual scope f cdv A outer s H E) body, pss_s.nox, ?_⟩)
  · rw [ev, List.length_cons, Paired.length ha]
    exact len s0 ss hg
  · subst ev
    refine hbody cdv A outer s H E W s0 v0 ss hcv hr nr ok hg W (start N (v0 :: vs1)) H _ (at_startM dm nr ok ha hv tb tw ?_) ⟨fun _ _ H' _ ⟨s1, h1, h2⟩ => q _ H' _ s1 h1 h2.fr h2.tb h2.res h2.nr h2.ok h2.ow, fun v H' ⟨r, s1, h1, h2⟩ => q v H' r s1 h1 h2.fr h2.tb h2.res h2.nr h2.ok h2.ow, fun _ _ _ _ z => z.elim, fun _ _ _ _ z => z.elim⟩
    rw [Paired.length ha, len s0 ss hg]
    exact hpl
theorem defM_ofC {x y : Str} {i k : Nat} {c : Addr} {N ps : List Str} {T : List NdefX.NTab} {Gp : Sl → List Sl → Prop} {R : Sl → List Sl → Sl → Sl → Prop} (S : StdC K mg x y i c) (sc : FnScope N ps (defScope (top i))) (len : ∀ s0 ss, Gp s0 ss → ss.length + 1 = ps.length)
    (hb : ∀ (kV doc pm : Value) (an : Option Addr) (cdv ct : Value) (us : List Value), us.length = ps.length → bindArgs (PySem.W.fnOf y y (defArgs (top i)) (defBody (top i)) (defScope (top i)) .none kV doc pm an cdv ct) ⟨us, []⟩ = pure (ps.zip us))
    (hbody : ∀ (f : Addr) (cdv : Value) (A : Around) (outer : List Env) (s : Shared) (H : Hp) (E : XK) (W : Ws) (s0 : Sl) (v0 : V) (ss : List Sl), cdv = .ref c → Room k (A.deeper (envOfC y (defScope (top i)) s.heap.objs.size f cdv)) → noRo s0 → SlOk (fc0 K W H) W H s0 (some v0) → Gp s0 ss →
      SS (cx0 P w K mg base N y (defScope (top i)) f cdv A outer s H E) (fcM K W H s0 v0 T) (defBody (top i)) (startE N.length (s0 :: ss)) ⟨fun _ _ H' => ∃ s1, R s0 ss (.val .none) s1 ∧ RetM K W H s0 v0 T (.val .none) s1 .non H', fun v H' => ∃ r s1, R s0 ss r s1 ∧ RetM K W H s0 v0 T r s1 v H', fun _ _ _ => False, fun _ _ _ => False⟩) : DefM P w K mg base (k + 1) x ps T Gp R := by
  obtain ⟨f, fd, hm, G, hc⟩ := S
  exact ⟨f, fd, fn_MC G hc sc len (hbody f), hm, G.kp, G.bindsN hb⟩
end
/-- an answer's def, by what it gives -/
theorem fng_of {P : Program} {w : World} {K : PySem.W.Frag} {mg : Str → Option Value} {base : Heap} {k : Nat} {mk : Addr → NF} {g : Int → Int → Int} {e : Expr} {pos : Pos} {sc : Scope} {pr : Arguments} (h1 : ∀ c, (mk c).body = [.Return (some e) pos]) (h2 : ∀ c, (mk c).scope = sc) (h3 : ∀ c, (mk c).cl = []) (h4 : ∀ c, (mk c).params = pr)
    (S : NScope ["a", "b"] ["a", "b"] [] sc) (hb : ∀ c (doc pm ctv : Value) (us : List Value), us.length = 2 → bindArgs ((mk c).fd doc pm ctv) ⟨us, []⟩ = pure ((["a", "b"] : List Str).zip us))
    (hv : ∀ c f A outer s H E (x y : Int), 0 ≤ x → x ≤ 9 → 0 ≤ y → y ≤ 9 → EE (ncx CX0 P w K mg base ["a", "b"] (mk c) f A outer s H E) (fc0 K (fun _ => False) H) [.val (.int x), .val (.int y)] e (.int (g x y))) : FnG P w K mg base (k + 1) mk g := by
  refine ⟨fun f c => nok_of (N := ["a", "b"]) (by rw [h2 c]; exact S) (hb c) (fun ws vs H Q E ⟨a, b, ev, _⟩ => by rw [ev]; rfl) fun A outer s H vs ws Q E hr hf hc hl ⟨a, b, ev, a0, a1, b0, b1, q⟩ => ?_, h3⟩
  rw [h1 c]
  subst ev
  obtain rfl : ws = [] := List.eq_nil_of_length_eq_zero hl
  refine ⟨_, pss_cons (ps_ret pe_s) (pss_s (sts := [])), ?_⟩
  refine hv c f A outer s H E a b a0 a1 b0 b1 (fun _ => False) _ H _ (at_start (N := ["a", "b"]) (vs := [.int a, .int b]) (ss := [.val (.int a), .val (.int b)]) (fun _ z => z.elim) (.cons (.val (.int a)) (.cons (.val (.int b)) .nil)) (Nat.le_refl 2)) fun v H' e1 r1 => ?_
  obtain rfl := dp_int_inv r1
  exact q H' e1
end Tf
end
section
set_option maxHeartbeats 4000000
/-! Draws, by what they give and how many were taken at most. -/
namespace Tf
open PySem PySem.Spec PyProof.Rows L2
/-- draws were taken: what they gave, the well later on -/
abbrev DR {α : Type} (f : α → D) (p : α → Prop) (env : List Sl) (i b n : Nat) (w c : Addr) : D → List Sl → Prop := fun d env' => ∃ (v : α) (b' : Nat), d = f v ∧ p v ∧ b' ≤ b + n ∧ env' = env.set i (.well b' 63 w c)
/-- a new list, that nothing else holds -/
def EFN (X : Cx) (F : Fc) (env : List Sl) (e : Expr) (S : List D → List Sl → Prop) : Prop := ∀ W σ H Q, At F W env σ H → (∀ l vs H' ds env', S ds env' → Same (hide W H) (hide (fun a => W a ∨ a = l) H') → At F (fun a => W a ∨ a = l) env' σ H' → F.H l = none → ¬ W l → H' l = some (.lst vs) → IsA F.K (hide (fun a => W a ∨ a = l) H') vs ds → (∀ (j : Nat) (s : Sl), env'[j]? = some s → ¬ Own s (slot σ j) l) → Q (.ref l) H') → sE X e σ H Q
theorem set_iki {i k : Nat} (h : i ≠ k) (env : List Sl) (a b c : Sl) : ((env.set i a).set k b).set i c = (env.set i c).set k b := by
  rw [List.set_comm _ _ (Ne.symm h), List.set_set]
theorem zOf_val {env : List Sl} {k : Nat} {d : D} : ∀ a, zOf (env.set k (.val d)) a → zOf env a := fun a ⟨j, s, hj, hz⟩ => by
  rcases env_set hj with ⟨rfl, rfl, hl⟩ | ⟨hne, hj⟩
  · exact hz.elim
  · exact ⟨j, s, hj, hz⟩
section
variable {X : Cx} {F : Fc} {env env' : List Sl} {e a bb : Expr} {es : List Expr} {pos pos' : Pos} {S S' : D → List Sl → Prop} {W : Ws} {σ : L2.St} {H : Hp} {P : Po} {rest : List Stmt} {i b n : Nat} {w c : Addr}
/-- a slot takes what is new -/
theorem At.setNew (A : At F W env σ H) {i : Nat} {s : Sl} {v : V} (ok : SlOk F W H s (some v)) (hn : ∀ a, Own s (some v) a → F.H a = none) (no : ∀ a, Own s (some v) a → ∀ (j : Nat) (t : Sl), env[j]? = some t → ¬ Own t (slot σ j) a) : At F W (env.set i s) (σ.set i (some v)) H := by
  refine ⟨A.sub, A.dom, A.ent, A.new, A.low, A.frm, A.tab, A.tin, by simpa using A.len, fun j t h => ?_, fun j t a h ho => ?_, fun j k t u a hjk h1 h2 o1 o2 => ?_, fun p hp j t h ho => ?_⟩
  · rcases env_set h with ⟨rfl, rfl, hl⟩ | ⟨hne, h⟩
    · rw [slot_set_eq (by rw [A.len]; exact hl)]
      exact ok
    · rw [slot_set_ne hne]
      exact A.ok j t h
  · rcases env_set h with ⟨rfl, rfl, hl⟩ | ⟨hne, h⟩
    · rw [slot_set_eq (by rw [A.len]; exact hl)] at ho
      exact .inl (hn a ho)
    · rw [slot_set_ne hne] at ho
      exact A.wr j t a h ho
  · rcases env_set h1 with ⟨rfl, rfl, hl⟩ | ⟨hne, g1⟩
    · rw [slot_set_eq (by rw [A.len]; exact hl)] at o1
      rcases env_set h2 with ⟨rfl, rfl, hl2⟩ | ⟨hne2, h2⟩
      · exact hjk rfl
      · rw [slot_set_ne hne2] at o2
        exact no a o1 k u h2 o2
    · rw [slot_set_ne hne] at o1
      rcases env_set h2 with ⟨e1, e2, hl⟩ | ⟨hne2, h2⟩
      · subst e1 e2
        rw [slot_set_eq (by rw [A.len]; exact hl)] at o2
        exact no a o2 j t g1 o1
      · rw [slot_set_ne hne2] at o2
        exact A.sep j k t u a hjk g1 h2 o1 o2
  · rcases env_set h with ⟨rfl, rfl, hl⟩ | ⟨hne, h⟩
    · rw [slot_set_eq (by rw [A.len]; exact hl)] at ho
      exact A.ent _ (A.low _ (A.tin p hp)) (hn _ ho)
    · rw [slot_set_ne hne] at ho
      exact A.tsep p hp j t h ho
/-! ### [elt for x in range(a)], elt with draws -/
theorem lcR_read {α : Type} {f : α → D} {p : α → Prop} {elt iter : Expr} {x : Str} {px : Pos} {scope : Scope} {k N : Nat}
    (hi : EI X F env (.Name x px) iter (rgD 0 N)) (hz : N ≤ 100000) (hw : env[i]? = some (.well b 63 w c)) (hk : env[k]? = some .any) (hik : i ≠ k)
    (he : ∀ (m b1 : Nat), m < N → b1 ≤ b + m * n → ∀ (s : Shared) (H : Hp) (C : Addr) (cl : List (Str × Addr)) (fp : List Addr), EF (X.blk s H scope (compEnvC scope cl C X.env) fp) F ((env.set i (.well b1 63 w c)).set k (.val (.int (m : Int)))) elt (DR f p ((env.set i (.well b1 63 w c)).set k (.val (.int (m : Int)))) i b1 n w c))
    {W : Ws} {σ : L2.St} {H : Hp} {Q : VK} (A : At F W env σ H)
    (q : ∀ L acc (vs : List α) (b' : Nat) H2, b' ≤ b + N * n → ¬ W L → H2 L = some (.lst acc) → IsA F.K (hide (fun a => W a ∨ a = L) H2) acc (vs.map f) → vs.length = N → (∀ v ∈ vs, p v) → At F (fun a => W a ∨ a = L) (env.set i (.well b' 63 w c)) σ H2 → At F W (env.set i (.well b' 63 w c)) σ H2 →
      Same (hide W H) (hide (fun a => W a ∨ a = L) H2) → Kept F env H H2 → F.H L = none → (∀ (j : Nat) (s : Sl), (env.set i (.well b' 63 w c))[j]? = some s → ¬ Own s (slot σ j) L) → Q (.ref L) H2) :
    tLc (sI X (.Name x px) iter) (gName k) (lcTt X scope []) (lcTe X scope elt) ([(x, k)].map (·.2)) σ H Q := by
  refine hi W σ H _ A fun J H1 e1 wk L hL => ?_
  have A1 := A.same e1
  obtain ⟨f0, nW⟩ := A1.fresh hL
  have ll : (rgD 0 N).length = N := rgD_len 0 N
  have later : ∀ (b' j : Nat) (s2 : Sl), (env.set i (.well b' 63 w c))[j]? = some s2 → ∃ s1, env[j]? = some s1 ∧ laterS s1 s2 := fun b' j s2 h => by
    rcases env_set h with ⟨rfl, rfl, hl⟩ | ⟨hne, h⟩
    · exact ⟨_, hw, .inr ⟨_, _, _, _, _, _, rfl, rfl⟩⟩
    · exact ⟨s2, h, .inl rfl⟩
  have nTab : ∀ p ∈ F.T, p.1 ≠ L := fun p hp e => nW (e ▸ A1.sub _ (A1.low _ (A1.tin p hp)))
  have nZ : ¬ zOf env L := fun z => nW (zOf_W A1 z)
  have nOwn : ∀ (b' j : Nat) (s : Sl), (env.set i (.well b' 63 w c))[j]? = some s → ¬ Own s (slot σ j) L := fun b' j s h ho => by
    obtain ⟨s1, h1, hl⟩ := later b' j s h
    rcases hl with rfl | ⟨_, _, _, _, _, _, rfl, rfl⟩
    · exact nW (own_dom (A1.ok j _ h1) ho).1
    · exact nW (own_dom (A1.ok j _ h1) ho).1
  have kany : ∀ b', (env.set i (.well b' 63 w c))[k]? = some .any := fun b' => by rw [List.getElem?_set_ne hik]; exact hk
  refine ⟨fun m μ H2 => μ = N - m ∧ m ≤ N ∧ ∃ (acc : List V) (vs : List α) (b1 : Nat), b1 ≤ b + m * n ∧ H2 L = some (.lst acc) ∧ IsA F.K (hide (fun a => W a ∨ a = L) H2) acc (vs.map f) ∧ vs.length = m ∧ (∀ v ∈ vs, p v) ∧ At F (fun a => W a ∨ a = L) (env.set i (.well b1 63 w c)) σ H2 ∧ Same (hide W H1) (hide (fun a => W a ∨ a = L) H2) ∧ Kept F env H H2,
    ⟨N, by omega, Nat.zero_le _, [], [], b, by omega, upd_same, .nil, rfl, (fun _ h => nomatch h), ?_, ?_, Kept.of (e1.trans (same_new hL))⟩, ?_⟩
  · rw [set_same hw]
    exact A1.more hL
  · rw [hide_add hL]
    exact Same.refl _
  rintro m μ H2 ⟨rfl, hm, acc, vs, b1, hb1, hacc, hd, hdl, hp, A2, g2, kp⟩
  have st2 : Same (hide W H1) H2 := Same.trans g2 hide_le
  by_cases hlt : m < N
  · have hx : (rgD 0 N)[m]? = some (.int (m : Int)) := by rw [rgD_nat, List.getElem?_map, List.getElem?_range hlt]; rfl
    refine .inr ⟨wk.go m H2 (by omega) st2, fun H3 => m + 1 ≤ N ∧ ∃ (acc : List V) (vs : List α) (b1 : Nat), b1 ≤ b + (m + 1) * n ∧ H3 L = some (.lst acc) ∧ IsA F.K (hide (fun a => W a ∨ a = L) H3) acc (vs.map f) ∧ vs.length = m + 1 ∧ (∀ v ∈ vs, p v) ∧ At F (fun a => W a ∨ a = L) (env.set i (.well b1 63 w c)) σ H3 ∧ Same (hide W H1) (hide (fun a => W a ∨ a = L) H3) ∧ Kept F env H H3,
      fun H3 w3 => ⟨N - (m + 1), by omega, rfl, w3.1, w3.2⟩, fun x H3 y => ?_⟩
    obtain ⟨e3, r3⟩ := wk.yld m _ H2 x H3 _ hx st2 y g2 A2.dom
    have A2w := (A2.same e3).wipe [k]
    rw [wipeE_any [k] fun j s hj h => by
      obtain rfl := List.mem_singleton.mp hj
      rw [kany] at h
      exact (Option.some.inj h).symm] at A2w
    refine tg_name k _ _ _ _ _ _ A2w r3 fun σ2 A3 hσ hσl => ⟨wipe_back (js := [k]) (vs := [k]) (fun j hj => hj) hσl hσ, ?_⟩
    intro s' H' C cl fp
    refine (ets_nil (X := X.blk s' H' scope (compEnvC scope cl C X.env) fp) (F := F)) _ σ2 H3 _ A3 fun H4 e4 => ?_
    refine iteT fun s' H' C cl fp => he m b1 hlt hb1 s' H' C cl fp _ σ2 H4 _ (A3.same e4) fun v H5 d env' ⟨v0, b2, hd0, hp0, hb2, he'⟩ g5 kz A5 r5 => ?_
    subst hd0
    rw [set_iki hik] at he'
    subst he'
    have zo : ∀ a, zOf ((env.set i (.well b1 63 w c)).set k (.val (.int (m : Int)))) a → zOf env a := fun a z => zOf_well hw a (zOf_val a z)
    have e34 := e3.trans e4
    have hL4 : H4 L = some (.lst acc) := e34 _ _ hacc
    have hL5 : H5 L = some (.lst acc) := kz.1 L _ (fun z => nZ (zo _ z)) (fun p hp => (nTab p hp).symm) hL4
    have A5w := A5.wipe1 k
    rw [List.set_set, set_same (kany b2)] at A5w
    have A6 : At F (fun a => W a ∨ a = L) (env.set i (.well b2 63 w c)) σ H5 := A5w.other (by rw [List.length_set, hσl, wipe_len]) fun j s h => by
      by_cases hjv : j = k
      · subst hjv
        rw [kany] at h
        exact .inl (Option.some.inj h).symm
      · refine .inr ?_
        rw [slot_set_ne hjv]
        unfold slot
        rw [hσ j (fun z => hjv (List.mem_singleton.mp z)), wipe_get, if_neg (fun z => hjv (List.mem_singleton.mp z.1))]
    have g5' : Same (hide (fun a => W a ∨ a = L) H2) (hide (fun a => W a ∨ a = L) H5) := Same.trans (hide_same e34) g5
    have hlv : (vs.map f).length = m := by rw [List.length_map, hdl]
    refine ⟨acc, hL5, by rw [dpa_len hd, hlv, sizeLine_eq]; omega, hlt, acc ++ [v], vs ++ [v0], b2, by rw [Nat.succ_mul]; omega, upd_same, ?_, by rw [List.length_append, hdl]; rfl, ?_, A6.updL (.inr rfl) (fun j s h => nOwn _ j s h) f0 nTab hL5, ?_, ?_⟩
    · rw [hide_mut (.inr rfl), List.map_append]
      exact dpa_app (dpa_same g5' hd) (.cons r5 .nil)
    · intro z hz
      rcases List.mem_append.mp hz with hz | hz
      · exact hp z hz
      · obtain rfl := List.mem_singleton.mp hz
        exact hp0
    · rw [hide_mut (.inr rfl)]
      exact Same.trans g2 g5'
    · intro a o h1 h2 h3
      have hne : a ≠ L := fun e => by
        rw [e] at h3
        rw [same_none e1 hL] at h3
        cases h3
      rw [upd_ne hne]
      exact kz.1 a o (fun z => h1 (zo _ z)) h2 (e34 _ _ (kp a o h1 h2 h3))
  · have em : m = N := by omega
    subst em
    exact .inl ⟨by have h := wk.stop H2 st2; rw [ll] at h; exact h, q L acc vs b1 H2 hb1 nW hacc hd hdl hp A2 (A1.ungrow A2 hL fun j s2 h => .inr (later _ j s2 h)) ((hide_same e1).trans g2) kp f0 (nOwn _)⟩
/-- the premises of such a comprehension -/
structure LcOk (X : Cx) (F : Fc) (env : List Sl) (elt iter : Expr) (x : Str) (px : Pos) (scope : Scope) (k N i b n : Nat) (w c : Addr) {α : Type} (f : α → D) (p : α → Prop) : Prop where
  hc : X.calm = true
  hN : X.N.Nodup
  ok : BlkOk X.N X.env.scope scope [(x, k)]
  hi : EI X F env (.Name x px) iter (rgD 0 N)
  hz : N ≤ 100000
  hw : env[i]? = some (.well b 63 w c)
  hk : env[k]? = some .any
  hik : i ≠ k
  hg : ∀ (s : Shared) (H : Hp) (C : Addr) (cl : List (Str × Addr)) (fp : List Addr), PG (X.blk s H scope (compEnvC scope cl C X.env) fp) (.Name x px) (gName k)
  he : ∀ (m b1 : Nat), m < N → b1 ≤ b + m * n → ∀ (s : Shared) (H : Hp) (C : Addr) (cl : List (Str × Addr)) (fp : List Addr), EF (X.blk s H scope (compEnvC scope cl C X.env) fp) F ((env.set i (.well b1 63 w c)).set k (.val (.int (m : Int)))) elt (DR f p ((env.set i (.well b1 63 w c)).set k (.val (.int (m : Int)))) i b1 n w c)
  hs : ∀ x, foldedSetIterable iter X.env x = pure x
theorem efn_lc {α : Type} {f : α → D} {p : α → Prop} {elt iter : Expr} {x : Str} {px : Pos} {scope : Scope} {k N : Nat} (L : LcOk X F env elt iter x px scope k N i b n w c f p) :
    EFN X F env (.ListComp elt [⟨.Name x px, iter, [], 0⟩] scope pos) (fun ds env' => ∃ (vs : List α) (b' : Nat), ds = vs.map f ∧ vs.length = N ∧ (∀ v ∈ vs, p v) ∧ b' ≤ b + N * n ∧ env' = env.set i (.well b' 63 w c)) := fun W σ H Q A q =>
  sE_of (pe_lc (te := lcTe X scope elt) (tt := lcTt X scope []) L.hc L.hN pi_s L.ok L.hg (fun s H C cl fp => ⟨fun pins s2 σ2 H2 Q2 I hw => hw s H C cl fp pins s2 I⟩) (fun s H C cl fp => ⟨fun pins s2 σ2 H2 Q2 I hw => hw s H C cl fp pins s2 I⟩) L.hs)
    (lcR_read L.hi L.hz L.hw L.hk L.hik L.he A fun l acc vs b' H2 hb nW hl hd hlen hp A2 A3 sm kp f0 no => q l acc H2 _ _ ⟨vs, b', rfl, hlen, hp, hb, rfl⟩ sm A2 f0 nW hl hd no)
theorem dr_lc {α : Type} {f : α → D} {p : α → Prop} {elt iter : Expr} {x : Str} {px : Pos} {scope : Scope} {k N : Nat} (L : LcOk X F env elt iter x px scope k N i b n w c f p) :
    EF X F env (.ListComp elt [⟨.Name x px, iter, [], 0⟩] scope pos) (DR (fun vs : List α => .list (vs.map f)) (fun vs => vs.length = N ∧ ∀ v ∈ vs, p v) env i b (N * n) w c) := fun W σ H Q A q =>
  sE_of (pe_lc (te := lcTe X scope elt) (tt := lcTt X scope []) L.hc L.hN pi_s L.ok L.hg (fun s H C cl fp => ⟨fun pins s2 σ2 H2 Q2 I hw => hw s H C cl fp pins s2 I⟩) (fun s H C cl fp => ⟨fun pins s2 σ2 H2 Q2 I hw => hw s H C cl fp pins s2 I⟩) L.hs)
    (lcR_read L.hi L.hz L.hw L.hk L.hik L.he A fun l acc vs b' H2 hb nW hl hd hlen hp A2 A3 sm kp f0 no => q _ H2 _ _ ⟨vs, b', rfl, ⟨hlen, hp⟩, hb, rfl⟩ (sm.trans (hide_sub fun a h => .inl h)) ⟨kp, zOf_well L.hw⟩ A3 (.lst (xs := acc) (by rw [hide_at nW]; exact hl) (dpa_same (hide_sub fun a h => .inl h) hd)))
/-- y = [..] on one line -/
theorem ss_lcF {α : Type} {f : α → D} {p : α → Prop} {elt iter : Expr} {x y : Str} {px py spos : Pos} {scope : Scope} {k N : Nat} (j : Nat) (L : LcOk X F env elt iter x px scope k N i b n w c f p)
    (h : ∀ (vs : List α) (b' : Nat), vs.length = N → (∀ v ∈ vs, p v) → b' ≤ b + N * n → SS X F rest ((env.set i (.well b' 63 w c)).set j (.val (.list (vs.map f)))) P)
    (hy : X.N[j]? = some y := by rfl) (hyl : X.env.scope.names.lookup y = some .local := by rfl) (hsw : swapsWith (.ListComp elt [⟨.Name x px, iter, [], 0⟩] scope pos) (some (.Name y py)) spos.line X.env = pure true := by exact sw_true rfl rfl rfl (by decide +kernel)) :
    SS X F (.Assign [.Name y py] (.ListComp elt [⟨.Name x px, iter, [], 0⟩] scope pos) spos :: rest) env P := fun W σ H D A l =>
  sSs_of (pss_cons (ps_setLc (i := j) (te := lcTe X scope elt) (tt := lcTt X scope []) L.hc L.hN hy hyl hsw pi_s L.ok L.hg (fun s H C cl fp => ⟨fun pins s2 σ2 H2 Q2 I hw => hw s H C cl fp pins s2 I⟩) (fun s H C cl fp => ⟨fun pins s2 σ2 H2 Q2 I hw => hw s H C cl fp pins s2 I⟩) L.hs) pss_s)
    (lcR_read (Q := fun v H' => sSs X rest D (σ.set j (some v)) H') L.hi L.hz L.hw L.hk L.hik L.he A fun m acc vs b' H2 hb nW hl hd hlen hp A2 A3 sm kp f0 no => h vs b' hlen hp hb W _ H2 D (A3.setv (.lst (xs := acc) (by rw [hide_at nW]; exact hl) (dpa_same (hide_sub fun a h => .inl h) hd))) (l.grow (show Same (hide W H) (hide W H2) from sm.trans (hide_sub fun a h => .inl h))))
/-! ### a new list -/
theorem ss_asgFN (j : Nat) {x : Str} {S : List D → List Sl → Prop} (he : EFN X F env e S) (h : ∀ ds env', S ds env' → SS X F rest (env'.set j (.lst ds)) P) (hN : X.N.Nodup := by assumption) (hi : X.N[j]? = some x := by rfl) (hx : Loc X.env.scope x := by first | exact Or.inl rfl | exact Or.inr rfl)
    (hs : swapsWith e (some (.Name x pos')) pos.line X.env = pure false := by rfl) (hf : X.fn x = true ∨ X.env.scope.names.lookup x = some .local := by first | exact .inl rfl | exact .inr rfl) : SS X F (.Assign [.Name x pos'] e pos :: rest) env P := fun W σ H D A l =>
  sSs_of (pss_cons (ps_set hN hi hx pe_s hs hf) pss_s) (he W σ H _ A fun m vs H' ds env' s sm A' f0 nW hl hd no => h ds env' s _ _ H' D (A'.setNew (s := .lst ds) ⟨m, vs, rfl, .inr rfl, hl, hd⟩ (fun a ho => by cases ho; exact f0) (fun a ho => by cases ho; exact no)) (l.grow sm))
/-- such a list is handed back -/
theorem ss_retFN {K : PySem.W.Frag} {W : Ws} {H : Hp} {s0 : Sl} {v0 : V} {T : List NdefX.NTab} {S : List D → List Sl → Prop} (ok0 : SlOk (fc0 K W H) W H s0 (some v0)) (he : EFN X (fcM K W H s0 v0 T) env e S) (hR : ∀ ds env', S ds env' → ∃ s1, env'[0]? = some s1 ∧ sameK s0 s1 ∧ ∀ v H', RetM K W H s0 v0 T (.lst ds) s1 v H' → P.rt v H') : SS X (fcM K W H s0 v0 T) (.Return (some e) pos :: rest) env P := fun W' σ H' D A l =>
  sSs_of (pss_cons (ps_ret pe_s) (pss_s (sts := rest))) (he W' σ H' _ A fun m vs H2 ds env' s sm A2 f0 nW hl hd no => by
    obtain ⟨s1, h0, sk, q⟩ := hR ds env' s
    exact l.rt _ H2 (q _ H2 (A2.retM ok0 h0 sk ⟨m, vs, rfl, f0, hl, dpa_same (hide_sub fun a h => h.elim (fun z => .inl (A.sub a z)) .inr) hd⟩)))
/-- a list of one's own is handed back as a new one -/
theorem ss_retLst {K : PySem.W.Frag} {W : Ws} {H : Hp} {v0 : V} {T : List NdefX.NTab} {b0 k0 b1 k1 : Nat} {x : Str} {p1 : Pos} {ds : List D} (j : Nat) (ok0 : SlOk (fc0 K W H) W H (.well b0 k0 w c) (some v0)) (h0 : env[0]? = some (.well b1 k1 w c)) (hj : j ≠ 0) (hR : ∀ v H', RetM K W H (.well b0 k0 w c) v0 T (.lst ds) (.well b1 k1 w c) v H' → P.rt v H') (hi : env[j]? = some (.lst ds) := by rfl) (hN : X.N[j]? = some x := by rfl) (hv : Vis X.env.scope x := by first | exact Or.inl rfl | exact Or.inr (Or.inl rfl) | exact Or.inr (Or.inr rfl))
    (hd : (x == ("__debug__" : Str)) = false := by decide) (hcd : (x == ("__classdict__" : Str)) = false := by decide) : SS X (fcM K W H (.well b0 k0 w c) v0 T) (.Return (some (.Name x p1)) pos :: rest) env P := fun W' σ H' D A l => by
  obtain ⟨m, vs, h1, h2, h3, h4⟩ := A.ok j _ hi
  refine sSs_of (pss_cons (ps_ret (pe_var hN hv hd hcd)) (pss_s (sts := rest))) ⟨_, slot_some h1, l.rt _ H' (hR _ H' (A.retM ok0 h0 ⟨rfl, rfl⟩ ⟨m, vs, rfl, ?_, h3, dpa_same (hide_sub fun a h => h.elim (A.sub a) fun z => by rw [z]; exact h2) h4⟩))⟩
  rcases A.wr j _ m hi h1 with z | z
  · exact z
  · exfalso
    obtain ⟨cs0, se0, at0, g1, _⟩ := ok0
    rcases z with z | ⟨p, hp, e⟩
    · obtain ⟨cs1, se1, at1, q1, _⟩ := A.ok 0 _ h0
      refine A.sep j 0 _ _ m hj hi h0 h1 ?_
      rcases z with z | z
      · rw [g1] at z
        exact .inl (q1.trans z)
      · exact .inr z
    · exact A.tsep p hp j _ hi (by rw [← e]; exact h1)
/-! ### expressions -/
theorem EF.dr {α β : Type} {f : α → D} {g : β → D} {p : α → Prop} {q : β → Prop} (h : EF X F env e (DR f p env i b n w c)) (i' : ∀ v, p v → ∃ u, f v = g u ∧ q u) : EF X F env e (DR g q env i b n w c) := h.imp fun d env' ⟨v, b', hd, hp, hb, he⟩ => by
  obtain ⟨u, h1, h2⟩ := i' v hp
  exact ⟨u, b', hd.trans h1, h2, hb, he⟩
theorem EF.drn {α : Type} {f : α → D} {p : α → Prop} {m : Nat} (h : EF X F env e (DR f p env i b n w c)) (hm : n ≤ m := by omega) : EF X F env e (DR f p env i b m w c) := h.imp fun d env' ⟨v, b', hd, hp, hb, he⟩ => ⟨v, b', hd, hp, by omega, he⟩
theorem EE.dr {α : Type} {f : α → D} {p : α → Prop} {v : α} (h : EE X F env e (f v)) (hw : env[i]? = some (.well b 63 w c)) (hp : p v) : EF X F env e (DR f p env i b 0 w c) := h.ef.imp fun d env' ⟨h1, h2⟩ => ⟨v, b, h1, hp, by omega, by rw [h2, set_same hw]⟩
theorem dr_addR {j : Int} {p : Int → Prop} (ha : EE X F env a (.int j)) (hb : EF X F env bb (DR PyData.int p env i b n w c)) : EF X F env (.BinOp a .Add bb pos) (DR PyData.int (fun v => ∃ u, v = j + u ∧ p u) env i b n w c) :=
  ef_addR ha hb fun d env' ⟨v, b', hd, hp, hb, he⟩ => ⟨v, hd, j + v, b', rfl, ⟨v, rfl, hp⟩, hb, he⟩
theorem dr_mulR {j : Int} {p : Int → Prop} (ha : EE X F env a (.int j)) (hb : EF X F env bb (DR PyData.int p env i b n w c)) (hm : ∀ v, p v → CMul j v) : EF X F env (.BinOp a .Mult bb pos) (DR PyData.int (fun v => ∃ u, v = j * u ∧ p u) env i b n w c) := fun W σ H Q A q =>
  sE_of (pe_op op_mul pe_s pe_s) (ha W σ H _ A fun v1 H1 e1 r1 => hb W σ H1 _ (A.same e1) fun v2 H2 d env' s g kz A2 r2 => by
    obtain ⟨v, b', hd, hp, hb, he⟩ := s
    subst hd
    exact ⟨j, v, dp_int_inv r1, dp_int_inv r2, hm v hp, q _ H2 (.int (j * v)) env' ⟨j * v, b', rfl, ⟨v, rfl, hp⟩, hb, he⟩ ((Gr.of e1).trans g) ⟨(Kept.of e1).trans (fun _ z => z) kz.1, kz.2⟩ A2 (.int _)⟩)
/-- a > b, a == b, a with draws, b a constant -/
theorem dr_gt {j : Int} {k : Nat} {p : Int → Prop} {p2 : Pos} (ha : EF X F env a (DR PyData.int p env i b n w c)) : EF X F env (.Compare a [.Gt] [.Constant (.int j) k p2] pos) (DR PyData.bool (fun _ => True) env i b n w c) :=
  ef_gt ha fun d env' ⟨v, b', hd, hp, hb, he⟩ => ⟨v, hd, ee_int, _, b', rfl, trivial, hb, he⟩
theorem dr_eq {j : Int} {k : Nat} {p : Int → Prop} {p2 : Pos} (ha : EF X F env a (DR PyData.int p env i b n w c)) : EF X F env (.Compare a [.Eq] [.Constant (.int j) k p2] pos) (DR PyData.bool (fun _ => True) env i b n w c) :=
  ef_eq ha fun d env' ⟨v, b', hd, hp, hb, he⟩ => ⟨v, hd, ee_int, _, b', rfl, trivial, hb, he⟩
theorem dr_intB {p : Bool → Prop} {p1 : Pos} (hm : X.mg "int" = none) (ha : EF X F env e (DR PyData.bool p env i b n w c)) (hg : Gl X "int" := by rfl)
    (he : starEach [e] X.env = (false, eval e X.env) :: starEach [] X.env := by rfl) (hpl : (backTo pos (starEach [] X.env)).any (·.1) = false := by rfl) : EF X F env (.Call (.Name "int" p1) [e] [] pos) (DR PyData.int (fun v => v = 0 ∨ v = 1) env i b n w c) :=
  ef_intB hm ha (fun d env' ⟨v, b', hd, hp, hb, he⟩ => ⟨v, hd, _, b', rfl, by cases v <;> simp, hb, he⟩) hg he hpl
theorem dr_tupleL {α : Type} {f : α → D} {p : List α → Prop} {p1 : Pos} (hm : X.mg "tuple" = none) (ha : EF X F env e (DR (fun vs : List α => .list (vs.map f)) p env i b n w c)) (hg : Gl X "tuple" := by rfl)
    (he : starEach [e] X.env = (false, eval e X.env) :: starEach [] X.env := by rfl) (hpl : (backTo pos (starEach [] X.env)).any (·.1) = false := by rfl) : EF X F env (.Call (.Name "tuple" p1) [e] [] pos) (DR (fun vs : List α => .tuple (vs.map f)) p env i b n w c) :=
  ef_tupleL hm ha (fun d env' ⟨v, b', hd, hp, hb, he⟩ => ⟨_, hd, v, b', rfl, hp, hb, he⟩) hg he hpl
/-- a text's sign -/
theorem dr_ixS {z : Str} {p : Int → Prop} {q : Str → Prop} (ha : EE X F env a (.str z)) (hb : EF X F env bb (DR PyData.int p env i b n w c)) (hz : z.length ≤ 100000) (hq : ∀ v, p v → ∃ k, atI z.cps.toList v = some k ∧ q ⟨#[k]⟩) (hs : PlainIx bb := by exact fun _ _ => rfl) : EF X F env (.Subscript a bb pos) (DR PyData.str q env i b n w c) :=
  ef_ixS ha hb hz (fun d env' ⟨v, b', hd, hp, hb, he⟩ => by
    obtain ⟨k, h1, h2⟩ := hq v hp
    exact ⟨v, k, hd, h1, ⟨#[k]⟩, b', rfl, h2, hb, he⟩) hs
/-- xs[e], xs a list's value, e with draws -/
theorem dr_ixV {α : Type} {xs : List D} {f : α → D} {q : α → Prop} {p : Int → Prop} (ha : EE X F env a (.list xs)) (hb : EF X F env bb (DR PyData.int p env i b n w c)) (hq : ∀ v, p v → ∃ u, atI xs v = some (f u) ∧ q u) (hs : PlainIx bb := by exact fun _ _ => rfl) : EF X F env (.Subscript a bb pos) (DR f q env i b n w c) :=
  ef_ixL (S2 := fun _ => DR PyData.int p env i b n w c) ha.ef (fun d env' ⟨h1, h2⟩ => by rw [h2]; exact hb) (fun d env' d2 env2 h s2 => by
    obtain ⟨h1, h2⟩ := h
    obtain ⟨v, b', hd, hp, hb, he⟩ := s2
    obtain ⟨u, h3, h4⟩ := hq v hp
    exact ⟨xs, v, _, h1, hd, h3, u, b', rfl, h4, hb, he⟩) hs
/-- .. both with draws -/
theorem dr_ix {α β : Type} {g : β → D} {r : β → Prop} {f : α → D} {q : α → Prop} {p : Int → Prop} {m : Nat} (hw : env[i]? = some (.well b 63 w c)) (ha : EF X F env a (DR g r env i b n w c)) (hb : ∀ b', b' ≤ b + n → EF X F (env.set i (.well b' 63 w c)) bb (DR PyData.int p (env.set i (.well b' 63 w c)) i b' m w c)) (hq : ∀ x v, r x → p v → ∃ xs u, g x = .list xs ∧ atI xs v = some (f u) ∧ q u) (hs : PlainIx bb := by exact fun _ _ => rfl) : EF X F env (.Subscript a bb pos) (DR f q env i b (n + m) w c) :=
  ef_ixL ha (S2 := fun d d2 env2 => ∃ (v : Int) (b2 : Nat), d2 = .int v ∧ p v ∧ b2 ≤ b + (n + m) ∧ env2 = env.set i (.well b2 63 w c)) (fun d env' ⟨x, b', hd, hp, hb', he⟩ => by
    subst he
    refine (hb b' hb').imp fun d2 env2 ⟨v, b2, hd2, hp2, hb2, he2⟩ => ⟨v, b2, hd2, hp2, by omega, by rw [he2, List.set_set]⟩) (fun d env' d2 env2 ⟨x, b', hd, hp, hb', he⟩ ⟨v, b2, hd2, hp2, hb2, he2⟩ => by
    obtain ⟨xs, u, h1, h2, h3⟩ := hq x v hp hp2
    exact ⟨xs, v, _, hd.trans h1, hd2, h2, u, b2, rfl, h3, hb2, he2⟩) hs
/-- xs[e], xs a list of one's own -/
theorem dr_ixOwn {α : Type} (j : Nat) {x : Str} {p1 : Pos} {xs : List D} {f : α → D} {q : α → Prop} {p : Int → Prop} (hb : EF X F env bb (DR PyData.int p env i b n w c)) (hij : i ≠ j) (hq : ∀ v, p v → ∃ u, atI xs v = some (f u) ∧ q u) (hi : env[j]? = some (.lst xs) := by rfl) (hN : X.N[j]? = some x := by rfl) (hv : Vis X.env.scope x := by first | exact Or.inl rfl | exact Or.inr (Or.inl rfl) | exact Or.inr (Or.inr rfl))
    (hd : (x == ("__debug__" : Str)) = false := by decide) (hcd : (x == ("__classdict__" : Str)) = false := by decide) (hs : PlainIx bb := by exact fun _ _ => rfl) : EF X F env (.Subscript (.Name x p1) bb pos) (DR f q env i b n w c) := fun W σ H Q A q => by
  obtain ⟨m, vs, h1, h2, h3, h4⟩ := A.ok j _ hi
  refine sE_of (pe_ix ix_list (pe_var hN hv hd hcd) pe_s hs) ⟨_, slot_some h1, hb W σ H _ A fun v2 H2 d env' ⟨v, b', hd, hp, hb, he⟩ g kz A2 r2 => ?_⟩
  subst hd he
  obtain ⟨m2, ws, g1, g2, g3, g4⟩ := A2.ok j (.lst xs) (by rw [List.getElem?_set_ne hij]; exact hi)
  rw [h1] at g1
  cases g1
  obtain rfl := dp_int_inv r2
  obtain ⟨u, h5, h6⟩ := hq v hp
  obtain ⟨y, h7, h8⟩ := dpa_at g4 h5
  exact ⟨m, ws, v, y, rfl, rfl, SqL.of g3, h7, q y H2 _ _ ⟨u, b', rfl, h6, hb, rfl⟩ g kz A2 h8⟩
/-- xs[k] = e, both with draws -/
theorem ss_setitemF (j : Nat) {x : Str} {p1 p2 : Pos} {α : Type} {f : α → D} {q : α → Prop} {p : Int → Prop} {xs : List D} {m : Nat} (he : EF X F env e (DR f q env i b n w c)) (hb : ∀ b', b' ≤ b + n → EF X F (env.set i (.well b' 63 w c)) bb (DR PyData.int p (env.set i (.well b' 63 w c)) i b' m w c)) (hij : i ≠ j) (hp : ∀ v, p v → ∃ k, ixN xs.length v = some k)
    (h : ∀ (u : α) (k b' : Nat), q u → b' ≤ b + n + m → SS X F rest ((env.set i (.well b' 63 w c)).set j (.lst (xs.set k (f u)))) P) (hi : env[j]? = some (.lst xs) := by rfl) (hN : X.N[j]? = some x := by rfl) (hv : Vis X.env.scope x := by first | exact Or.inl rfl | exact Or.inr (Or.inl rfl) | exact Or.inr (Or.inr rfl))
    (hd : (x == ("__debug__" : Str)) = false := by decide) (hcd : (x == ("__classdict__" : Str)) = false := by decide)
    (pg : ∀ {t1 t2 : TE}, PE X (.Name x p1) t1 → PE X bb t2 → PG X (.Subscript (.Name x p1) bb p2) (gSub t1 t2 rSetL) := by exact fun h1 h2 => pg_sub h1 h2 set_list)
    (hs : swapsWithSole [.Subscript (.Name x p1) bb p2] e pos.line X.env = pure false := by rfl) (hw : swappedStores [.Subscript (.Name x p1) bb p2] e X.env = pure none := by rfl)
    (ha : (assignEach [.Subscript (.Name x p1) bb p2] X.env).map (·.2) = [assign (.Subscript (.Name x p1) bb p2) X.env] := by rfl) :
    SS X F (.Assign [.Subscript (.Name x p1) bb p2] e pos :: rest) env P := fun W σ H D A l => by
  obtain ⟨m1, vs1, k1, k2, k3, k4⟩ := A.ok j _ hi
  refine sSs_of (pss_cons (ps_asg pe_s (pg (pe_var hN hv hd hcd) pe_s) hs hw ha) pss_s) (he W σ H _ A fun v H1 d env1 ⟨u, b1, hd1, hq1, hb1, he1⟩ g1 kz1 A1 r1 => ⟨_, slot_some k1, ?_⟩)
  subst hd1 he1
  refine hb b1 hb1 W σ H1 _ A1 fun v2 H2 d2 env2 ⟨y, b2, hd2, hp2, hb2, he2⟩ g2 kz2 A2 r2 => ?_
  subst hd2
  rw [List.set_set] at he2
  subst he2
  obtain rfl := dp_int_inv r2
  have hi2 : (env.set i (.well b2 63 w c))[j]? = some (.lst xs) := by rw [List.getElem?_set_ne hij]; exact hi
  obtain ⟨m2, ws, q1, q2, q3, q4⟩ := A2.ok j (.lst xs) hi2
  rw [k1] at q1
  cases q1
  obtain ⟨k, hk⟩ := hp y hp2
  refine ⟨m1, ws, y, k, rfl, rfl, q3, by rw [dpa_len q4]; exact hk, h u k b2 hq1 (by omega) W σ _ D (A2.turn hi2 k1 (dpa_set (dp_same g2 r1) k q4)) (l.grow ?_)⟩
  show Same (hide W H) (hide W (upd H2 m1 (.lst (ws.set k v))))
  rw [hide_mut q2]
  exact g1.trans g2
/-- xs.append(e), e with draws -/
theorem ss_appendF (j : Nat) {x : Str} {p1 p2 : Pos} {α : Type} {f : α → D} {q : α → Prop} {xs : List D} (he : EF X F env e (DR f q env i b n w c)) (hij : i ≠ j) (hz : xs.length < 100000) (h : ∀ (u : α) (b' : Nat), q u → b' ≤ b + n → SS X F rest ((env.set i (.well b' 63 w c)).set j (.lst (xs ++ [f u]))) P) (hi : env[j]? = some (.lst xs) := by rfl) (hN : X.N[j]? = some x := by rfl) (hv : Vis X.env.scope x := by first | exact Or.inl rfl | exact Or.inr (Or.inl rfl) | exact Or.inr (Or.inr rfl))
    (hd : (x == ("__debug__" : Str)) = false := by decide) (hcd : (x == ("__classdict__" : Str)) = false := by decide) (hk : X.K = F.K := by rfl)
    (pb : ∀ {t1 : TE} {t2 : TA}, PE X (.Name x p1) t1 → PA X [e] t2 → PE X (.Call (.Attribute (.Name x p1) "append" p2) [e] [] pos') (tBM X.K "list" rAppend t1 t2) := by exact fun h1 h2 => pe_bm PySem.F.plainAttrs_list PySem.F.slot_list_append PySem.F.type_list_append mt_append h1 h2)
    (hs : swapsWith (.Call (.Attribute (.Name x p1) "append" p2) [e] [] pos') none pos.line X.env = pure false := by rfl)
    (q1 : starEach [e] X.env = (false, eval e X.env) :: starEach [] X.env := by rfl) :
    SS X F (.Expr (.Call (.Attribute (.Name x p1) "append" p2) [e] [] pos') pos :: rest) env P := fun W σ H D A l => by
  obtain ⟨m, vs, h1, h2, h3, h4⟩ := A.ok j _ hi
  refine sSs_of (pss_cons (ps_expr (pb (pe_var hN hv hd hcd) (pa_cons pe_s pa_nil q1)) hs) pss_s) ⟨_, slot_some h1, .inl ⟨rfl, vs, SqL.of h3⟩, he W σ H _ A fun v H' d env' ⟨u, b1, hd1, hq1, hb1, he1⟩ g1 kz1 A1 r1 => ?_⟩
  subst hd1 he1
  have hi2 : (env.set i (.well b1 63 w c))[j]? = some (.lst xs) := by rw [List.getElem?_set_ne hij]; exact hi
  obtain ⟨m2, ws, g2, g3, g4, g5⟩ := A1.ok j (.lst xs) hi2
  rw [h1] at g2
  cases g2
  refine ⟨m, ws, v, rfl, rfl, g4, by rw [dpa_len g5, sizeLine_eq]; omega, h u b1 hq1 hb1 W σ _ D (A1.turn hi2 h1 (dpa_app g5 (.cons r1 .nil))) (l.grow ?_)⟩
  show Same (hide W H) (hide W (upd H' m (.lst (ws ++ [v]))))
  rw [hide_mut h2]
  exact g1
/-- a display's two items, the first with draws -/
theorem dr_two {α : Type} {f : α → D} {p : α → Prop} {d2 : D} (ha : EF X F env a (DR f p env i b n w c)) (hb : ∀ b', EE X F (env.set i (.well b' 63 w c)) bb d2) (q1 : starEach [a, bb] X.env = (false, eval a X.env) :: starEach [bb] X.env := by rfl) (q2 : starEach [bb] X.env = (false, eval bb X.env) :: starEach [] X.env := by rfl) : EF X F env (.List [a, bb] pos) (DR (fun v : α => .list [f v, d2]) p env i b n w c) :=
  ef_lst (S1 := fun ds env' => ∃ (v : α) (b' : Nat), ds = [f v, d2] ∧ p v ∧ b' ≤ b + n ∧ env' = env.set i (.well b' 63 w c)) (efa_cons ha (fun d env' ⟨v, b', hd, hp, hb', he⟩ => by
    subst he
    exact efa_cons (hb b').ef (fun d3 env3 ⟨h1, h2⟩ => efa_nil ⟨v, b', by rw [hd, h1], hp, hb', h2⟩) q2) q1) (by simp) fun ds env' ⟨v, b', hd, hp, hb, he⟩ => ⟨by rw [hd]; rfl, v, b', by rw [hd], hp, hb, he⟩
end
end Tf
end
section
set_option maxHeartbeats 4000000
/-! Texts joined and repeated, min of three, and, or with draws, calls of what has no argument, comprehensions over displays that write. -/
namespace Tf
open PySem PySem.Spec PyProof.Rows L2
theorem dpa_strs {K : PySem.W.Frag} {H : Hp} : ∀ {vs : List V} {ns : List Str}, IsA K H vs (ns.map PyData.str) → vs = ns.map V.str
  | _, [], .nil => rfl
  | _, n :: ns, .cons h t => by
    cases h
    rw [dpa_strs t] <;> rfl
theorem op_mulS {X : Cx} : OpR X (binaryOp .Mult) (fun x y H Q => ∃ z n, x = .str z ∧ y = .int n ∧ MulOk z n ∧ Q (.str (Txt.mul z n)) H) := by
  intro pins s σ H x y v u Q I rx ry h
  obtain ⟨z, n, rfl, rfl, hok, q⟩ := h
  obtain ⟨t, rfl⟩ := rx
  obtain ⟨t', rfl⟩ := ry
  exact SB.mul hok fun t' k => ⟨.str _, H, I.tok k, ⟨t', rfl⟩, q⟩
def min3 (i j k : Int) : Int := if j < i then (if k < j then k else j) else (if k < i then k else i)
theorem call_min3 {X : Cx} (hc : X.calm = true) : CallR X (.builtin "min") (fun xs H Q => ∃ i j k, xs = [.int i, .int j, .int k] ∧ Q (.int (min3 i j k)) H) := by
  intro pins s σ H xs us Q I r h
  obtain ⟨i, j, k, rfl, q⟩ := h
  cases r with
  | cons r1 rs =>
    cases rs with
    | cons r2 rs =>
      cases rs with
      | cons r3 rs =>
        cases rs
        obtain ⟨t1, rfl⟩ := r1
        obtain ⟨t2, rfl⟩ := r2
        obtain ⟨t3, rfl⟩ := r3
        refine min_three_ints (I.ok.hd hc) fun h' tk hk => ⟨_, H, I.kept hk, ?_, q⟩
        unfold min3
        by_cases h1 : j < i <;> by_cases h2 : k < j <;> by_cases h3 : k < i <;> simp only [h1, h2, h3, if_true, if_false] <;> exact ⟨_, rfl⟩
/-! ### texts of 0 and 1 -/
theorem foldl_tx (z : Array Nat) : ∀ (l : List Int) (a : Array Nat), z = #[] → (l.map sg1).foldl (fun acc p => acc ++ z ++ p.cps) a = a ++ (l.map fun i => (48 + i).toNat).toArray
  | [], a, _ => by simp
  | x :: l, a, hz => by
    subst hz
    rw [List.map_cons, List.foldl_cons, foldl_tx #[] l _ rfl]
    simp [sg1]
theorem join_tx {z : Str} (hz : z.cps = #[]) (b : List Int) : Txt.join z (b.map sg1) = tx b := by
  unfold Txt.join Builtin.Str.glued tx
  cases b with
  | nil => rfl
  | cons x l =>
    rw [List.map_cons, List.drop_succ_cons, List.drop_zero]
    refine congrArg Str.mk ?_
    rw [hz]
    refine (foldl_tx #[] l _ rfl).trans ?_
    simp [sg1]
theorem sg1_len (i : Int) : (sg1 i).length = 1 := rfl
theorem sum_sg1 (b : List Int) : ((b.map sg1).map (·.length)).sum = b.length := by
  induction b with
  | nil => rfl
  | cons x l ih =>
    rw [List.map_cons, List.map_cons, List.sum_cons, ih, sg1_len, List.length_cons]
    omega
theorem mul_ok (i : Int) {n : Nat} (h1 : 1 ≤ n) (h2 : n ≤ 1000) : MulOk (sg1 i) (n : Int) := by
  refine ⟨?_, fun _ _ => ?_, fun _ _ => ?_⟩
  · rw [decide_eq_false (by omega), decide_eq_false (by omega)]; rfl
  · rw [sg1_len]
    have h3 : (1 : Int) ≤ (2 ^ 63 - 1) / (n : Int) := by
      refine (Int.le_ediv_iff_mul_le (by omega)).mpr ?_
      omega
    omega
  · rw [sg1_len, Nat.one_mul, Int.toNat_natCast]
    unfold Builtin.Str.tooLong
    first
      | exact decide_eq_false (by rw [sizeLine_eq]; omega)
      | (simp [sizeLine_eq]; omega)
      | (simp; omega)
theorem foldl_rep (x : Nat) : ∀ (n : Nat) (a : Array Nat), (List.replicate n #[x]).foldl (· ++ ·) a = a ++ (List.replicate n x).toArray
  | 0, a => by simp
  | n + 1, a => by
    rw [List.replicate_succ, List.foldl_cons, foldl_rep x n]
    refine Array.ext' ?_
    simp [List.replicate_succ]
theorem mul_tx (i : Int) {n : Nat} (h1 : 1 ≤ n) : Txt.mul (sg1 i) (n : Int) = tx (List.replicate n i) := by
  unfold Txt.mul
  rw [if_neg (show ¬ (n : Int) < 1 by omega), Int.toNat_natCast]
  by_cases h : n = 1
  · subst h
    rfl
  · rw [if_neg (by rw [sg1_len]; simp; omega)]
    unfold tx
    refine congrArg Str.mk ?_
    refine (foldl_rep _ n #[]).trans ?_
    simp
section
variable {X : Cx} {F : Fc} {env env' : List Sl} {e a bb cc : Expr} {es : List Expr} {pos pos' : Pos} {S S' : D → List Sl → Prop} {P : Po} {rest th el : List Stmt} {d : D} {i b n : Nat} {w c : Addr}
/-- a display of whole numbers -/
def intsOf : List Expr → List Int
  | .Constant (.int i) _ _ :: es => i :: intsOf es
  | _ => []
def okInts : List Expr → Bool
  | [] => true
  | .Constant (.int _) _ _ :: es => okInts es
  | _ => false
theorem ea_ints : ∀ (es : List Expr), okInts es = true → EA X F env es ((intsOf es).map PyData.int)
  | [], _ => ea_nil
  | e :: es, h => by
    unfold okInts at h
    split at h
    · next heq => cases heq
    · next heq =>
      cases heq
      exact ea_cons ee_int (ea_ints _ h) rfl
    · cases h
theorem ee_ints {ns : List Int} {k} (h : okInts es = true) (h2 : intsOf es = ns) (hl : ns.length ≤ 1000) : EE X F env (.List es k) (.list (ns.map PyData.int)) :=
  h2 ▸ ee_lst (ea_ints es h) (by rw [List.length_map, h2]; omega)
theorem ee_mulS {z : Int} {m : Nat} (ha : EE X F env a (.str (sg1 z))) (hb : EE X F env bb (.int (m : Int))) (h1 : 1 ≤ m) (h2 : m ≤ 1000) : EE X F env (.BinOp a .Mult bb pos) (.str (tx (List.replicate m z))) :=
  ee_bin op_mulS ha hb fun W H v1 v2 Q _ r1 r2 q => ⟨_, _, dp_str_inv r1, dp_int_inv r2, mul_ok z h1 h2, by rw [mul_tx z h1]; exact q _ H (Same.refl H) (.str _)⟩
theorem ee_min3 {p : Pos} {x y z : Int} (hm : X.mg "min" = none) (h1 : EE X F env a (.int x)) (h2 : EE X F env bb (.int y)) (h3 : EE X F env cc (.int z)) (hc : X.calm = true := by rfl) (hg : Gl X "min" := by rfl)
    (q1 : starEach [a, bb, cc] X.env = (false, eval a X.env) :: starEach [bb, cc] X.env := by rfl) (q2 : starEach [bb, cc] X.env = (false, eval bb X.env) :: starEach [cc] X.env := by rfl) (q3 : starEach [cc] X.env = (false, eval cc X.env) :: starEach [] X.env := by rfl) (hpl : (backTo pos (starEach [bb, cc] X.env)).any (·.1) = false := by rfl) : EE X F env (.Call (.Name "min" p) [a, bb, cc] [] pos) (.int (min3 x y z)) :=
  ee_callB (call_min3 hc) hg hm (by decide +kernel) (ea_cons h1 (ea_cons h2 (ea_cons h3 ea_nil q3) q2) q1) (fun W H vs Q _ r1 q => by
    cases r1 with
    | cons g1 t =>
      cases t with
      | cons g2 t =>
        cases t with
        | cons g3 t =>
          cases t
          exact ⟨x, y, z, by rw [dp_int_inv g1, dp_int_inv g2, dp_int_inv g3], q _ H (Same.refl H) (.int _)⟩) (by decide) (by decide) q1 hpl
/-- ''.join(e) -/
theorem ee_join {z : Str} {l : List Int} {apos : Pos} (ho : EE X F env a (.str z)) (ha : EE X F env e (.list (l.map sgS))) (hz : z.cps = #[]) (hl : l.length ≤ 100000) (hk : X.K = F.K := by rfl) (hs : starEach [e] X.env = [(false, eval e X.env)] := by rfl) (hbase : attributeBase a "join" X.env (eval a X.env) = eval a X.env := by rfl) (hline : (apos.endLine == pos.line) = true := by rfl) :
    EE X F env (.Call (.Attribute a "join" apos) [e] [] pos) (.str (tx l)) := fun W σ H Q A q =>
  sE_of (pe_join pe_s pe_s hs hbase hline) (ho W σ H _ A fun v1 H1 e1 r1 => ⟨⟨z, dp_str_inv r1⟩, ha W σ H1 _ (A.same e1) fun v2 H2 e2 r2 => by
    obtain ⟨p, vs, rfl, h1, h2⟩ := dp_lst_inv r2
    have e3 : l.map sgS = (l.map sg1).map PyData.str := by rw [List.map_map]; rfl
    rw [e3] at h2
    obtain rfl := dpa_strs h2
    have hz0 : z.length = 0 := by show z.cps.size = 0; rw [hz]; rfl
    exact ⟨z, p, l.map sg1, dp_str_inv r1, rfl, .inl (SqL.of (hide_le _ _ h1)), by rw [sum_sg1, hz0]; omega, by rw [join_tx hz]; exact q _ H2 (e1.trans e2) (.str _)⟩⟩)
/-- .. with draws -/
theorem dr_join {z : Str} {p : List Int → Prop} {apos : Pos} (ho : EE X F env a (.str z)) (ha : EF X F env e (DR (fun l : List Int => .list (l.map sgS)) p env i b n w c)) (hz : z.cps = #[]) (hl : ∀ l, p l → l.length ≤ 100000) (hk : X.K = F.K := by rfl) (hs : starEach [e] X.env = [(false, eval e X.env)] := by rfl) (hbase : attributeBase a "join" X.env (eval a X.env) = eval a X.env := by rfl) (hline : (apos.endLine == pos.line) = true := by rfl) :
    EF X F env (.Call (.Attribute a "join" apos) [e] [] pos) (DR (fun l => .str (tx l)) p env i b n w c) := fun W σ H Q A q =>
  sE_of (pe_join pe_s pe_s hs hbase hline) (ho W σ H _ A fun v1 H1 e1 r1 => ⟨⟨z, dp_str_inv r1⟩, ha W σ H1 _ (A.same e1) fun v2 H2 d env' s g kz A2 r2 => by
    obtain ⟨l, b', rfl, hp, hb, he⟩ := s
    obtain ⟨p, vs, rfl, h1, h2⟩ := dp_lst_inv r2
    have e3 : l.map sgS = (l.map sg1).map PyData.str := by rw [List.map_map]; rfl
    rw [e3] at h2
    obtain rfl := dpa_strs h2
    have hz0 : z.length = 0 := by show z.cps.size = 0; rw [hz]; rfl
    have hll := hl l hp
    refine ⟨z, p, l.map sg1, dp_str_inv r1, rfl, .inl (SqL.of (hide_le _ _ h1)), by rw [sum_sg1, hz0]; omega, ?_⟩
    rw [join_tx hz]
    exact q _ H2 (.str (tx l)) env' ⟨l, b', rfl, hp, hb, he⟩ ((Gr.of e1).trans g) ⟨(Kept.of e1).trans (fun _ z => z) kz.1, kz.2⟩ A2 (.str _)⟩)
/-! ### or, and -/
def EFW (X : Cx) (F : Fc) (env : List Sl) (e : Expr) (T : Bool → List Sl → Prop) : Prop := ∀ W σ H Q, At F W env σ H → (∀ H' b env', T b env' → Gr W H W H' → Kept F env H H' ∧ (∀ a, zOf env' a → zOf env a) → At F W env' σ H' → Q b H') → sW X e σ H Q
theorem fw_or1 {T : Bool → List Sl → Prop} (h : EFT X F env a T) : EFW X F env (.BoolOp .Or [a] pos) T := fun W σ H Q A q => sW_of (pw_or1 pt_s) (h W σ H _ A q)
theorem fw_or {rest : List Expr} {T1 T : Bool → List Sl → Prop} (h : EFT X F env a T1) (h1 : ∀ env', T1 true env' → T true env') (h' : ∀ env', T1 false env' → EFW X F env' (.BoolOp .Or (bb :: rest) pos) T) : EFW X F env (.BoolOp .Or (a :: bb :: rest) pos) T := fun W σ H Q A q =>
  sW_of (pw_or pt_s pw_s) (h W σ H _ A fun H' k env' s g kz A1 => by
    cases k with
    | true => exact iteT (q H' true env' (h1 env' s) g kz A1)
    | false => exact iteF (h' env' s W σ H' _ A1 fun H2 k2 env2 s2 g2 kz2 A2 => q H2 k2 env2 s2 (g.trans g2) ⟨kz.1.trans kz.2 kz2.1, fun a z => kz.2 a (kz2.2 a z)⟩ A2))
theorem EFW.ft {T : Bool → List Sl → Prop} (h : EFW X F env e T) : EFT X F env e T := fun W σ H Q A q => sT_of pw_s.pt (h W σ H _ A q)
theorem ef_one {op} (h : EF X F env a S) : EF X F env (.BoolOp op [a] pos) S := fun W σ H Q A q => sE_of (pe_one pe_s) (h W σ H _ A q)
theorem ef_and {rest : List Expr} {S1 : D → List Sl → Prop} (h : EF X F env a S1) (h' : ∀ d env', S1 d env' → d = .bool true ∧ EF X F env' (.BoolOp .And (bb :: rest) pos) S) : EF X F env (.BoolOp .And (a :: bb :: rest) pos) S := fun W σ H Q A q =>
  sE_of (pe_and pe_s pe_s) (h W σ H _ A fun v H' d env' s g kz A1 r => by
    obtain ⟨rfl, h2⟩ := h' d env' s
    exact ⟨true, dp_bl_inv r, iteT (h2 W σ H' _ A1 fun v2 H2 d2 env2 s2 g2 kz2 A2 r2 => q v2 H2 d2 env2 s2 (g.trans g2) ⟨kz.1.trans kz.2 kz2.1, fun a z => kz.2 a (kz2.2 a z)⟩ A2 r2)⟩)
/-! ### a def of no argument -/
theorem ee_callD0 {j k : Nat} {R : List Sl → D → Prop} {x : Str} {p : Pos} (G : Def X.prog X.w F.K X.mg X.base k x [] R) (hP : R [] d) (hr : Room j X.A := by assumption) (hk : k ≤ j := by first | decide | omega) (hK : X.K = F.K := by rfl) (hg : Gl X x := by rfl) (hdb : (x == ("__debug__" : Str)) = false := by decide) : EE X F env (.Call (.Name x p) [] [] pos) d := fun W σ H Q A q => by
  obtain ⟨f, fd, g1, g2, g3, g4⟩ := G.ex
  refine sE_of (pe_call0 (by rw [hK]; exact g1) (hr.mono hk) hg g2 (by rw [hK]; exact g3) (by rw [hK]; exact g4) .nil pass0 hdb) ?_
  show spD F.K R ([] ++ []) H Q E0
  exact ⟨W, [], d, A.dom, .nil, hP, q⟩
/-! ### comprehensions over a display that writes -/
theorem ss_lcI {α β : Type} {en2 : β → D} (i : Nat) {y : Str} {py : Pos} {elt tg iter : Expr} {scope : Scope} {own : List (Str × Nat)} {spos : Pos} {g : TG} {js : List Nat} {l : List α} {en : α → D} {h : α → β} {up : α → List Sl → List Sl}
    (hc : X.calm = true) (hN : X.N.Nodup) (ok : BlkOk X.N X.env.scope scope own) (hi : EF X F env iter S) (hS : ∀ d env', S d env' → env' = env ∧ d = .list (l.map en)) (hz : l.length ≤ 100000)
    (hg : ∀ (s : Shared) (H : Hp) (C : Addr) (cl : List (Str × Addr)) (fp : List Addr), PG (X.blk s H scope (compEnvC scope cl C X.env) fp) tg g)
    (tgo : ∀ x ∈ l, TgOk F g (en x) js (up x)) (hj : ∀ j ∈ js, j ∈ own.map (·.2))
    (he : ∀ x ∈ l, ∀ (s : Shared) (H : Hp) (C : Addr) (cl : List (Str × Addr)) (fp : List Addr), EE (X.blk s H scope (compEnvC scope cl C X.env) fp) F (up x (wipeE env (own.map (·.2)))) elt (en2 (h x)))
    (after : SS X F rest (env.set i (.val (.list ((l.map h).map en2)))) P)
    (hy : X.N[i]? = some y := by rfl) (hyl : X.env.scope.names.lookup y = some .local := by rfl) (hsw : swapsWith (.ListComp elt [⟨tg, iter, [], 0⟩] scope pos) (some (.Name y py)) spos.line X.env = pure true := by exact sw_true rfl rfl rfl (by decide +kernel))
    (hs : ∀ x, foldedSetIterable iter X.env x = pure x := by intro _; rfl) (hk : X.K = F.K := by rfl) : SS X F (.Assign [.Name y py] (.ListComp elt [⟨tg, iter, [], 0⟩] scope pos) spos :: rest) env P := fun W σ H D A L => by
  refine sSs_of (pss_cons (ps_setLc (i := i) (te := lcTe X scope elt) (tt := lcTt X scope []) hc hN hy hyl hsw pi_s ok hg (fun s H C cl fp => ⟨fun pins s2 σ2 H2 Q2 I hw => hw s H C cl fp pins s2 I⟩) (fun s H C cl fp => ⟨fun pins s2 σ2 H2 Q2 I hw => hw s H C cl fp pins s2 I⟩) hs) pss_s) ?_
  refine sI_of (pi_list pe_s) (hi W σ H _ A fun v H1 d env' s gr kz A1 r1 => ?_)
  obtain ⟨rfl, rfl⟩ := hS d env' s
  obtain ⟨m, vs, rfl, h1, h2⟩ := dp_lst_inv r1
  refine ⟨m, rfl, ⟨vs, SqL.of (hide_le _ _ h1)⟩, ?_⟩
  rw [hk]
  exact lc_readG (wi := fun σ H R => R (Itl F.K m) H1) (H := H1) (Q := fun v H' => sSs X rest D (σ.set i (some v)) H') (h := fun x => en2 (h x)) (c := fun _ => true) (fun R q => q _ H1 (Same.refl _) (wk_list (hide_le _ _ h1) h2)) hz tgo hj (fun _ _ _ _ _ _ _ => ets_nil) (fun x hx _ => he x hx) A1 fun l' acc H2 H3 e1 hL e2 hacc hd => by
    rw [List.filter_eq_self.mpr fun _ _ => rfl] at hd
    rw [List.map_map] at after
    exact after W _ H3 D (((A1.same (e1.trans e2))).setv (own_is A1 e1 hL hacc hd)) (L.grow (gr.trans (Gr.of (e1.trans e2))))
/-! ### a def that hands back a new list, the well written -/
theorem At.growM {W : Ws} {σ : L2.St} {H H' : Hp} {b' k k' : Nat} {T : List NdefX.NTab} {v0 : V} {l : Addr} (A : At F W env σ H) (h : env[i]? = some (.well b k w c)) (hs : slot σ i = some v0) (fr : ∀ a o, ¬ Own (.well b k w c) (some v0) a → (∀ p ∈ T, a ≠ p.1) → H a = some o → H' a = some o) (hT : ∀ p ∈ T, p ∈ F.T)
    (A' : At F W (env.set i (.well b' k' w c)) σ H') (sm : Same (hide W H) (hide W H')) (hn : H l = none) (h2 : H' l ≠ none) : At F (fun a => W a ∨ a = l) (env.set i (.well b' k' w c)) σ H' := by
  obtain ⟨f0, nW⟩ := A.fresh hn
  have se : Same (hide W H) (hide (fun a => W a ∨ a = l) H') := fun b u hb => by
    obtain ⟨h3, h4⟩ := hide_some hb
    have h5 := hide_le _ _ (sm b u hb)
    rw [hide_at (by rintro (z | z); exact h3 z; rw [z, hn] at h4; cases h4)]
    exact h5
  have oth : ∀ j t a o, j ≠ i → env[j]? = some t → Own t (slot σ j) a → H a = some o → H' a = some o := fun j t a o hj ht ho e =>
    fr a o (fun z => A.sep j i t _ a hj ht h ho (by rw [hs]; exact z)) (fun p hp q => A.tsep p (hT p hp) j t ht (q ▸ ho)) e
  refine ⟨fun a h => .inl (A.sub a h), fun a h => ?_, A.ent, fun a h => ?_, A.low, A'.frm, A'.tab, A.tin, A'.len, fun j s hj => ?_, A'.wr, A'.sep, A'.tsep⟩
  · rcases h with h | h
    · exact A'.dom a h
    · subst h; exact h2
  · rcases h with h | h
    · exact A.new a h
    · subst h; exact .inr f0
  · have hok' := A'.ok j s hj
    rcases env_set hj with ⟨rfl, rfl, hl⟩ | ⟨hne, hj⟩
    · obtain ⟨cs, seed, at_, g1, g2, g3, g4⟩ := hok'
      exact ⟨cs, seed, at_, g1, .inl g2, .inl g3, g4⟩
    · have hok := A.ok j s hj
      cases s with
      | any => trivial
      | val d =>
        obtain ⟨v, h1, h2⟩ := hok
        exact ⟨v, h1, dp_same se h2⟩
      | lst xs =>
        obtain ⟨m, vs, h1, h2, h3, h4⟩ := hok
        exact ⟨m, vs, h1, .inl h2, oth j _ m _ hne hj (by rw [h1]; rfl) h3, dpa_same se h4⟩
      | ro xs =>
        obtain ⟨m, vs, h1, h2, h3, h4⟩ := hok
        obtain ⟨m', vs', q1, q2, q3, q4⟩ := hok'
        rw [h1] at q1
        cases q1
        refine ⟨m, vs, h1, ⟨.inl h2.1, h2.2⟩, fr m _ (fun ho => ?_) (fun p hp e => h2.2.2 (e ▸ A.tin p (hT p hp))) h3, dpa_same se h4⟩
        rcases A.wr i _ m h (by rw [hs]; exact ho) with z | z
        · exact A.ent m h2.2.1 z
        · exact h2.2.2 z
      | fn mk =>
        obtain ⟨f, c, h1, h2, h3⟩ := hok'
        obtain ⟨f', c', q1, q2, q3⟩ := hok
        rw [h1] at q1
        cases q1
        refine ⟨f, c', h1, se _ _ q2, fr _ _ (fun ho => own_code (A.ok i _ h) (by rw [hs]; exact ho) q3) (fun p hp z => ?_) q3⟩
        obtain ⟨ps, t1, _⟩ := A.tab p (hT p hp)
        rw [z, t1] at q3
        cases q3
      | own m xs =>
        obtain ⟨vs, h1, h2, h3, h4⟩ := hok
        exact ⟨vs, h1, .inl h2, oth j _ m _ hne hj (by rw [h1]; rfl) h3, dpa_same se h4⟩
      | well b2 k2 w2 c2 =>
        obtain ⟨cs, seed, at_, h1, h2, h3, h4, h5, h6, h7⟩ := hok
        exact ⟨cs, seed, at_, h1, .inl h2, .inl h3, h4, oth j _ w2 _ hne hj (.inl (by rw [h1])) h5, oth j _ c2 _ hne hj (.inr rfl) h6, h7⟩
      | scr ns =>
        obtain ⟨a, h1, h2⟩ := hok
        exact ⟨a, h1, se.seq h2⟩
theorem efn_callM {j k : Nat} {ps : List Str} {Gp : Sl → List Sl → Prop} {R : Sl → List Sl → Sl → Sl → Prop} {x y : Str} {p p2 : Pos} {ss : List Sl} {SN : List D → List Sl → Prop} {kk : Nat} (G : DefM X.prog X.w F.K X.mg X.base k x ps [] Gp R) (i : Nat) (hi : env[i]? = some (.well b kk w c))
    (ha : EAs X F env es ss) (hv : ∀ s ∈ ss, isVal s) (hG : Gp (.well b kk w c) ss) (hS : ∀ r s1, R (.well b kk w c) ss r s1 → ∃ ds b' k', r = .lst ds ∧ s1 = .well b' k' w c ∧ SN ds (env.set i s1)) (hr : Room j X.A := by assumption) (hk : k ≤ j := by first | decide | omega) (hN : X.N[i]? = some y := by rfl) (hvis : Vis X.env.scope y := by first | exact Or.inl rfl | exact Or.inr (Or.inl rfl) | exact Or.inr (Or.inr rfl)) (hK : X.K = F.K := by rfl) (hg : Gl X x := by rfl) (hdb : (x == ("__debug__" : Str)) = false := by decide)
    (hdy : (y == ("__debug__" : Str)) = false := by decide) (hcy : (y == ("__classdict__" : Str)) = false := by decide)
    (he : starEach (.Name y p2 :: es) X.env = (false, eval (.Name y p2) X.env) :: starEach es X.env := by rfl) (hpl : (backTo pos (starEach es X.env)).any (·.1) = false := by rfl) : EFN X F env (.Call (.Name x p) (.Name y p2 :: es) [] pos) SN := fun W σ H Q A q => by
  obtain ⟨f, fd, g1, g2, g3, g4⟩ := G.ex
  refine sE_of (pe_call (by rw [hK]; exact g1) (hr.mono hk) hg g2 (by rw [hK]; exact g3) (by rw [hK]; exact g4) .nil pass0 (pa_cons (pe_var hN hvis hdy hcy) pa_s he) hdb he hpl) ?_
  obtain ⟨cs0, se0, at0, hs, hk2⟩ := A.ok i _ hi
  refine ⟨.ref w, slot_some hs, ha W σ H _ A fun vs H1 e1 r1 => ?_⟩
  show spM F.K [] Gp R ((.ref w :: vs) ++ []) H1 Q E0
  rw [List.append_nil]
  have A1 := A.same e1
  have ok1 := A1.ok i _ hi
  rw [hs] at ok1
  refine ⟨W, .ref w, vs, .well b kk w c, ss, rfl, A1.dom, trivial, SlOk.re (F := F) rfl trivial ok1, r1, hv, (fun p hp => nomatch hp), (fun p hp => nomatch hp), hG, fun v H' r s1 hR fr tb res nr ok ow => ?_⟩
  obtain ⟨ds, b', k', rfl, rfl, hSd⟩ := hS r s1 hR
  have tb' : NdefX.TabsN F.T H' := A1.tabs hi fun a o h1 h2 => fr a o (by rw [hs] at h1; exact h1) (fun p hp => nomatch hp) h2
  obtain ⟨A2, sm⟩ := A1.turnM hi hs fr (fun p hp => nomatch hp) tb' nr ok ow
  obtain ⟨l, ws, rfl, hn, hl, hd⟩ := res
  have A3 := A1.growM hi hs fr (fun p hp => nomatch hp) A2 sm hn (by rw [hl]; exact fun z => nomatch z)
  obtain ⟨f0, nW⟩ := A1.fresh hn
  refine q l ws H' ds _ hSd ?_ A3 f0 nW hl hd fun j s hj ho => ?_
  · have s1 : Same (hide W H) (hide W H1) := hide_same e1
    refine s1.trans fun b u hb => ?_
    obtain ⟨h3, h4⟩ := hide_some hb
    rw [hide_at (by rintro (z | z); exact h3 z; rw [z, hn] at h4; cases h4)]
    exact hide_le _ _ (sm b u hb)
  · rcases env_set hj with ⟨rfl, rfl, hll⟩ | ⟨hne, hj⟩
    · obtain ⟨z, _⟩ := own_dom (A1.ok j _ hi) (a := l) (by
        rcases ho with ho | ho
        · exact .inl ho
        · exact .inr ho)
      exact nW z
    · exact nW (own_dom (A1.ok j s hj) ho).1
end
end Tf
end
section
set_option maxHeartbeats 1000000
/-! The deck: a def that makes the well. -/
namespace Tf
open PySem PySem.Spec PyProof.Rows L2
def spDeck (K : PySem.W.Frag) : Sp := fun vs H Q _ => ∃ (W : Ws) (a : Addr) (ns : List Int), vs = [.ref a] ∧ DomW W H ∧ SqL K (hide W H) a (ns.map V.int) ∧
  ∀ (w c : Addr) (H' : Hp) (cs : List Int) (seed : Int), Same H H' → H w = none → H c = none → w ≠ c → H' w = some (wellD c seed 0) → H' c = some (.lst (cs.map V.int)) → cs.length ≤ 63 → 0 ≤ seed → seed ≤ 2 ^ 40 → Q (.ref w) H'
/-- what it hands back -/
def DeckRt (H : Hp) (v : V) (H' : Hp) : Prop := ∃ (w c : Addr) (cs : List Int) (seed : Int), v = .ref w ∧ Same H H' ∧ H w = none ∧ H c = none ∧ w ≠ c ∧ H' w = some (wellD c seed 0) ∧ H' c = some (.lst (cs.map V.int)) ∧ cs.length ≤ 63 ∧ 0 ≤ seed ∧ seed ≤ 2 ^ 40
structure DefDeck (P : Program) (w : World) (K : PySem.W.Frag) (mg : Str → Option Value) (base : Heap) (k : Nat) (x : Str) (ps : List Str) : Prop where
  ex : ∃ f fd, FnOk P w K mg base CX0 k f fd ps (spDeck K) ∧ mg x = some (.ref f) ∧ PySem.W.keepIn K (.ref f) = true ∧ Binds K fd ps []
section
variable {P : Program} {w : World} {K : PySem.W.Frag} {mg : Str → Option Value} {base : Heap}
theorem deck_of {x y : Str} {i k : Nat} {N : List Str} {q : Str} (S : Std K mg x y i) (sc : FnScope N [q] (defScope (top i)))
    (hb : ∀ (kV doc pm : Value) (an : Option Addr) (cdv ct : Value) (us : List Value), us.length = 1 → bindArgs (PySem.W.fnOf y y (defArgs (top i)) (defBody (top i)) (defScope (top i)) .none kV doc pm an cdv ct) ⟨us, []⟩ = pure ([q].zip us))
    (hbody : ∀ (f : Addr) (cdv : Value) (A : Around) (outer : List Env) (s : Shared) (H : Hp) (E : XK) (W : Ws) (v0 : V) (ns : List Int), Room k (A.deeper (envOfC y (defScope (top i)) s.heap.objs.size f cdv)) → SlOk (fc0 K W H) W H (.scr ns) (some v0) →
      SS (cx0 P w K mg base N y (defScope (top i)) f cdv A outer s H E) (fcM K W H (.scr ns) v0 []) (defBody (top i)) (startE N.length [.scr ns]) ⟨fun _ _ _ => False, DeckRt H, fun _ _ _ => False, fun _ _ _ => False⟩) : DefDeck P w K mg base (k + 1) x [q] := by
  obtain ⟨f, fd, hm, G⟩ := S
  refine ⟨f, fd, ?_, hm, G.kp, G.bindsN hb⟩
  have hpl : 1 ≤ N.length := by
    have := congrArg List.length sc.pre
    rw [List.length_take] at this
    simp at this
    omega
  refine G.ok sc (fun vs H Q E ⟨W, a, ns, ev, _⟩ => by rw [ev]; rfl) (fun cdv A outer s H vs Q E hr ⟨W, a, ns, ev, dm, sq, q⟩ => ⟨sSs (cx0 P w K mg base N y (defScope (top i)) f cdv A outer s H E) (defBody (top i)), pss_s.nox, ?_⟩)
  subst ev
  have ok : SlOk (fc0 K W H) W H (.scr ns) (some (.ref a)) := ⟨a, rfl, sq⟩
  exact hbody f cdv A outer s H E W (.ref a) ns hr ok W (start N [.ref a]) H _ (at_startM dm trivial ok .nil (fun s hs => nomatch hs) (fun p hp => nomatch hp) (fun p hp => nomatch hp) hpl) ⟨fun _ _ _ _ z => z.elim, fun v H' ⟨w, c, cs, seed, hv, h1, h2, h3, h4, h5, h6, h7, h8, h9⟩ => by
    subst hv
    exact q w c H' cs seed h1 h2 h3 h4 h5 h6 h7 h8 h9, fun _ _ _ _ z => z.elim, fun _ _ _ _ z => z.elim⟩
end
section
variable {X : Cx} {F : Fc} {env : List Sl} {e a bb : Expr} {pos pos' : Pos} {P : Po} {rest : List Stmt} {ns : List Int}
/-- script[lo:hi] -/
theorem ee_scr (i : Nat) {x : Str} {p p2 : Pos} {lo hi : Option Expr} {l u : Option Int} (hl : EO X F env lo l) (hu : EO X F env hi u) (hi0 : env[i]? = some (.scr ns) := by rfl) (hN : X.N[i]? = some x := by rfl) (hv : Vis X.env.scope x := by first | exact Or.inl rfl | exact Or.inr (Or.inl rfl) | exact Or.inr (Or.inr rfl))
    (hd : (x == ("__debug__" : Str)) = false := by decide) (hcd : (x == ("__classdict__" : Str)) = false := by decide) (hk : X.K = F.K := by rfl) : EE X F env (.Subscript (.Name x p) (.Slice lo hi none p2) pos) (.list (cutD (ns.map PyData.int) l u)) := fun W σ H Q A q => by
  obtain ⟨a, h1, h2⟩ := A.ok i _ hi0
  refine sE_of (pe_slice sl_list (pe_var hN hv hd hcd) (po_s lo) (po_s hi)) ⟨_, slot_some h1, hl.run A fun H2 e2 => hu.run (A.same e2) fun H3 e3 => ?_⟩
  have e13 := e2.trans e3
  refine ⟨a, ns.map V.int, rfl, by rw [hk]; exact e13.seq (Same.seq hide_le h2), fun p2 hp => ?_⟩
  have A3 := A.same e13
  have nW : ¬ W p2 := fun z => A3.dom p2 z hp
  have s3 := same_new (o := HO.lst (cutV (ns.map V.int) l u)) hp
  refine q _ _ (e13.trans s3) (.lst ?_ (cut_is (dpa_of_ints ns) _ _))
  rw [hide_at nW]
  exact upd_same
/-- return {'cells': xs[::-1], 'seed': e, 'at': 0} -/
theorem ss_retDeck {K : PySem.W.Frag} {W : Ws} {H : Hp} {v0 : V} {cs : List Int} {seed : Int} {k1 k2 k3 k4 : Nat} {p1 p2 p3 q1 q2 q3 q4 : Pos} (he : EL X (fcM K W H (.scr ns) v0 []) env e (cs.map PyData.int)) (hs : EE X (fcM K W H (.scr ns) v0 []) env a (.int seed)) (h0 : EE X (fcM K W H (.scr ns) v0 []) env bb (.int 0)) (hl : cs.length ≤ 63) (hs1 : 0 ≤ seed) (hs2 : seed ≤ 2 ^ 40) (hP : ∀ v H', DeckRt H v H' → P.rt v H') (hK : X.K = K := by rfl) :
    SS X (fcM K W H (.scr ns) v0 []) (.Return (some (.Dict [some (.Constant (.str "cells") k1 p1), some (.Constant (.str "seed") k2 p2), some (.Constant (.str "at") k3 p3)] [.Subscript e (.Slice none none (some (.UnaryOp .USub (.Constant (.int 1) k4 q1) q2)) q3) q4, a, bb] pos)) pos' :: rest) env P := fun W' σ H' D A l => by
  refine sSs_of (pss_cons (ps_ret (pe_disp (pps_cons pe_str (pe_revL pe_s) (pps_cons pe_str pe_s (pps_cons pe_str pe_s pps_nil))) (by rfl) (by rfl) (by simp) (by simp))) (pss_s (sts := rest))) fun p hp => ?_
  have s1 := same_new (o := HO.dK []) hp
  have A1 := A.same s1
  refine he W' σ _ _ A1 fun m vs H1 e1 g1 g2 => ⟨m, vs, rfl, SqL.of g1, fun L hL => ?_⟩
  have A2 := A1.same e1
  have s2 := same_new (o := HO.lst vs.reverse) hL
  have A3 := A2.same s2
  refine hs W' σ _ _ A3 fun v2 H2 e2 r2 => h0 W' σ _ _ (A3.same e2) fun v3 H3 e3 r3 => ?_
  obtain rfl := dp_int_inv r2
  obtain rfl := dp_int_inv r3
  obtain rfl := dpa_ints g2
  have hp1 : H1 p = some (.dK []) := e1 _ _ upd_same
  have hpL : p ≠ L := fun z => by rw [z, hL] at hp1; cases hp1
  have hp3 : H3 p = some (.dK []) := e3 _ _ (e2 _ _ (s2 _ _ hp1))
  have hL3 : H3 L = some (.lst (cs.map V.int).reverse) := e3 _ _ (e2 _ _ upd_same)
  refine ⟨hp3, [(Sum.inr "cells", V.ref L), (Sum.inr "seed", V.int seed), (Sum.inr "at", V.int 0)], rfl, by simp, ?_⟩
  have em : mergeK [] [((Sum.inr "cells" : Key), V.ref L), (Sum.inr "seed", V.int seed), (Sum.inr "at", V.int 0)] = [((Sum.inr "cells" : Key), V.ref L), (Sum.inr "seed", V.int seed), (Sum.inr "at", V.int 0)] := by
    have m1 : ¬ (("cells" : Str) = "seed") := by decide
    have m2 : ¬ (("cells" : Str) = "at") := by decide
    have m3 : ¬ (("seed" : Str) = "at") := by decide
    have n1 : ¬ ((Sum.inr "cells" : Key) = (Sum.inr "seed" : Key)) := fun z => m1 (Sum.inr.inj z)
    have n2 : ¬ ((Sum.inr "cells" : Key) = (Sum.inr "at" : Key)) := fun z => m2 (Sum.inr.inj z)
    have n3 : ¬ ((Sum.inr "seed" : Key) = (Sum.inr "at" : Key)) := fun z => m3 (Sum.inr.inj z)
    show putK (putK (putK [] (Sum.inr "cells" : Key) (V.ref L)) (Sum.inr "seed" : Key) (V.int seed)) (Sum.inr "at" : Key) (V.int 0) = _
    simp [putK, n1, n2, n3]
  rw [em]
  refine l.rt _ _ (hP _ _ ⟨p, L, cs.reverse, seed, rfl, fun b o hb => ?_, (A.fresh hp).1, (A2.fresh hL).1, hpL, upd_same, ?_, by rw [List.length_reverse]; exact hl, hs1, hs2⟩)
  · have hb' := A.frm b o (by rintro (z | ⟨_, hp, _⟩); exact z.elim; exact nomatch hp) hb
    have hne : b ≠ p := fun z => by rw [z, hp] at hb'; cases hb'
    rw [upd_ne hne]
    exact e3 _ _ (e2 _ _ (s2 _ _ (e1 _ _ (s1 _ _ hb'))))
  · rw [upd_ne (Ne.symm hpL), hL3, List.map_reverse]
/-- y = deck(script) -/
theorem ss_deck (i j : Nat) {x y s : Str} {py p2 ps : Pos} {k kk : Nat} {qs : List Str} (G : DefDeck X.prog X.w F.K X.mg X.base k x qs) (hj : env[j]? = some (.scr ns)) (h : ∀ w c, SS X F rest (env.set i (.well 0 63 w c)) P) (hr : Room kk X.A := by assumption) (hk : k ≤ kk := by first | decide | omega) (hN : X.N.Nodup := by assumption) (hi : X.N[i]? = some y := by rfl) (hx : Loc X.env.scope y := by first | exact Or.inl rfl | exact Or.inr rfl)
    (hs : swapsWith (.Call (.Name x p2) [.Name s ps] [] pos) (some (.Name y py)) pos'.line X.env = pure false := by rfl) (hf : X.fn y = true ∨ X.env.scope.names.lookup y = some .local := by first | exact .inl rfl | exact .inr rfl)
    (hNs : X.N[j]? = some s := by rfl) (hvs : Vis X.env.scope s := by first | exact Or.inl rfl | exact Or.inr (Or.inl rfl) | exact Or.inr (Or.inr rfl)) (hK : X.K = F.K := by rfl) (hg : Gl X x := by rfl) (hdb : (x == ("__debug__" : Str)) = false := by decide)
    (hds : (s == ("__debug__" : Str)) = false := by decide) (hcs : (s == ("__classdict__" : Str)) = false := by decide)
    (q1 : starEach [.Name s ps] X.env = (false, eval (.Name s ps) X.env) :: starEach [] X.env := by rfl) (hpl : (backTo pos (starEach [] X.env)).any (·.1) = false := by rfl) : SS X F (.Assign [.Name y py] (.Call (.Name x p2) [.Name s ps] [] pos) pos' :: rest) env P := fun W σ H D A l => by
  obtain ⟨f, fd, g1, g2, g3, g4⟩ := G.ex
  refine sSs_of (pss_cons (ps_set hN hi hx (pe_call (by rw [hK]; exact g1) (hr.mono hk) hg g2 (by rw [hK]; exact g3) (by rw [hK]; exact g4) .nil pass0 (pa_cons (pe_var hNs hvs hds hcs) pa_nil q1) hdb q1 hpl) hs hf) pss_s) ?_
  obtain ⟨a, h1, h2⟩ := A.ok j _ hj
  refine ⟨.ref a, slot_some h1, ?_⟩
  refine ⟨W, a, ns, rfl, A.dom, h2, fun w c H' cs seed e hw hc hne h3 h4 h5 h6 h7 => ?_⟩
  have nm : ∀ b, H b = none → ∀ (j : Nat) (t : Sl), env[j]? = some t → ¬ Own t (slot σ j) b := fun b hb j t ht ho => (own_dom (A.ok j t ht) ho).2 hb
  -- the heap without the cells
  have e1 : Same H (fun b => if b = c then none else H' b) := fun b o hb => by
    show (if b = c then none else H' b) = some o
    rw [if_neg (fun z => by rw [z, hc] at hb; cases hb)]
    exact e b o hb
  have A1 := A.grow (l := w) e1 hw (by show (if w = c then none else H' w) ≠ none; rw [if_neg hne, h3]; exact fun z => nomatch z)
  have e2 : Same (fun b => if b = c then none else H' b) H' := fun b o hb => by
    have hb : (if b = c then none else H' b) = some o := hb
    split at hb
    · cases hb
    · exact hb
  have A2 := A1.grow (l := c) e2 (by show (if c = c then none else H' c) = none; rw [if_pos rfl]) (by rw [h4]; exact fun z => nomatch z)
  have f1 := (A.fresh hw).1
  have f2 := (A.fresh hc).1
  have own2 : ∀ b, Own (.well 0 63 w c) (some (.ref w)) b → b = w ∨ b = c := fun b hb => by
    rcases hb with hb | hb
    · cases hb; exact .inl rfl
    · exact .inr hb
  have A3 := A2.setNew (i := i) (s := .well 0 63 w c) (v := .ref w) ⟨cs, seed, 0, rfl, .inl (.inr rfl), .inr rfl, hne, h3, h4, h5, by omega, by omega, h6, h7⟩ (fun b hb => by
    rcases own2 b hb with rfl | rfl
    · exact f1
    · exact f2) (fun b hb j t ht => by
    rcases own2 b hb with rfl | rfl
    · exact nm _ hw j t ht
    · exact nm _ hc j t ht)
  refine h w c _ _ H' D A3 (l.grow ?_)
  show Same (hide W H) (hide (fun a => (W a ∨ a = w) ∨ a = c) H')
  intro b o hb
  obtain ⟨g1, g2⟩ := hide_some hb
  rw [hide_at (by
    rintro ((z | z) | z)
    · exact g1 z
    · rw [z, hw] at g2; cases g2
    · rw [z, hc] at g2; cases g2)]
  exact e b o g2
end
end Tf
end
section
set_option maxHeartbeats 4000000
namespace Tf
open PySem PySem.Spec PyProof.Rows L2
variable {P : Program} {w : World} {K : PySem.W.Frag} {mg : Str → Option Value} {base : Heap}
/-! ### is_whole_tables: slots 0 thing -/
theorem sc_is_whole_tables : FnScope ["thing"] ["thing"] (defScope (top 20)) := ⟨rfl, rfl, rfl, by decide +kernel, rfl, by decide +kernel, by decide +kernel⟩
def R_is_whole (ss : List Sl) (d : D) : Prop := ∃ i : Int, ss = [.val (.int i)] ∧ d = .bool true
theorem def_is_whole (T : Txt K mg) (S : Std K mg "is_whole_tables" "is_whole" 20) : Def P w K mg base 1 "is_whole_tables" ["thing"] R_is_whole :=
  def_of S sc_is_whole_tables (by rintro _ _ ⟨i, rfl, rfl⟩; rfl) (fun _ _ _ _ _ _ us hl => match us, hl with | [_], _ => rfl) fun f cdv A outer s H E W ss d hr hR => by
    obtain ⟨i, rfl, rfl⟩ := hR
    have nd := sc_is_whole_tables.nd
    exact ss_ret ((ee_and (ee_isi (n := "int") (c := true) T.isinstance T.int (by decide +kernel) (ee_var 0) (by kernel_rfl)) (fun hA => (ee_one (ee_not (ee_isi (n := "bool") (c := false) T.isinstance T.bool (by decide +kernel) (ee_var 0) (by kernel_rfl))))) (fun hA => by first | exact absurd hA (by decide) | (rw [hA]; rfl) | (simp [hA]; done)))) fun v H' h => h
/-! ### is_answer: slots 0 thing -/
theorem sc_is_answer : FnScope ["thing"] ["thing"] (defScope (top 22)) := ⟨rfl, rfl, rfl, by decide +kernel, rfl, by decide +kernel, by decide +kernel⟩
def R_is_answer (ss : List Sl) (d : D) : Prop := ∃ i : Int, ss = [.val (.int i)] ∧ d = .bool (decide (0 ≤ i) && decide (i ≤ 99))
theorem def_is_answer (T : Txt K mg) (gM : ∃ t, mg "MOST_ANSWER_tables" = some (.int 99 t)) (T_is_whole_tables : Def P w K mg base 1 "is_whole_tables" ["thing"] R_is_whole) (S : Std K mg "is_answer" "is_answer" 22) : Def P w K mg base 2 "is_answer" ["thing"] R_is_answer :=
  def_of S sc_is_answer (by rintro _ _ ⟨i, rfl, rfl⟩; rfl) (fun _ _ _ _ _ _ us hl => match us, hl with | [_], _ => rfl) fun f cdv A outer s H E W ss d hr hR => by
    obtain ⟨i, rfl, rfl⟩ := hR
    have nd := sc_is_answer.nd
    exact ss_ret (ee_and ((ee_callD T_is_whole_tables (eas_cons (ee_var 0) eas_nil) (by first | assumption | exact ⟨_, rfl, rfl⟩ | exact ⟨_, _, rfl, rfl⟩))) (fun _ => ee_one (ee_range ee_int (ee_var 0) (ee_gint gM) op_le)) (fun hA => absurd hA (by decide))) fun v H' h => h
/-! ### are_answers: slots 0 thing, 1 one -/
theorem sc_are_answers : FnScope ["thing", "one"] ["thing"] (defScope (top 23)) := ⟨rfl, rfl, rfl, by decide +kernel, rfl, by decide +kernel, by decide +kernel⟩
def R_are_answers (ss : List Sl) (d : D) : Prop := ∃ ns : List Int, ss = [.val (tI ns)] ∧ ns.length ≤ 100 ∧ d = .bool (decide (0 < (ns.length : Int)) && ns.all fun i => decide (0 ≤ i) && decide (i ≤ 99))
theorem def_are_answers (T : Txt K mg) (T_is_answer : Def P w K mg base 2 "is_answer" ["thing"] R_is_answer) (S : Std K mg "are_answers" "are_answers" 23) : Def P w K mg base 3 "are_answers" ["thing"] R_are_answers :=
  def_of S sc_are_answers (by rintro _ _ ⟨i, rfl, _⟩; rfl) (fun _ _ _ _ _ _ us hl => match us, hl with | [_], _ => rfl) fun f cdv A outer s H E W ss d hr hR => by
    obtain ⟨ns, rfl, hn, rfl⟩ := hR
    have nd := sc_are_answers.nd
    refine ss_ret (ee_and ((ee_isi (n := "tuple") (c := true) T.isinstance T.tuple (by decide +kernel) (ee_var 0) (by kernel_rfl))) (fun _ => ee_and ((cd_gt.ee (ee_lenT T.len (ee_var 0)) ee_int)) (fun hA => ee_one (((ee_all T.all rfl ((ee_lcM (en2 := PyData.bool)  (own := [("one", 1)]) (g := (gName 1)) (js := [1]) rfl nd (blkOk_by (by kernel_rfl)) (ei_tup (ee_var 0)).m (by first | assumption | omega | decide | (simp; omega) | (simp; done)) (fun _ _ _ _ _ => (pg_name (i := 1) nd rfl (by first | exact Or.inl rfl | exact Or.inr rfl))) (fun x hx => (tg_name 1)) (by decide) (fun x hx _ _ _ _ _ => (ee_callD T_is_answer (eas_cons (ee_var 1) eas_nil) (by first | assumption | exact ⟨_, rfl, rfl⟩ | exact ⟨_, _, rfl, rfl⟩))))).el)).eq ?_)) ?_) (fun hA => absurd hA (by decide))) fun v H' h => h
    · simp only [List.length_map] at hA ⊢
      rw [hA, Bool.true_and, List.all_map]
      rfl
    · intro hA
      simp only [List.length_map] at hA
      rw [hA, Bool.false_and]
end Tf
end
section
set_option maxHeartbeats 4000000
namespace Tf
open PySem PySem.Spec PyProof.Rows L2
variable {P : Program} {w : World} {K : PySem.W.Frag} {mg : Str → Option Value} {base : Heap}
/-! ### common: slots 0 one, 1 other -/
theorem sc_common : FnScope ["one", "other"] ["one", "other"] (defScope (top 1)) := ⟨rfl, rfl, rfl, by decide +kernel, rfl, by decide +kernel, by decide +kernel⟩
def R_common (ss : List Sl) (d : D) : Prop := ∃ a b : Int, ss = [.val (.int a), .val (.int b)] ∧ d = .int (Int.gcd a b : Int)
theorem def_common (T : Txt K mg) (S : Std K mg "common" "common" 1) : Def P w K mg base 1 "common" ["one", "other"] R_common :=
  def_of S sc_common (by rintro _ _ ⟨a, b, rfl, rfl⟩; rfl) (fun _ _ _ _ _ _ us hl => match us, hl with | [_, _], _ => rfl) fun f cdv A outer s H E W ss d hr hR => by
    obtain ⟨a, b, rfl, rfl⟩ := hR
    have nd := sc_common.nd
    refine ss_while (ι := Int × Int) (fun i => Int.gcd i.1 i.2 = Int.gcd a b) (fun i => [.val (.int i.1), .val (.int i.2)]) (fun i => !decide (i.2 = 0)) (fun i => i.2.natAbs) (a, b) rfl (by repeat' (first | exact True.intro | exact Or.inl rfl | exact Or.inr rfl | apply And.intro)) ?_ ?_ ?_
    · intro i hi
      exact (cd_neI.et (ee_var 1) ee_int)
    · intro i hi hk
      have hne : i.2 ≠ 0 := by simpa using hk
      refine ss_par 0 1 (ee_var 1) ((ee_fmod (ee_var 0) (ee_var 1) (by first | assumption | omega | decide | (simp; omega) | (simp; done)))) ?_
      exact ss_nil fun W σ H A => ⟨(i.2, i.1.fmod i.2), (gcd_fmod _ _).trans hi, natAbs_fmod_lt hne, A⟩
    · intro i hi hk
      have hz : i.2 = 0 := by simpa using hk
      refine ss_ret (((ee_abs T.abs (ee_var 0))).eq ?_) fun v H' h => h
      have hi : Int.gcd i.1 i.2 = Int.gcd a b := hi
      rw [hz, Int.gcd_zero_right] at hi
      rw [hi]
def lsD (st : LS) : D := .tuple [.int st.1, lI st.2.1, lI st.2.2]
/-! ### lessened: slots 0 scale, 1 counts, 2 left, 3 p, 4 one, 5 by -/
theorem sc_lessened : FnScope ["scale", "counts", "left", "p", "one", "by"] ["scale", "counts", "left", "p"] (defScope (top 2)) := ⟨rfl, rfl, rfl, by decide +kernel, rfl, by decide +kernel, by decide +kernel⟩
def R_lessened (ss : List Sl) (d : D) : Prop := ∃ (s : Int) (c l : List Int) (p : Int), ss = [.val (.int s), .val (lI c), .val (lI l), .val (.int p)] ∧ 0 ≤ p ∧ c.length ≤ 1000 ∧ l.length ≤ 1000 ∧ (p = 0 → s ≠ 0 ∧ s.natAbs < 2 ^ 8999) ∧ d = lsD (lessF p s c l)
theorem def_lessened (T : Txt K mg) (T_common : Def P w K mg base 1 "common" ["one", "other"] R_common) (S : Std K mg "lessened" "lessened" 2) : Def P w K mg base 2 "lessened" ["scale", "counts", "left", "p"] R_lessened :=
  def_of S sc_lessened (by rintro _ _ ⟨_, _, _, _, rfl, _⟩; rfl) (fun _ _ _ _ _ _ us hl => match us, hl with | [_, _, _, _], _ => rfl) fun f cdv A outer sh H E W ss d hr hR => by
    obtain ⟨s, c, l, p, rfl, h0, hc, hl, hs, rfl⟩ := hR
    have nd := sc_lessened.nd
    refine ss_ifR (cd_gt.et (ee_var 3) ee_int) (fun hT => ?_) fun hT => ?_
    · have hp : 0 < p := of_decide_eq_true hT
      refine ss_ret (((ee_tup (ea_cons (ee_mod (ee_var 0) (ee_var 3) (by first | assumption | omega | decide | (simp; omega) | (simp; done))) (ea_cons (ee_lcM (en2 := PyData.int)  (own := [("one", 4)]) (g := (gName 4)) (js := [4]) rfl nd (blkOk_by (by kernel_rfl)) (ei_list (ee_var 1)).m (by first | assumption | omega | decide | (simp; omega) | (simp; done)) (fun _ _ _ _ _ => (pg_name (i := 4) nd rfl (by first | exact Or.inl rfl | exact Or.inr rfl))) (fun x hx => (tg_name 4)) (by decide) (fun x hx _ _ _ _ _ => (ee_mod (ee_var 4) (ee_var 3) (by first | assumption | omega | decide | (simp; omega) | (simp; done))))) (ea_cons (ee_lcM (en2 := PyData.int)  (own := [("one", 4)]) (g := (gName 4)) (js := [4]) rfl nd (blkOk_by (by kernel_rfl)) (ei_list (ee_var 2)).m (by first | assumption | omega | decide | (simp; omega) | (simp; done)) (fun _ _ _ _ _ => (pg_name (i := 4) nd rfl (by first | exact Or.inl rfl | exact Or.inr rfl))) (fun x hx => (tg_name 4)) (by decide) (fun x hx _ _ _ _ _ => (ee_mod (ee_var 4) (ee_var 3) (by first | assumption | omega | decide | (simp; omega) | (simp; done))))) ea_nil))))).eq ?_) fun v H' h => h
      unfold lessF
      rw [if_pos hp]
      rfl
    · have hp : p = 0 := by have := of_decide_eq_false hT; omega
      obtain ⟨hs0, hs1⟩ := hs hp
      refine ss_asg 5 (ee_var 0) ?_
      refine ss_forE (fun pre => [(.val (.int s)), (.val (lI c)), (.val (lI l)), (.val (.int p)), .any, (.val (.int (gcdF s pre)))]) (ei_list (ee_var 1)) (pg_name (i := 4) nd rfl (by first | exact Or.inl rfl | exact Or.inr rfl)) (fun x _ => (tg_name 4)) (by repeat' (first | exact True.intro | exact Or.inl rfl | exact Or.inr rfl | apply And.intro)) (fun pre x post hx => ?_) ?_
      · refine ss_asg 5 (ee_callD T_common (eas_cons (ee_var 5) (eas_cons (ee_var 4) eas_nil)) (by first | assumption | exact ⟨_, rfl, rfl⟩ | exact ⟨_, _, rfl, rfl⟩)) (ss_end ?_)
        rw [gcdF_snoc]
        exact (by repeat' (first | exact True.intro | exact Or.inl rfl | exact Or.inr rfl | apply And.intro))
      · have hb : 0 < gcdL s c ∧ (gcdL s c).natAbs.log2 < 9000 := ⟨gcdL_pos hs0, log2_lt (Nat.lt_of_le_of_lt (gcdL_le hs0) (Nat.lt_of_lt_of_le hs1 (Nat.pow_le_pow_right (by omega) (by omega)))) (by omega)⟩
        refine ss_asg 5 (ee_abs T.abs (ee_var 5)) ?_
        refine ss_ret (((ee_tup (ea_cons (ee_divW (ee_var 0) (ee_var 5) (hb)) (ea_cons (ee_lcM (en2 := PyData.int)  (own := [("one", 4)]) (g := (gName 4)) (js := [4]) rfl nd (blkOk_by (by kernel_rfl)) (ei_list (ee_var 1)).m (by first | assumption | omega | decide | (simp; omega) | (simp; done)) (fun _ _ _ _ _ => (pg_name (i := 4) nd rfl (by first | exact Or.inl rfl | exact Or.inr rfl))) (fun x hx => (tg_name 4)) (by decide) (fun x hx _ _ _ _ _ => (ee_divW (ee_var 4) (ee_var 5) (hb)))) (ea_cons (ee_lcM (en2 := PyData.int)  (own := [("one", 4)]) (g := (gName 4)) (js := [4]) rfl nd (blkOk_by (by kernel_rfl)) (ei_list (ee_var 2)).m (by first | assumption | omega | decide | (simp; omega) | (simp; done)) (fun _ _ _ _ _ => (pg_name (i := 4) nd rfl (by first | exact Or.inl rfl | exact Or.inr rfl))) (fun x hx => (tg_name 4)) (by decide) (fun x hx _ _ _ _ _ => (ee_divW (ee_var 4) (ee_var 5) (hb)))) ea_nil))))).eq ?_) fun v H' h => h
        unfold lessF
        rw [if_neg (by omega)]
        rfl
theorem at_gl {l : List Int} {i : Nat} (h : i < l.length) : atI (l.map PyData.int) (i : Int) = some (.int (gl l i)) := atM (gl_get h)
theorem mulW {a b : Int} {e : Nat} (ha : a.natAbs < 2 ^ e) (hb : b.natAbs < 2 ^ e) (h0 : 0 < e) (he : e ≤ 10000) : CMulW a b := by
  have h1 := log2_lt ha h0
  have h2 := log2_lt hb h0
  unfold CMulW
  omega
theorem zip_pad (c w : List Int) : zipD (c.map PyData.int) (w.map PyData.int ++ (List.replicate (((c.map PyData.int).length : Nat) : Int).toNat [PyData.int 0]).flatten) = (c.zip (w ++ List.replicate c.length 0)).map fun p => .tuple [PyData.int p.1, PyData.int p.2] := by
  rw [← zipD_map]
  congr 1
  rw [List.map_append, List.map_replicate, List.length_map, Int.toNat_natCast]
  congr 1
  generalize c.length = n
  induction n with
  | zero => rfl
  | succ n ih => rw [List.replicate_succ, List.flatten_cons, ih]; rfl
theorem rep_zero (n : Nat) : (List.replicate ((n : Nat) : Int).toNat [PyData.int 0]).flatten = (List.replicate n (0 : Int)).map PyData.int := by
  rw [Int.toNat_natCast, List.map_replicate]
  induction n with
  | zero => rfl
  | succ n ih => rw [List.replicate_succ, List.flatten_cons, ih]; rfl
def knD (k : Kn) : D := .tuple [lI k.1, lI k.2.1, .int (k.2.2 : Int)]
theorem ex9 {m : Nat} (h : m ≤ 9) : ex m ≤ 4095 := by
  have := ex_le h
  have e : ex 9 = 4095 := by decide
  omega
/-- what is wanted of p, and of a table's rows -/
structure Pr (p : Int) (m : Nat) : Prop where
  hp : PrI p
  h0 : 0 ≤ p
  h97 : p ≤ 97
  h9 : p = 0 → m ≤ 9
theorem Sw.lt {p x : Int} {m : Nat} (g : Pr p m) (h : Sw p (ex m) x) : x.natAbs < 2 ^ 4095 := by
  by_cases hz : p = 0
  · exact Nat.lt_of_lt_of_le (h.2 hz) (Nat.pow_le_pow_right (by omega) (ex9 (g.h9 hz)))
  · have h0 := g.h0
    have h97 := g.h97
    have := h.1 (by omega)
    have h2 : (2 : Nat) ^ 7 ≤ 2 ^ 4095 := Nat.pow_le_pow_right (by omega) (by omega)
    have h3 : (2 : Nat) ^ 7 = 128 := by decide
    generalize (2 : Nat) ^ 4095 = B at *
    omega
/-! ### led_down: slots 0 row, 1 known, 2 p, 3 scale, 4 counts, 5 left, 6 weights, 7 vector, 8 spot, 9 f, 10 g, 11 one, 12 other -/
theorem sc_led_down : FnScope ["row", "known", "p", "scale", "counts", "left", "weights", "vector", "spot", "f", "g", "one", "other"] ["row", "known", "p"] (defScope (top 3)) := ⟨rfl, rfl, rfl, by decide +kernel, rfl, by decide +kernel, by decide +kernel⟩
def R_led_down (ss : List Sl) (d : D) : Prop := ∃ (row : List Int) (ks : List Kn) (p : Int) (n m : Nat) (A : Mx), ss = [.val (tI row), .ro (ks.map knD), .val (.int p)] ∧ Pr p m ∧ ks.length ≤ m ∧ m ≤ 100 ∧ n ≤ 100 ∧ KnAll p n A ks ∧ row.length = n ∧ (∀ x, (gl row x).natAbs < 2 ^ 7) ∧ d = lsD (ledF p row ks)
theorem def_led_down (T : Txt K mg) (T_lessened : Def P w K mg base 2 "lessened" ["scale", "counts", "left", "p"] R_lessened) (S : Std K mg "led_down" "led_down" 3) : Def P w K mg base 3 "led_down" ["row", "known", "p"] R_led_down :=
  def_of S sc_led_down (by rintro _ _ ⟨_, _, _, _, _, _, rfl, _⟩; rfl) (fun _ _ _ _ _ _ us hl => match us, hl with | [_, _, _], _ => rfl) fun f cdv A outer sh H E W ss d hr hR => by
    obtain ⟨row, ks, p, n, m, Am, rfl, hP, hm, hm1, hn1, hk, hl, hs, rfl⟩ := hR
    have nd := sc_led_down.nd
    have L := led_ok hP.hp hP.h0 hk (led0_ok (m := ks.length) (A := Am) (a := fun x => gl row x) hP.hp hP.h0 hl (fun _ _ => rfl) hs)
    have big : ∀ {i : Nat} {x : Int}, i ≤ ks.length → Sw p (ex i) x → x.natAbs < 2 ^ 4095 := fun hi h => Sw.lt hP (h.mono (ex_le (by omega)))
    have h29 : (2 : Nat) ^ 4095 ≤ 2 ^ 8999 := Nat.pow_le_pow_right (by omega) (by omega)
    refine ss_unpack (d := lsD (led0 p row ks.length)) ((ee_callD T_lessened (eas_cons ee_int (eas_cons (ee_rep ((ee_lst (ea_cons ee_int ea_nil))).el (ee_lenL T.len (el_ro 1)) ((by omega)) ((by simp; omega)) ((by simp; omega))) (eas_cons (ee_listT T.list (ee_var 0)) (eas_cons (ee_var 2) eas_nil)))) (⟨1, List.replicate ks.length 0, row, p, ?_, hP.h0, by rw [List.length_replicate]; omega, by omega, fun _ => ⟨by decide, Nat.one_lt_two_pow (by omega)⟩, rfl⟩))) (pg_tup rfl (pgs_cons (pg_name (i := 3) nd rfl (by first | exact Or.inl rfl | exact Or.inr rfl)) (pgs_cons (pg_name (i := 4) nd rfl (by first | exact Or.inl rfl | exact Or.inr rfl)) (pgs_cons (pg_name (i := 5) nd rfl (by first | exact Or.inl rfl | exact Or.inr rfl)) pgs_nil)))) (tg_three 3 4 5) ?_
    · rw [List.length_map, rep_zero]
    refine ss_forJE (fun pre => [(.val (tI row)), (.ro (ks.map knD)), (.val (.int p)), (.val (.int (pre.foldl (stepF p) (led0 p row ks.length)).1)), (.val (lI (pre.foldl (stepF p) (led0 p row ks.length)).2.1)), (.val (lI (pre.foldl (stepF p) (led0 p row ks.length)).2.2)), .any, .any, .any, .any, .any, .any, .any]) (ej_ro 1) (pg_tup rfl (pgs_cons (pg_name (i := 6) nd rfl (by first | exact Or.inl rfl | exact Or.inr rfl)) (pgs_cons (pg_name (i := 7) nd rfl (by first | exact Or.inl rfl | exact Or.inr rfl)) (pgs_cons (pg_name (i := 8) nd rfl (by first | exact Or.inl rfl | exact Or.inr rfl)) pgs_nil)))) (fun x _ => (tg_three 6 7 8)) (by repeat' (first | exact True.intro | exact Or.inl rfl | exact Or.inr rfl | apply And.intro)) (fun pre k post hx => ?_) ?_
    · have hpre : ks.take pre.length = pre := by rw [hx, List.take_left']; rfl
      have hlt : pre.length < ks.length := by rw [hx]; simp
      have hk1 : ks[pre.length]? = some k := by rw [hx, List.getElem?_append_right (Nat.le_refl _), Nat.sub_self]; rfl
      obtain ⟨L1, _⟩ := L pre.length (by omega)
      obtain ⟨L2, _⟩ := L (pre.length + 1) (by omega)
      rw [hpre] at L1
      have ht : ks.take (pre.length + 1) = pre ++ [k] := by rw [List.take_add_one, hpre, hk1]; rfl
      rw [ht] at L2
      have G := hk.ok _ _ hk1
      rw [List.foldl_append, List.foldl_cons, List.foldl_nil] at L2
      rw [List.foldl_append, List.foldl_cons, List.foldl_nil]
      generalize hst : pre.foldl (stepF p) (led0 p row ks.length) = st at L1 L2 ⊢
      have sp1 : k.2.2 < st.2.2.length := by rw [L1.ll]; exact G.sn
      have sp2 : k.2.2 < k.2.1.length := by rw [G.vl]; exact G.sn
      refine ss_if (k := !decide (gl st.2.2 k.2.2 = 0)) (env2 := [(.val (tI row)), (.ro (ks.map knD)), (.val (.int p)), (.val (.int (stepF p st k).1)), (.val (lI (stepF p st k).2.1)), (.val (lI (stepF p st k).2.2)), .any, .any, .any, .any, .any, .any, .any]) ((cd_neI.et (ee_ixL ((ee_var 5)).el (ee_var 8) (at_gl sp1)) ee_int)) (fun hk0 => ?_) (fun hk0 => ss_end ?_) (ss_end (by repeat' (first | exact True.intro | exact Or.inl rfl | exact Or.inr rfl | apply And.intro)))
      · have hne : ¬ gl st.2.2 k.2.2 = 0 := by simpa using hk0
        have b1 : (gl k.2.1 k.2.2).natAbs < 2 ^ 4095 := big (by omega) (G.szv _).w
        have b2 : (gl st.2.2 k.2.2).natAbs < 2 ^ 4095 := big (by omega) (L1.sz3 _).w
        have b3 : ∀ x ∈ st.2.1, x.natAbs < 2 ^ 4095 := fun x h => by obtain ⟨i, _, rfl⟩ := gl_mem h; exact big (by omega) (L1.sz2 i).w
        have b4 : ∀ x ∈ st.2.2, x.natAbs < 2 ^ 4095 := fun x h => by obtain ⟨i, _, rfl⟩ := gl_mem h; exact big (by omega) (L1.sz3 i).w
        have b5 : ∀ x ∈ k.2.1, x.natAbs < 2 ^ 4095 := fun x h => by obtain ⟨i, _, rfl⟩ := gl_mem h; exact big (by omega) (G.szv i).w
        have b6 : ∀ x ∈ k.1 ++ List.replicate st.2.1.length 0, x.natAbs < 2 ^ 4095 := fun x h => by
          rcases List.mem_append.mp h with h | h
          · obtain ⟨i, _, rfl⟩ := gl_mem h; exact big (by omega) (G.szw i)
          · obtain rfl := (List.mem_replicate.mp h).2; exact Nat.two_pow_pos _
        have b7 : st.1.natAbs < 2 ^ 4095 := big (by omega) L1.sz1.w
        have lcl := L1.cl
        have lll := L1.ll
        have gwl := G.wl
        have gvl := G.vl
        refine ss_unpack ((ee_tup (ea_cons (ee_ixL ((ee_var 7)).el (ee_var 8) (at_gl sp2)) (ea_cons (ee_ixL ((ee_var 5)).el (ee_var 8) (at_gl sp1)) ea_nil)))) (pg_tup rfl (pgs_cons (pg_name (i := 9) nd rfl (by first | exact Or.inl rfl | exact Or.inr rfl)) (pgs_cons (pg_name (i := 10) nd rfl (by first | exact Or.inl rfl | exact Or.inr rfl)) pgs_nil))) (tg_two 9 10) ?_
        refine (ss_lcM (en2 := PyData.int) 4 (own := [("one", 11), ("other", 12)]) (g := (gTup K 2 (gCons (gName 11) (gCons (gName 12) gNil)))) (js := [11, 12]) rfl nd (blkOk_by (by kernel_rfl)) ((ei_zipL T.zip (ee_var 4) (ee_cat ((ee_var 6)).el ((ee_rep ((ee_lst (ea_cons ee_int ea_nil))).el (ee_lenL T.len ((ee_var 4)).el) ((by omega)) ((by simp; omega)) ((by simp; omega)))).el ((by simp; omega)))).eq (zip_pad _ _)).m ((by simp; omega)) (fun _ _ _ _ _ => (pg_tup rfl (pgs_cons (pg_name (i := 11) nd rfl (by first | exact Or.inl rfl | exact Or.inr rfl)) (pgs_cons (pg_name (i := 12) nd rfl (by first | exact Or.inl rfl | exact Or.inr rfl)) pgs_nil)))) (fun x hx => (tg_two 11 12)) (by decide) (fun x hx _ _ _ _ _ => (ee_add (ee_mulW (ee_var 9) (ee_var 11) (mulW b1 (b3 _ (List.of_mem_zip hx).1) (by omega) (by omega))) (ee_mulW (ee_var 10) (ee_var 12) (mulW b2 (b6 _ (List.of_mem_zip hx).2) (by omega) (by omega)))))) ?_
        refine (ss_lcM (en2 := PyData.int) 5 (own := [("one", 11), ("other", 12)]) (g := (gTup K 2 (gCons (gName 11) (gCons (gName 12) gNil)))) (js := [11, 12]) rfl nd (blkOk_by (by kernel_rfl)) ((ei_zipL T.zip (ee_var 5) (ee_var 7)).eq (zipD_map _ _ _ _)).m ((by simp; omega)) (fun _ _ _ _ _ => (pg_tup rfl (pgs_cons (pg_name (i := 11) nd rfl (by first | exact Or.inl rfl | exact Or.inr rfl)) (pgs_cons (pg_name (i := 12) nd rfl (by first | exact Or.inl rfl | exact Or.inr rfl)) pgs_nil)))) (fun x hx => (tg_two 11 12)) (by decide) (fun x hx _ _ _ _ _ => (ee_sub (ee_mulW (ee_var 9) (ee_var 11) (mulW b1 (b4 _ (List.of_mem_zip hx).1) (by omega) (by omega))) (ee_mulW (ee_var 10) (ee_var 12) (mulW b2 (b5 _ (List.of_mem_zip hx).2) (by omega) (by omega)))))) ?_
        refine ss_unpack (d := lsD (stepF p st k)) ((ee_callD T_lessened (eas_cons (ee_mulW (ee_var 9) (ee_var 3) (mulW b1 b7 (by omega) (by omega))) (eas_cons (ee_var 4) (eas_cons (ee_var 5) (eas_cons (ee_var 2) eas_nil)))) (⟨_, _, _, p, rfl, hP.h0, by simp; omega, by simp; omega, fun hz => ⟨?_, ?_⟩, ?_⟩))) (pg_tup rfl (pgs_cons (pg_name (i := 3) nd rfl (by first | exact Or.inl rfl | exact Or.inr rfl)) (pgs_cons (pg_name (i := 4) nd rfl (by first | exact Or.inl rfl | exact Or.inr rfl)) (pgs_cons (pg_name (i := 5) nd rfl (by first | exact Or.inl rfl | exact Or.inr rfl)) pgs_nil)))) (tg_three 3 4 5) (ss_end (by repeat' (first | exact True.intro | exact Or.inl rfl | exact Or.inr rfl | apply And.intro)))
        · intro z
          rcases Int.mul_eq_zero.mp z with z | z
          · exact G.nz (by rw [z]; exact Int.dvd_zero p)
          · exact L1.sc (by rw [z]; exact Int.dvd_zero p)
        · rw [Int.natAbs_mul]
          have : (gl k.2.1 k.2.2).natAbs * st.1.natAbs < 2 ^ 4095 * 2 ^ 4095 := Nat.mul_lt_mul'' b1 b7
          rw [← Nat.pow_add] at this
          exact Nat.lt_of_lt_of_le this (Nat.pow_le_pow_right (by omega) (by omega))
        · unfold stepF
          rw [if_neg hne]
      · have he : gl st.2.2 k.2.2 = 0 := by simpa using hk0
        unfold stepF
        rw [if_pos he]
        exact (by repeat' (first | exact True.intro | exact Or.inl rfl | exact Or.inr rfl | apply And.intro))
    · exact ss_ret (ee_tup (ea_cons (ee_var 3) (ea_cons (ee_var 4) (ea_cons (ee_var 5) ea_nil)))) fun v H' h => h
end Tf
end
section
set_option maxHeartbeats 4000000
namespace Tf
open PySem PySem.Spec PyProof.Rows L2
variable {P : Program} {w : World} {K : PySem.W.Frag} {mg : Str → Option Value} {base : Heap}
def nD (i : Nat) : D := .int (i : Int)
abbrev tN (l : List Nat) : D := .tuple (l.map nD)
theorem nDs (l : List Nat) : l.map nD = (l.map fun (i : Nat) => (i : Int)).map PyData.int := by rw [List.map_map]; rfl
def fnD (f : Int × List Int) : D := .tuple [.int f.1, lI f.2]
def smD (f : Int × List Int) : D := .tuple [.int f.1, tI f.2]
def ppD (rows cols : List Nat) (sums : List (Int × List Int)) : D := .tuple [tN rows, tN cols, .tuple (sums.map smD)]
def paperD (st : RS) : D := ppD st.rows (srt st.cols) (sumsF st)
def rnext (st : RS) (R : LS) (i : Nat) (sp : List Nat) : RS := match sp with
  | [] => { st with found := st.found ++ [(R.1, R.2.1)] }
  | s :: _ => ⟨st.rows ++ [i], st.cols ++ [s], st.known ++ [(R.2.1.map (fun o => 0 - o) ++ [R.1], R.2.2, s)], st.found ++ [(1, List.replicate st.known.length 0 ++ [1])]⟩
/-! ### ranked: slots 0 table, 1 p, 2 rows, 3 cols, 4 known, 5 found, 6 number, 7 row, 8 scale, 9 counts, 10 left, 11 spots, 12 k, 13 one, 14 sums -/
theorem sc_ranked : FnScope ["table", "p", "rows", "cols", "known", "found", "number", "row", "scale", "counts", "left", "spots", "k", "one", "sums"] ["table", "p"] (defScope (top 4)) := ⟨rfl, rfl, rfl, by decide +kernel, rfl, by decide +kernel, by decide +kernel⟩
def R_ranked (ss : List Sl) (d : D) : Prop := ∃ (t : List (List Int)) (p : Int) (n : Nat), ss = [.val (tT t), .val (.int p)] ∧ Pr p t.length ∧ Tab n t ∧ t.length ≤ 100 ∧ n ≤ 100 ∧ d = paperD (rankedF p t)
theorem def_ranked (T : Txt K mg) (T_led_down : Def P w K mg base 3 "led_down" ["row", "known", "p"] R_led_down) (S : Std K mg "ranked" "ranked" 4) : Def P w K mg base 4 "ranked" ["table", "p"] R_ranked :=
  def_of S sc_ranked (by rintro _ _ ⟨_, _, _, rfl, _⟩; rfl) (fun _ _ _ _ _ _ us hl => match us, hl with | [_, _], _ => rfl) fun f cdv A outer sh H E W ss d hr hR => by
    obtain ⟨t, p, n, rfl, hP, hT, hm1, hn1, rfl⟩ := hR
    have nd := sc_ranked.nd
    have L := ranked_ok hP.hp hP.h0 hT
    refine ss_new' 2 (en_lst ea_nil) ?_
    refine ss_new' 3 (en_lst ea_nil) ?_
    refine ss_new' 4 (en_lst ea_nil) ?_
    refine ss_new' 5 (en_lst ea_nil) ?_
    refine ss_forE (fun (pre : List (List Int × Nat)) => [(.val (tT t)), (.val (.int p)), (.lst ((pre.foldl (rstep p) rs0).rows.map nD)), (.lst ((pre.foldl (rstep p) rs0).cols.map nD)), (.lst ((pre.foldl (rstep p) rs0).known.map knD)), (.lst ((pre.foldl (rstep p) rs0).found.map fnD)), .any, .any, .any, .any, .any, .any, .any, .any, .any]) ((ei_enumT T.enumerate (ee_var 0)).eq (enD_map _ _)) (pg_tup rfl (pgs_cons (pg_name (i := 6) nd rfl (by first | exact Or.inl rfl | exact Or.inr rfl)) (pgs_cons (pg_name (i := 7) nd rfl (by first | exact Or.inl rfl | exact Or.inr rfl)) pgs_nil))) (fun x _ => (tg_two 6 7)) (by repeat' (first | exact True.intro | exact Or.inl rfl | exact Or.inr rfl | apply And.intro)) (fun pre x post hx => ?_) ?_
    · have hpre : t.zipIdx.take pre.length = pre := by rw [hx, List.take_left']; rfl
      have hlt : pre.length < t.length := by
        have := congrArg List.length hx
        rw [List.length_zipIdx, List.length_append, List.length_cons] at this
        omega
      have hx1 : t.zipIdx[pre.length]? = some x := by rw [hx, List.getElem?_append_right (Nat.le_refl _), Nat.sub_self]; rfl
      obtain ⟨r, g1, g2, g3, g4⟩ := hT.get hlt
      have hx2 : x = (r, pre.length) := by
        rw [List.getElem?_zipIdx, g1] at hx1
        simpa using hx1.symm
      subst hx2
      have I := L pre.length (by omega)
      rw [hpre] at I
      rw [List.foldl_append, List.foldl_cons, List.foldl_nil]
      generalize hst : pre.foldl (rstep p) rs0 = st at I ⊢
      have hl7 : ∀ x, (gl r x).natAbs < 2 ^ 7 := fun x => by
        have := g4 x
        have : (2 : Nat) ^ 7 = 128 := by decide
        omega
      have lk := I.lk
      have lc := I.lc
      have lf := I.lf
      have lr : st.rows.length ≤ t.length := by
        have h1 := (I.paper hP.hp).le hP.hp
        omega
      obtain ⟨L1, Z1⟩ := ledF_ok hP.hp hP.h0 I.kn (a := fun x => gl r x) g2 (fun _ _ => rfl) hl7
      have hstep : rstep p st (r, pre.length) = rnext st (ledF p r st.known) pre.length (spotsF (ledF p r st.known).2.2) := rfl
      rw [hstep]
      refine ss_unpack (d := lsD (ledF p r st.known)) ((ee_callD T_led_down (eas_cons (ee_var 7) (eas_lst 4 (eas_cons (ee_var 1) eas_nil))) (⟨r, st.known, p, n, t.length, _, rfl, hP, by omega, hm1, hn1, I.kn, g2, hl7, rfl⟩))) (pg_tup rfl (pgs_cons (pg_name (i := 8) nd rfl (by first | exact Or.inl rfl | exact Or.inr rfl)) (pgs_cons (pg_name (i := 9) nd rfl (by first | exact Or.inl rfl | exact Or.inr rfl)) (pgs_cons (pg_name (i := 10) nd rfl (by first | exact Or.inl rfl | exact Or.inr rfl)) pgs_nil)))) (tg_three 8 9 10) ?_
      generalize hR : ledF p r st.known = R at L1 ⊢
      have lcl := L1.cl
      have lll := L1.ll
      have hsp : (spotsF R.2.2).map nD = ((R.2.2.zipIdx.filter fun x => !decide (x.1 = 0)).map fun x => (x.2 : Int)).map PyData.int := by
        unfold spotsF
        rw [List.map_map, List.map_map]
        rfl
      refine (ss_lcGM (en2 := PyData.int) 11 (own := [("k", 12), ("one", 13)]) (g := (gTup K 2 (gCons (gName 12) (gCons (gName 13) gNil)))) (js := [12, 13]) rfl nd (blkOk_by (by kernel_rfl)) ((ei_enum T.enumerate (ee_var 10)).eq (enD_map _ _)).m ((by simp; omega)) (fun _ _ _ _ _ => (pg_tup rfl (pgs_cons (pg_name (i := 12) nd rfl (by first | exact Or.inl rfl | exact Or.inr rfl)) (pgs_cons (pg_name (i := 13) nd rfl (by first | exact Or.inl rfl | exact Or.inr rfl)) pgs_nil)))) (fun x hx => (tg_two 12 13)) (by decide) (fun x hx _ _ _ _ _ => ets_one (cd_neI.et (ee_var 13) ee_int)) (fun x hx hc _ _ _ _ _ => (ee_var 12))) ?_
      rw [← hsp]
      generalize hS : spotsF R.2.2 = sp
      refine ss_if (env2 := [(.val (tT t)), (.val (.int p)), (.lst ((rnext st R pre.length sp).rows.map nD)), (.lst ((rnext st R pre.length sp).cols.map nD)), (.lst ((rnext st R pre.length sp).known.map knD)), (.lst ((rnext st R pre.length sp).found.map fnD)), .any, .any, .any, .any, .any, .any, .any, .any, .any]) (k := sp.isEmpty) ((((cd_eqD ((show SeqAt.shaped (.list (sp.map nD)) = true by rw [nDs]; exact (sh_lI _).ok)) (sh_nilL.ok) (hu_of64 hr)).et (ee_var 11) (ee_lst ea_nil))).eq (by rw [eqv_nilL, List.isEmpty_map])) (fun hk0 => ?_) (fun hk0 => ?_) (ss_end (by repeat' (first | exact True.intro | exact Or.inl rfl | exact Or.inr rfl | apply And.intro)))
      · cases sp with
        | cons _ _ => cases hk0
        | nil =>
          refine ss_append 5 (ee_tup (ea_cons (ee_var 8) (ea_cons (ee_var 9) ea_nil))) ?_ (ss_end ?_)
          · simp; omega
          simp only [rnext, List.map_append, List.map_cons, List.map_nil, knD, fnD, nD, lI, rep_zero, List.length_map]
          exact (by repeat' (first | exact True.intro | exact Or.inl rfl | exact Or.inr rfl | apply And.intro))
      · cases sp with
        | nil => cases hk0
        | cons s sps =>
          have hs2 := (spots_cons hS).1
          refine ss_append 5 ((ee_tup (ea_cons ee_int (ea_cons (ee_cat ((ee_rep ((ee_lst (ea_cons ee_int ea_nil))).el (ee_lenL T.len (el_var 4)) (by first | assumption | omega | decide | (simp; omega) | (simp; done)) (by first | assumption | omega | decide | (simp; omega) | (simp; done)) (by first | assumption | omega | decide | (simp; omega) | (simp; done)))).el ((ee_lst (ea_cons ee_int ea_nil))).el (by first | assumption | omega | decide | (simp; omega) | (simp; done))) ea_nil)))) ?_ ?_
          · simp; omega
          refine ss_append 4 ((ee_tup (ea_cons (ee_cat ((ee_lcM (en2 := PyData.int)  (own := [("one", 13)]) (g := (gName 13)) (js := [13]) rfl nd (blkOk_by (by kernel_rfl)) (ei_list (ee_var 9)).m (by first | assumption | omega | decide | (simp; omega) | (simp; done)) (fun _ _ _ _ _ => (pg_name (i := 13) nd rfl (by first | exact Or.inl rfl | exact Or.inr rfl))) (fun x hx => (tg_name 13)) (by decide) (fun x hx _ _ _ _ _ => (ee_sub ee_int (ee_var 13))))).el ((ee_lst (ea_cons (ee_var 8) ea_nil))).el (by first | assumption | omega | decide | (simp; omega) | (simp; done))) (ea_cons (ee_var 10) (ea_cons (ee_ixL ((ee_var 11)).el ee_int ((atMi (k := 0) rfl rfl : atI (((s :: sps).map nD)) 0 = some (nD s)))) ea_nil))))) ?_ ?_
          · simp; omega
          refine ss_append 2 (ee_var 6) ?_ ?_
          · simp; omega
          refine ss_append 3 ((ee_ixL ((ee_var 11)).el ee_int ((atMi (k := 0) rfl rfl : atI (((s :: sps).map nD)) 0 = some (nD s))))) ?_ (ss_end ?_)
          · simp; omega
          simp only [rnext, List.map_append, List.map_cons, List.map_nil, knD, fnD, nD, lI, rep_zero, List.length_map]
          exact (by repeat' (first | exact True.intro | exact Or.inl rfl | exact Or.inr rfl | apply And.intro))
    · have I := L t.length (Nat.le_refl _)
      rw [show t.zipIdx.take t.length = t.zipIdx from List.take_of_length_le (by rw [List.length_zipIdx]; omega)] at I
      have e : t.zipIdx.foldl (rstep p) rs0 = rankedF p t := rfl
      rw [e] at I ⊢
      generalize rankedF p t = st at I
      have lf := I.lf
      have lr : st.rows.length ≤ t.length := ((I.paper hP.hp).le hP.hp).1
      have hf : ∀ f ∈ st.found, f.2.length ≤ st.rows.length := fun f h => by
        obtain ⟨i, hi, q⟩ := List.getElem_of_mem h
        exact (I.fnd i f (by rw [List.getElem?_eq_getElem hi, q])).2.1
      refine (ss_lc 14 (own := [("scale", 8), ("counts", 9)]) (g := (gTup K 2 (gCons (gName 8) (gCons (gName 9) gNil)))) (js := [8, 9]) rfl nd (blkOk_by (by kernel_rfl)) (em_list (el_var 5)) (by first | assumption | omega | decide | (simp; omega) | (simp; done)) (fun _ _ _ _ _ => (pg_tup rfl (pgs_cons (pg_name (i := 8) nd rfl (by first | exact Or.inl rfl | exact Or.inr rfl)) (pgs_cons (pg_name (i := 9) nd rfl (by first | exact Or.inl rfl | exact Or.inr rfl)) pgs_nil)))) (fun x hx => (tg_two 8 9)) (by decide) (fun x hx _ _ _ _ _ => (ee_tup (ea_cons (ee_var 8) (ea_cons (ee_tupleL T.tuple ((ee_cat ((ee_var 9)).el ((ee_rep ((ee_lst (ea_cons ee_int ea_nil))).el (ee_sub (ee_lenL T.len (el_var 2)) (ee_lenL T.len ((ee_var 9)).el)) ((by have := hf _ hx; simp; omega)) ((by have := hf _ hx; simp; omega)) ((by have := hf _ hx; simp; omega)))).el ((by have := hf _ hx; simp; omega)))).el) ea_nil))))) ?_
      refine ss_ret (((ee_tup (ea_cons (ee_tupleL T.tuple (el_var 2)) (ea_cons (ee_tupleL T.tuple ((ee_sorted T.sorted ((el_var 3).eq (nDs _)))).el) (ea_cons (ee_tupleL T.tuple ((ee_var 14)).el) ea_nil))))).eq ?_) fun v H' h => h
      show PyData.tuple [_, .tuple ((sortI _).map PyData.int), _] = ppD _ _ _
      unfold ppD sumsF
      rw [show sortI (st.cols.map fun (i : Nat) => (i : Int)) = (srt st.cols).map fun (i : Nat) => (i : Int) from (srt_eq _).symm, ← nDs, List.map_map]
      refine congrArg (fun z => PyData.tuple [tN st.rows, tN (srt st.cols), .tuple z]) (List.map_congr_left fun f hf' => ?_)
      have := hf f hf'
      show PyData.tuple [.int f.1, .tuple (f.2.map PyData.int ++ (List.replicate _ [PyData.int 0]).flatten)] = .tuple [.int f.1, tI (f.2 ++ List.replicate (st.rows.length - f.2.length) 0)]
      rw [show ((((st.rows.map nD).length : Nat) : Int) - (((f.2.map PyData.int).length : Nat) : Int)) = ((st.rows.length - f.2.length : Nat) : Int) by simp; omega, rep_zero, ← List.map_append]
end Tf
end
section
set_option maxHeartbeats 4000000
namespace Tf
open PySem PySem.Spec PyProof.Rows L2
variable {P : Program} {w : World} {K : PySem.W.Frag} {mg : Str → Option Value} {base : Heap}
theorem ee_neg {X : Cx} {F : Fc} {env : List Sl} {a : Expr} {pos : Pos} {i : Int} (ha : EE X F env a (.int i)) : EE X F env (.UnaryOp .USub a pos) (.int (-i)) := fun W σ H Q A q =>
  sE_of (pe_un un_neg pe_s) (ha W σ H _ A fun v H' e r => ⟨i, dp_int_inv r, q _ H' e (.int _)⟩)
theorem cut_map {α β : Type} (f : α → β) (l : List α) (lo hi : Option Int) : cutD (l.map f) lo hi = (cutD l lo hi).map f := by
  unfold cutD
  rw [List.length_map, ← List.map_drop, ← List.map_take]
theorem cut_last {α : Type} (l : List α) : cutD l none (some (-1)) = l.dropLast := by
  unfold cutD
  have h : HT.sIx l.length l.length (some (-1)) = l.length - 1 := by
    show (if (-1 : Int) < 0 then ((-1 : Int) + (l.length : Int)).toNat else min (-1 : Int).toNat l.length) = _
    rw [if_pos (by omega)]; omega
  rw [h, List.dropLast_eq_take]
  rfl
theorem cut_one {α : Type} (l : List α) : cutD l (some 1) none = l.drop 1 := by
  unfold cutD
  have h : HT.sIx l.length 0 (some 1) = min 1 l.length := HT.sIx_nat l.length 0 1
  rw [h]
  show (l.drop (min 1 l.length)).take (l.length - min 1 l.length) = _
  rw [List.take_of_length_le (by rw [List.length_drop]; omega)]
  by_cases h2 : 1 ≤ l.length
  · rw [Nat.min_eq_left h2]
  · rw [Nat.min_eq_right (by omega), List.drop_eq_nil_of_le (by omega), List.drop_eq_nil_of_le (by omega)]
theorem cut_to {α : Type} (l : List α) (k : Nat) : cutD l none (some (k : Int)) = l.take k := by
  unfold cutD
  rw [HT.sIx_nat]
  show (l.drop 0).take (min k l.length - 0) = _
  rw [List.drop_zero, Nat.sub_zero]
  by_cases h : k ≤ l.length
  · rw [Nat.min_eq_left h]
  · rw [Nat.min_eq_right (by omega), List.take_of_length_le (Nat.le_refl _), List.take_of_length_le (by omega)]
/-! ### is_table: slots 0 thing, 1 row -/
theorem sc_is_table : FnScope ["thing", "row"] ["thing"] (defScope (top 24)) := ⟨rfl, rfl, rfl, by decide +kernel, rfl, by decide +kernel, by decide +kernel⟩
def R_is_table (ss : List Sl) (d : D) : Prop := ∃ (t : List (List Int)) (n : Nat), ss = [.val (tT t)] ∧ Tab n t ∧ t ≠ [] ∧ 0 < n ∧ n ≤ 100 ∧ t.length ≤ 100 ∧ d = .bool true
theorem all_true {l : List Bool} (h : ∀ b ∈ l, b = true) : l.all id = true := List.all_eq_true.mpr fun b hb => h b hb
theorem def_is_table (T : Txt K mg) (T_are_answers : Def P w K mg base 3 "are_answers" ["thing"] R_are_answers) (S : Std K mg "is_table" "is_table" 24) : Def P w K mg base 4 "is_table" ["thing"] R_is_table :=
  def_of S sc_is_table (by rintro _ _ ⟨_, _, rfl, _⟩; rfl) (fun _ _ _ _ _ _ us hl => match us, hl with | [_], _ => rfl) fun f cdv A outer sh H E W ss d hr hR => by
    obtain ⟨t, n, rfl, hT, hne, hn0, hn, hm, rfl⟩ := hR
    have nd := sc_is_table.nd
    obtain ⟨r0, h0, g2, _, _⟩ := hT.get (i := 0) (by cases t with | nil => exact absurd rfl hne | cons _ _ => simp)
    have hrow : ∀ r ∈ t, r.length = n := hT.len
    refine ss_ifR ((ew_or (et_not (et_val (ee_isi (n := "tuple") (c := true) T.isinstance T.tuple (by decide +kernel) (ee_var 0) (by kernel_rfl)))) (fun hT => (ew_or (cd_eqI.et (ee_lenT T.len (ee_var 0)) ee_int) (fun hT => (ew_or1 (et_not (et_val (ee_all T.all rfl ((ee_lcM (en2 := PyData.bool)  (own := [("row", 1)]) (g := (gName 1)) (js := [1]) rfl nd (blkOk_by (by kernel_rfl)) (ei_tup (ee_var 0)).m (by first | assumption | omega | decide | (simp; omega) | (simp; done)) (fun _ _ _ _ _ => (pg_name (i := 1) nd rfl (by first | exact Or.inl rfl | exact Or.inr rfl))) (fun x hx => (tg_name 1)) (by decide) (fun x hx _ _ _ _ _ => (ee_callD T_are_answers (eas_cons (ee_var 1) eas_nil) (⟨x, rfl, by rw [hrow _ hx]; exact hn, rfl⟩))))).el)))))))).et) (fun hk => ?_) fun hk => ?_
    · exfalso
      have e1 : decide (((t.map tI).length : Int) = 0) = false := decide_eq_false (by cases t with | nil => exact absurd rfl hne | cons _ _ => simp; omega)
      rw [e1] at hk
      simp only [Bool.not_true, Bool.false_or, Bool.not_eq_true'] at hk
      rw [all_true fun b hb => ?_] at hk
      · cases hk
      · obtain ⟨r, hr1, rfl⟩ := List.mem_map.mp hb
        rw [hrow r hr1, decide_eq_true (by omega), Bool.true_and, List.all_eq_true]
        intro x hx
        have := hT.low r hr1 x hx
        rw [decide_eq_true this.1, decide_eq_true this.2]; rfl
    · refine ss_ret (((ee_all T.all rfl ((ee_lcM (en2 := PyData.bool)  (own := [("row", 1)]) (g := (gName 1)) (js := [1]) rfl nd (blkOk_by (by kernel_rfl)) (ei_tup (ee_var 0)).m (by first | assumption | omega | decide | (simp; omega) | (simp; done)) (fun _ _ _ _ _ => (pg_name (i := 1) nd rfl (by first | exact Or.inl rfl | exact Or.inr rfl))) (fun x hx => (tg_name 1)) (by decide) (fun x hx _ _ _ _ _ => (cd_eqI.ee (ee_lenT T.len (ee_var 1)) (ee_lenT T.len (ee_ixT (ee_var 0) ee_int ((show atI (t.map tI) 0 = some (tI r0) from atMi (k := 0) rfl h0)))))))).el)).eq ?_) fun v H' h => h
      rw [all_true fun b hb => ?_]
      obtain ⟨r, hr1, rfl⟩ := List.mem_map.mp hb
      rw [List.length_map, List.length_map, hrow r hr1, g2]
      exact decide_eq_true rfl
/-! ### are_whole: slots 0 thing, 1 many, 2 one -/
theorem sc_are_whole : FnScope ["thing", "many", "one"] ["thing", "many"] (defScope (top 96)) := ⟨rfl, rfl, rfl, by decide +kernel, rfl, by decide +kernel, by decide +kernel⟩
def R_are_whole (ss : List Sl) (d : D) : Prop := ∃ (l : List Int) (m : Int), ss = [.val (tI l), .val (.int m)] ∧ l.length ≤ 200 ∧ d = .bool (decide ((l.length : Int) = m))
theorem def_are_whole (T : Txt K mg) (T_is_whole_tables : Def P w K mg base 1 "is_whole_tables" ["thing"] R_is_whole) (S : Std K mg "are_whole" "are_whole" 96) : Def P w K mg base 2 "are_whole" ["thing", "many"] R_are_whole :=
  def_of S sc_are_whole (by rintro _ _ ⟨_, _, rfl, _⟩; rfl) (fun _ _ _ _ _ _ us hl => match us, hl with | [_, _], _ => rfl) fun f cdv A outer sh H E W ss d hr hR => by
    obtain ⟨l, m, rfl, hl, rfl⟩ := hR
    have nd := sc_are_whole.nd
    refine ss_ret (ee_and ((ee_isi (n := "tuple") (c := true) T.isinstance T.tuple (by decide +kernel) (ee_var 0) (by kernel_rfl))) (fun _ => ee_and ((cd_eqI.ee (ee_lenT T.len (ee_var 0)) (ee_var 1))) (fun hA => ee_one (((ee_all T.all rfl ((ee_lcM (en2 := PyData.bool)  (own := [("one", 2)]) (g := (gName 2)) (js := [2]) rfl nd (blkOk_by (by kernel_rfl)) (ei_tup (ee_var 0)).m (by first | assumption | omega | decide | (simp; omega) | (simp; done)) (fun _ _ _ _ _ => (pg_name (i := 2) nd rfl (by first | exact Or.inl rfl | exact Or.inr rfl))) (fun x hx => (tg_name 2)) (by decide) (fun x hx _ _ _ _ _ => (ee_callD T_is_whole_tables (eas_cons (ee_var 2) eas_nil) (by first | assumption | exact ⟨_, rfl, rfl⟩ | exact ⟨_, _, rfl, rfl⟩))))).el)).eq ?_)) ?_) (fun hA => absurd hA (by decide))) fun v H' h => h
    · rw [all_true fun b hb => by obtain ⟨_, _, rfl⟩ := List.mem_map.mp hb; rfl]
      rw [List.length_map] at hA
      rw [hA]
    · intro hA
      rw [List.length_map] at hA
      rw [hA]
/-! ### are_places: slots 0 thing, 1 most, 2 one, 3 other -/
theorem sc_are_places : FnScope ["thing", "most", "one", "other"] ["thing", "most"] (defScope (top 97)) := ⟨rfl, rfl, rfl, by decide +kernel, rfl, by decide +kernel, by decide +kernel⟩
def R_are_places (ss : List Sl) (d : D) : Prop := ∃ (l : List Nat) (m : Nat), ss = [.val (tN l), .val (.int m)] ∧ l.length ≤ 200 ∧ (∀ a b, a < b → b < l.length → gn l a < gn l b) ∧ (∀ a, a < l.length → gn l a < m) ∧ d = .bool true
theorem def_are_places (T : Txt K mg) (T_is_whole_tables : Def P w K mg base 1 "is_whole_tables" ["thing"] R_is_whole) (S : Std K mg "are_places" "are_places" 97) : Def P w K mg base 2 "are_places" ["thing", "most"] R_are_places :=
  def_of S sc_are_places (by rintro _ _ ⟨_, _, rfl, _⟩; rfl) (fun _ _ _ _ _ _ us hl => match us, hl with | [_, _], _ => rfl) fun f cdv A outer sh H E W ss d hr hR => by
    obtain ⟨l, m, rfl, hl, ha, hm, rfl⟩ := hR
    have nd := sc_are_places.nd
    refine ss_ifR ((ew_or (et_not (et_val (ee_isi (n := "tuple") (c := true) T.isinstance T.tuple (by decide +kernel) (ee_var 0) (by kernel_rfl)))) (fun hT => (ew_or1 (et_not (et_val (ee_all T.all rfl ((ee_lcM (en2 := PyData.bool)  (own := [("one", 2)]) (g := (gName 2)) (js := [2]) rfl nd (blkOk_by (by kernel_rfl)) (ei_tup (ee_var 0)).m (by first | assumption | omega | decide | (simp; omega) | (simp; done)) (fun _ _ _ _ _ => (pg_name (i := 2) nd rfl (by first | exact Or.inl rfl | exact Or.inr rfl))) (fun x hx => (tg_name 2)) (by decide) (fun x hx _ _ _ _ _ => (ee_and (ee_callD T_is_whole_tables (eas_cons (ee_var 2) eas_nil) (by first | assumption | exact ⟨_, rfl, rfl⟩ | exact ⟨_, _, rfl, rfl⟩)) (fun hA => (ee_one (ee_range ee_int (ee_var 2) (ee_var 1) op_lt))) (fun hA => by first | exact absurd hA (by decide) | (rw [hA]; rfl) | (simp [hA]; done)))))).el)))))).et) (fun hk => ?_) fun hk => ?_
    · exfalso
      simp only [Bool.not_true, Bool.false_or, Bool.not_eq_true'] at hk
      rw [all_true fun b hb => ?_] at hk
      · cases hk
      · obtain ⟨i, hi, rfl⟩ := List.mem_map.mp hb
        obtain ⟨a, h1, rfl⟩ := gn_mem hi
        have := hm a h1
        simp; omega
    · refine ss_ret (((ee_all T.all rfl ((ee_lcM (en2 := PyData.bool)  (own := [("one", 2), ("other", 3)]) (g := (gTup K 2 (gCons (gName 2) (gCons (gName 3) gNil)))) (js := [2, 3]) rfl nd (blkOk_by (by kernel_rfl)) ((ei_zipT T.zip (ee_slT (ee_var 0) eo_none (eo_some (ee_neg ee_int))) (ee_slT (ee_var 0) (eo_some ee_int) eo_none)).eq ((by rw [cut_map, cut_map]; exact zipD_map _ _ nD nD))).m ((by rw [cut_last, cut_one]; simp; omega)) (fun _ _ _ _ _ => (pg_tup rfl (pgs_cons (pg_name (i := 2) nd rfl (by first | exact Or.inl rfl | exact Or.inr rfl)) (pgs_cons (pg_name (i := 3) nd rfl (by first | exact Or.inl rfl | exact Or.inr rfl)) pgs_nil)))) (fun x hx => (tg_two 2 3)) (by decide) (fun x hx _ _ _ _ _ => (cd_lt.ee (ee_var 2) (ee_var 3))))).el)).eq ?_) fun v H' h => h
      rw [all_true fun b hb => ?_]
      obtain ⟨x, hx, rfl⟩ := List.mem_map.mp hb
      rw [cut_last, cut_one] at hx
      obtain ⟨i, hi⟩ := List.mem_iff_getElem?.mp hx
      rw [List.getElem?_zip_eq_some] at hi
      obtain ⟨h1, h2⟩ := hi
      rw [List.getElem?_drop] at h2
      have h3 := (List.getElem?_eq_some_iff.mp h2).1
      have h4 : l[i]? = some x.1 := by
        rw [List.dropLast_eq_take, List.getElem?_take] at h1
        split at h1
        · exact h1
        · cases h1
      have := ha i (1 + i) (by omega) h3
      rw [gn_some h4, gn_some h2] at this
      exact decide_eq_true (by omega)
/-! ### is_nought: slots 0 number, 1 p -/
theorem sc_is_nought : FnScope ["number", "p"] ["number", "p"] (defScope (top 98)) := ⟨rfl, rfl, rfl, by decide +kernel, rfl, by decide +kernel, by decide +kernel⟩
def R_is_nought (ss : List Sl) (d : D) : Prop := ∃ (x p : Int), ss = [.val (.int x), .val (.int p)] ∧ 0 ≤ p ∧ d = .bool (decide (p ∣ x))
theorem def_is_nought (T : Txt K mg) (S : Std K mg "is_nought" "is_nought" 98) : Def P w K mg base 1 "is_nought" ["number", "p"] R_is_nought :=
  def_of S sc_is_nought (by rintro _ _ ⟨_, _, rfl, _⟩; rfl) (fun _ _ _ _ _ _ us hl => match us, hl with | [_, _], _ => rfl) fun f cdv A outer sh H E W ss d hr hR => by
    obtain ⟨x, p, rfl, h0, rfl⟩ := hR
    have nd := sc_is_nought.nd
    refine ss_ifR (cd_eqI.et (ee_var 1) ee_int) (fun hk => ?_) fun hk => ?_
    · have hp : p = 0 := of_decide_eq_true hk
      subst hp
      refine ss_ret (((cd_eqI.ee (ee_var 0) ee_int)).eq ?_) fun v H' h => h
      rw [decide_eq_decide.mpr (Int.zero_dvd (n := x)).symm]
    · have hp : p ≠ 0 := of_decide_eq_false hk
      have hp : 0 < p := by omega
      refine ss_ret (((cd_eqI.ee (ee_mod (ee_var 0) (ee_var 1) (by first | assumption | omega | decide | (simp; omega) | (simp; done))) ee_int)).eq ?_) fun v H' h => h
      rw [decide_eq_decide.mpr (Int.dvd_iff_emod_eq_zero (a := p) (b := x)).symm]
/-! ### makes: slots 0 row, 1 rows, 2 p, 3 thing, 4 often, 5 some, 6 k, 7 answer, 8 taken, 9 one, 10 other -/
theorem sc_makes : FnScope ["row", "rows", "p", "thing", "often", "some", "k", "answer", "taken", "one", "other"] ["row", "rows", "p", "thing"] (defScope (top 99)) := ⟨rfl, rfl, rfl, by decide +kernel, rfl, by decide +kernel, by decide +kernel⟩
def mkOk (r : List Int) (rs : List (List Int)) (p : Int) (f : Int × List Int) (x : Int × Nat) : Bool := decide (p ∣ f.1 * x.1 - ((f.2.zip rs).map fun y => y.1 * gl y.2 x.2).sum)
def makesF (r : List Int) (rs : List (List Int)) (p : Int) (f : Int × List Int) : Bool := !decide (p ∣ f.1) && r.zipIdx.all (mkOk r rs p f)
def R_makes (ss : List Sl) (d : D) : Prop := ∃ (r : List Int) (rs : List (List Int)) (p : Int) (f : Int × List Int) (n : Nat), ss = [.val (tI r), .val (lT rs), .val (.int p), .val (smD f)] ∧ 0 ≤ p ∧ f.2.length = rs.length ∧ (∀ q ∈ rs, q.length = n) ∧ r.length = n ∧ n ≤ 200 ∧ rs.length ≤ 200 ∧
  f.1.natAbs < 2 ^ 4095 ∧ (∀ x ∈ f.2, x.natAbs < 2 ^ 4095) ∧ (∀ x ∈ r, x.natAbs < 2 ^ 4095) ∧ (∀ q ∈ rs, ∀ i, (gl q i).natAbs < 2 ^ 4095) ∧ d = .bool (makesF r rs p f)
theorem def_makes (T : Txt K mg) (T_is_whole_tables : Def P w K mg base 1 "is_whole_tables" ["thing"] R_is_whole) (T_are_whole : Def P w K mg base 2 "are_whole" ["thing", "many"] R_are_whole) (T_is_nought : Def P w K mg base 1 "is_nought" ["number", "p"] R_is_nought) (S : Std K mg "makes" "makes" 99) : Def P w K mg base 3 "makes" ["row", "rows", "p", "thing"] R_makes :=
  def_of S sc_makes (by rintro _ _ ⟨_, _, _, _, _, rfl, _⟩; rfl) (fun _ _ _ _ _ _ us hl => match us, hl with | [_, _, _, _], _ => rfl) fun f cdv A outer sh H E W ss d hr hR => by
    obtain ⟨r, rs, p, f, n, rfl, h0, hl, hq, hr1, hn, hrs, b1, b2, b3, b4, rfl⟩ := hR
    have nd := sc_makes.nd
    refine ss_ifR ((ew_or (et_not (et_val (ee_isi (n := "tuple") (c := true) T.isinstance T.tuple (by decide +kernel) (ee_var 3) (by kernel_rfl)))) (fun hT => (ew_or (cd_neI.et (ee_lenT T.len (ee_var 3)) ee_int) (fun hT => (ew_or (et_not (et_val (ee_callD T_is_whole_tables (eas_cons (ee_ixT (ee_var 3) ee_int ((rfl : atI [PyData.int f.1, tI f.2] 0 = some (.int f.1)))) eas_nil) (⟨f.1, rfl, rfl⟩)))) (fun hT => (ew_or1 (et_not (et_val (ee_callD T_are_whole (eas_cons (ee_ixT (ee_var 3) ee_int ((rfl : atI [PyData.int f.1, tI f.2] 1 = some (tI f.2)))) (eas_cons (ee_lenL T.len ((ee_var 1)).el) eas_nil)) (⟨f.2, _, rfl, by omega, rfl⟩))))))))))).et) (fun hk => ?_) fun hk => ?_
    · exfalso
      rw [List.length_map, hl] at hk
      simp at hk
    · refine ss_unpack (d := .tuple [.int f.1, tI f.2]) (ee_var 3) (pg_tup rfl (pgs_cons (pg_name (i := 4) nd rfl (by first | exact Or.inl rfl | exact Or.inr rfl)) (pgs_cons (pg_name (i := 5) nd rfl (by first | exact Or.inl rfl | exact Or.inr rfl)) pgs_nil))) (tg_two 4 5) ?_
      refine ss_ifR ((et_val (ee_callD T_is_nought (eas_cons (ee_var 4) (eas_cons (ee_var 2) eas_nil)) (⟨f.1, p, rfl, h0, rfl⟩)))) (fun hk1 => ?_) fun hk1 => ?_
      · refine ss_ret ee_bl fun v H' h => ?_
        unfold makesF
        rw [hk1]
        exact h
      · unfold makesF
        rw [hk1, Bool.not_false, Bool.true_and]
        refine ss_for (fun (pre : List (Int × Nat)) (_ : Unit) => pre.all (mkOk r rs p f) = true) (fun _ _ => [(.val (tI r)), (.val (lT rs)), (.val (.int p)), (.val (smD f)), (.val (.int f.1)), (.val (tI f.2)), .any, .any, .any, .any, .any]) ((ei_enumT T.enumerate (ee_var 0)).eq (enD_map _ _)) (pg_tup rfl (pgs_cons (pg_name (i := 6) nd rfl (by first | exact Or.inl rfl | exact Or.inr rfl)) (pgs_cons (pg_name (i := 7) nd rfl (by first | exact Or.inl rfl | exact Or.inr rfl)) pgs_nil))) (fun x _ => (tg_two 6 7)) ⟨(), rfl, (by repeat' (first | exact True.intro | exact Or.inl rfl | exact Or.inr rfl | apply And.intro))⟩ (fun pre x post i hx hp => ?_) (fun i hp => ?_)
        · have hk2 : x.2 < n := by
            have h1 : r.zipIdx[pre.length]? = some x := by rw [hx, List.getElem?_append_right (Nat.le_refl _), Nat.sub_self]; rfl
            rw [List.getElem?_zipIdx] at h1
            cases h2 : r[pre.length]? with
            | none => rw [h2] at h1; cases h1
            | some y =>
              rw [h2] at h1
              have h3 := (List.getElem?_eq_some_iff.mp h2).1
              cases h1
              simp; omega
          have hx1 : x.1 ∈ r := by
            have h1 : x ∈ r.zipIdx := by rw [hx]; simp
            exact List.fst_mem_of_mem_zipIdx h1
          refine ss_asg 8 ((ee_sum T.sum rfl ((ee_lcM (en2 := PyData.int)  (own := [("one", 9), ("other", 10)]) (g := (gTup K 2 (gCons (gName 9) (gCons (gName 10) gNil)))) (js := [9, 10]) rfl nd (blkOk_by (by kernel_rfl)) ((ei_zipTL T.zip (ee_var 5) (ee_var 1)).eq (zipD_map _ _ _ _)).m ((by simp; omega)) (fun _ _ _ _ _ => (pg_tup rfl (pgs_cons (pg_name (i := 9) nd rfl (by first | exact Or.inl rfl | exact Or.inr rfl)) (pgs_cons (pg_name (i := 10) nd rfl (by first | exact Or.inl rfl | exact Or.inr rfl)) pgs_nil)))) (fun x hx => (tg_two 9 10)) (by decide) (fun x hx _ _ _ _ _ => (ee_mulW (ee_var 9) (ee_ixT (ee_var 10) (ee_var 6) (at_gl (by rw [hq _ (List.of_mem_zip hx).2]; exact hk2))) (mulW (b2 _ (List.of_mem_zip hx).1) (b4 _ (List.of_mem_zip hx).2 _) (by omega) (by omega)))))).el)) ?_
          refine ss_ifR ((et_not (et_val (ee_callD T_is_nought (eas_cons (ee_sub (ee_mulW (ee_var 4) (ee_var 7) (mulW b1 (b3 _ hx1) (by omega) (by omega))) (ee_var 8)) (eas_cons (ee_var 2) eas_nil)) (⟨_, p, rfl, h0, rfl⟩))))) (fun hk3 => ?_) fun hk3 => ?_
          · refine ss_ret ee_bl fun v H' h => ?_
            have e1 : r.zipIdx.all (mkOk r rs p f) = false := by
              rw [hx, List.all_append, List.all_cons]
              have : mkOk r rs p f x = false := by unfold mkOk; simpa using hk3
              rw [this]
              simp
            show Ret _ (.bool _) v H'
            rw [e1]
            exact h
          · refine ss_nil fun W σ H A => ⟨(), ?_, A.weak (by repeat' (first | exact True.intro | exact Or.inl rfl | exact Or.inr rfl | apply And.intro))⟩
            rw [List.all_append, hp, List.all_cons, List.all_nil, Bool.true_and, Bool.and_true]
            unfold mkOk
            simpa using hk3
        · refine ss_ret ee_bl fun v H' h => ?_
          rw [hp]
          exact h
end Tf
end
section
set_option maxHeartbeats 4000000
namespace Tf
open PySem PySem.Spec PyProof.Rows L2
variable {P : Program} {w : World} {K : PySem.W.Frag} {mg : Str → Option Value} {base : Heap}
theorem gt_get {t : List (List Int)} {n i : Nat} (h : ∀ r ∈ t, r.length = n) (hi : i < t.length) : ∃ r, t[i]? = some r ∧ r.length = n ∧ r ∈ t ∧ ∀ x, gt t i x = gl r x := by
  have e : t[i]? = some t[i] := List.getElem?_eq_getElem hi
  exact ⟨_, e, h _ (List.getElem_mem hi), List.getElem_mem hi, fun x => gt_some e⟩
/-! ### row_with: slots 0 rows, 1 at, 2 number -/
theorem sc_row_with : FnScope ["rows", "at", "number"] ["rows", "at"] (defScope (top 91)) := ⟨rfl, rfl, rfl, by decide +kernel, rfl, by decide +kernel, by decide +kernel⟩
def R_row_with (ss : List Sl) (d : D) : Prop := ∃ (rs : List (List Int)) (at_ n : Nat), ss = [.ro (rs.map lI), .val (.int at_)] ∧ rs.length ≤ 100 ∧ at_ ≤ rs.length ∧ at_ < n ∧ (∀ r ∈ rs, r.length = n) ∧
  ((∃ i : Nat, at_ ≤ i ∧ i < rs.length ∧ gt rs i at_ ≠ 0 ∧ (∀ j, at_ ≤ j → j < i → gt rs j at_ = 0) ∧ d = .int (i : Int)) ∨ ((∀ i, at_ ≤ i → i < rs.length → gt rs i at_ = 0) ∧ d = .none))
theorem def_row_with (T : Txt K mg) (S : Std K mg "row_with" "row_with" 91) : Def P w K mg base 1 "row_with" ["rows", "at"] R_row_with :=
  def_of S sc_row_with (by rintro _ _ ⟨_, _, _, rfl, _⟩; rfl) (fun _ _ _ _ _ _ us hl => match us, hl with | [_, _], _ => rfl) fun f cdv A outer sh H E W ss d hr hR => by
    obtain ⟨rs, at_, n, rfl, hm, ha, hn, hl, hd⟩ := hR
    have nd := sc_row_with.nd
    refine ss_for (fun (pre : List Nat) (_ : Unit) => ∀ i, i < pre.length → gt rs (at_ + i) at_ = 0) (fun _ _ => [(.ro (rs.map lI)), (.val (.int at_)), .any]) (ei_range2 T.range (ee_var 1) (ee_lenL T.len (el_ro 0)) (by first | assumption | omega | decide | (simp; omega) | (simp; done)) (by first | assumption | omega | decide | (simp; omega) | (simp; done)) (by first | assumption | omega | decide | (simp; omega) | (simp; done)) (by first | assumption | omega | decide | (simp; omega) | (simp; done))) (pg_name (i := 2) nd rfl (by first | exact Or.inl rfl | exact Or.inr rfl)) (fun x _ => (tg_name 2)) ⟨(), (by simp), (by repeat' (first | exact True.intro | exact Or.inl rfl | exact Or.inr rfl | apply And.intro))⟩ (fun pre x post i hx hp => ?_) (fun i hp => ?_)
    · have hlen : pre.length < rs.length - at_ := by
        have := congrArg List.length hx
        simp at this
        omega
      have hx1 : x = pre.length := by
        have h1 : (List.range ((((rs.map lI).length : Nat) : Int) - (at_ : Int)).toNat)[pre.length]? = some x := by rw [hx, List.getElem?_append_right (Nat.le_refl _), Nat.sub_self]; rfl
        rw [List.getElem?_range (by simp; omega)] at h1
        exact (Option.some.inj h1).symm
      subst hx1
      obtain ⟨r, g1, g2, g3, g4⟩ := gt_get hl (i := at_ + pre.length) (by omega)
      refine ss_ifR ((cd_neI.et (ee_ixL ((ee_ixL (el_ro 0) (ee_var 2) ((show atI (rs.map lI) ((at_ : Int) + (pre.length : Int)) = some (lI r) from atMi (k := at_ + pre.length) (by omega) g1)))).el (ee_var 1) ((show atI (r.map PyData.int) (at_ : Int) = some (.int (gl r at_)) from at_gl (by omega)))) ee_int)) (fun hk => ?_) fun hk => ?_
      · have hne : gt rs (at_ + pre.length) at_ ≠ 0 := by rw [g4]; simpa using hk
        rcases hd with ⟨i, h1, h2, h3, h4, rfl⟩ | ⟨h1, rfl⟩
        · have hi : at_ + pre.length = i := by
            rcases Nat.lt_trichotomy (at_ + pre.length) i with h | h | h
            · exact absurd (h4 _ (by omega) h) hne
            · exact h
            · have := hp (i - at_) (by omega)
              rw [show at_ + (i - at_) = i by omega] at this
              exact absurd this h3
          subst hi
          refine ss_ret (((ee_var 2)).eq ?_) fun v H' h => h
          rw [show ((at_ + pre.length : Nat) : Int) = (at_ : Int) + (pre.length : Int) by omega]
        · exact absurd (h1 _ (by omega) (by omega)) hne
      · have he : gt rs (at_ + pre.length) at_ = 0 := by rw [g4]; simpa using hk
        refine ss_nil fun W σ H A => ⟨(), fun i hi => ?_, A.weak (by repeat' (first | exact True.intro | exact Or.inl rfl | exact Or.inr rfl | apply And.intro))⟩
        rw [List.length_append, List.length_singleton] at hi
        by_cases e : i = pre.length
        · rw [e]; exact he
        · exact hp i (by omega)
    · refine ss_ret ee_non fun v H' h => ?_
      rcases hd with ⟨i, h1, h2, h3, h4, rfl⟩ | ⟨h1, rfl⟩
      · exfalso
        have := hp (i - at_) (by simp; omega)
        rw [show at_ + (i - at_) = i by omega] at this
        exact h3 this
      · exact h
/-! cleared_below -/
theorem ixn {n j : Nat} (hj : j < n) : ixN n (j : Int) = some j := by
  unfold ixN
  rw [if_pos (by omega), if_pos (by omega)]
  simp
def clrRow (rs : List (List Int)) (at_ : Nat) (D : Int) (r : List Int) : List Int := (r.zip (rs.getD at_ [])).map fun y => (y.1 * gl (rs.getD at_ []) at_ - y.2 * gl r at_).fdiv D
def clrK (rs : List (List Int)) (at_ : Nat) (D : Int) (k : Nat) : List (List Int) := rs.zipIdx.map fun x => if at_ < x.2 ∧ x.2 < at_ + 1 + k then clrRow rs at_ D x.1 else x.1
theorem clrK_len (rs : List (List Int)) (at_ : Nat) (D : Int) (k : Nat) : (clrK rs at_ D k).length = rs.length := by simp [clrK]
theorem clrK_get {rs : List (List Int)} {at_ : Nat} {D : Int} {k i : Nat} {r : List Int} (h : rs[i]? = some r) : (clrK rs at_ D k)[i]? = some (if at_ < i ∧ i < at_ + 1 + k then clrRow rs at_ D r else r) := by
  unfold clrK
  rw [List.getElem?_map, List.getElem?_zipIdx, h]
  simp
theorem clrK_zero (rs : List (List Int)) (at_ : Nat) (D : Int) : clrK rs at_ D 0 = rs := by
  refine List.ext_getElem? fun i => ?_
  cases h : rs[i]? with
  | none =>
    rw [List.getElem?_eq_none_iff] at h ⊢
    rw [clrK_len]; exact h
  | some r => rw [clrK_get h, if_neg (by omega)]
theorem clrK_succ {rs : List (List Int)} {at_ : Nat} {D : Int} {k : Nat} {r : List Int} (h : rs[at_ + 1 + k]? = some r) : (clrK rs at_ D k).set (at_ + 1 + k) (clrRow rs at_ D r) = clrK rs at_ D (k + 1) := by
  refine List.ext_getElem? fun i => ?_
  have hlt := (List.getElem?_eq_some_iff.mp h).1
  by_cases e : i = at_ + 1 + k
  · subst e
    rw [List.getElem?_set_self (by rw [clrK_len]; exact hlt), clrK_get h, if_pos (by omega)]
  · rw [List.getElem?_set_ne (fun z => e z.symm)]
    cases h2 : rs[i]? with
    | none =>
      rw [List.getElem?_eq_none_iff] at h2
      rw [List.getElem?_eq_none_iff.mpr (by rw [clrK_len]; exact h2), List.getElem?_eq_none_iff.mpr (by rw [clrK_len]; exact h2)]
    | some r2 =>
      rw [clrK_get h2, clrK_get h2]
      by_cases c : at_ < i ∧ i < at_ + 1 + k
      · rw [if_pos c, if_pos (by omega)]
      · rw [if_neg c, if_neg (by omega)]
theorem lI_inj {a b : List Int} (h : lI a = lI b) : a = b := by
  have h : PyData.list (a.map PyData.int) = PyData.list (b.map PyData.int) := h
  have h := PyData.list.inj h
  exact (List.map_inj_right (fun x y z => PyData.int.inj z)).mp h
theorem lIs_inj {a b : List (List Int)} (h : a.map lI = b.map lI) : a = b := (List.map_inj_right (fun x y z => lI_inj z)).mp h
/-! ### cleared_below: slots 0 rows, 1 at, 2 ahead, 3 first, 4 number, 5 row, 6 one, 7 other -/
theorem sc_cleared_below : FnScope ["rows", "at", "ahead", "first", "number", "row", "one", "other"] ["rows", "at", "ahead"] (defScope (top 92)) := ⟨rfl, rfl, rfl, by decide +kernel, rfl, by decide +kernel, by decide +kernel⟩
structure ClrOk (rs : List (List Int)) (at_ n : Nat) (D : Int) : Prop where
  m : rs.length ≤ 100
  n1 : n ≤ 100
  a : at_ < rs.length
  an : at_ < n
  l : ∀ r ∈ rs, r.length = n
  d0 : D ≠ 0
  d1 : D.natAbs < 2 ^ 4095
  b : ∀ i x, at_ ≤ i → i < rs.length → (gt rs i x).natAbs < 2 ^ 4095
def G_cleared (s0 : Sl) (ss : List Sl) : Prop := ∃ (l : Addr) (rs : List (List Int)) (at_ n : Nat) (D : Int), s0 = .own l (rs.map lI) ∧ ss = [.val (.int at_), .val (.int D)] ∧ ClrOk rs at_ n D
def R_cleared (s0 : Sl) (ss : List Sl) (r s1 : Sl) : Prop := ∃ (l : Addr) (rs : List (List Int)) (at_ : Nat) (D : Int), s0 = .own l (rs.map lI) ∧ ss = [.val (.int at_), .val (.int D)] ∧ r = .val .none ∧ s1 = .own l ((clrK rs at_ D (rs.length - (at_ + 1))).map lI)
theorem def_cleared_below (T : Txt K mg) (S : Std K mg "cleared_below" "cleared_below" 92) : DefM P w K mg base 1 "cleared_below" ["rows", "at", "ahead"] [] G_cleared R_cleared :=
  defM_of S sc_cleared_below (by rintro _ _ ⟨_, _, _, _, _, rfl, rfl, _⟩; rfl) (fun _ _ _ _ _ _ us hl => match us, hl with | [_, _, _], _ => rfl) fun f cdv A outer sh H E W s0 v0 ss hr nr ok0 hG => by
    obtain ⟨l, rs, at_, n, D, rfl, rfl, C⟩ := hG
    have nd := sc_cleared_below.nd
    obtain ⟨rf, f1, f2, f3, f4⟩ := gt_get C.l C.a
    have cm := C.m
    have ca := C.a
    have hrf : rs.getD at_ [] = rf := by rw [List.getD_eq_getElem?_getD, f1]; rfl
    refine ss_asg 3 ((ee_ixL (el_own 0) (ee_var 1) ((show atI (rs.map lI) (at_ : Int) = some (lI rf) from atM f1)))) ?_
    refine ss_forE (fun (pre : List Nat) => [(.own l ((clrK rs at_ D pre.length).map lI)), (.val (.int at_)), (.val (.int D)), (.val (lI rf)), .any, .any, .any, .any]) (ei_range2 T.range (ee_add (ee_var 1) ee_int) (ee_lenL T.len (el_own 0)) (by first | assumption | omega | decide | (simp; omega) | (simp; done)) (by first | assumption | omega | decide | (simp; omega) | (simp; done)) (by first | assumption | omega | decide | (simp; omega) | (simp; done)) (by first | assumption | omega | decide | (simp; omega) | (simp; done))) (pg_name (i := 4) nd rfl (by first | exact Or.inl rfl | exact Or.inr rfl)) (fun x _ => (tg_name 4)) ?_ (fun pre x post hx => ?_) ?_
    · show Weak _ [.own l ((clrK rs at_ D 0).map lI), _, _, _, _, _, _, _]
      rw [clrK_zero]
      exact (by repeat' (first | exact True.intro | exact Or.inl rfl | exact Or.inr rfl | apply And.intro))
    · have hlen : pre.length < rs.length - (at_ + 1) := by
        have := congrArg List.length hx
        simp at this
        omega
      have hx1 : x = pre.length := by
        have h1 : (List.range ((((rs.map lI).length : Nat) : Int) - ((at_ : Int) + 1)).toNat)[pre.length]? = some x := by rw [hx, List.getElem?_append_right (Nat.le_refl _), Nat.sub_self]; rfl
        rw [List.getElem?_range (by simp; omega)] at h1
        exact (Option.some.inj h1).symm
      subst hx1
      obtain ⟨r, g1, g2, g3, g4⟩ := gt_get C.l (i := at_ + 1 + pre.length) (by omega)
      have hc : (clrK rs at_ D pre.length)[at_ + 1 + pre.length]? = some r := by rw [clrK_get g1, if_neg (by omega)]
      have e1 : (at_ : Int) + 1 + (pre.length : Int) = ((at_ + 1 + pre.length : Nat) : Int) := by omega
      refine ss_asg 5 ((ee_ixL (el_own 0) (ee_var 4) ((show atI ((clrK rs at_ D pre.length).map lI) ((at_ : Int) + 1 + (pre.length : Int)) = some (lI r) from atMi e1 hc)))) ?_
      have b1 : ∀ x ∈ r, x.natAbs < 2 ^ 4095 := fun x hx => by
        obtain ⟨i, _, rfl⟩ := gl_mem hx
        rw [← g4]
        exact C.b _ _ (by omega) (by omega)
      have b2 : ∀ x ∈ rf, x.natAbs < 2 ^ 4095 := fun x hx => by
        obtain ⟨i, _, rfl⟩ := gl_mem hx
        rw [← f4]
        exact C.b _ _ (by omega) (by omega)
      have b3 : ∀ i, (gl r i).natAbs < 2 ^ 4095 := fun i => by rw [← g4]; exact C.b _ _ (by omega) (by omega)
      have b4 : ∀ i, (gl rf i).natAbs < 2 ^ 4095 := fun i => by rw [← f4]; exact C.b _ _ (by omega) (by omega)
      have hD : D ≠ 0 ∧ D.natAbs.log2 < 9000 := ⟨C.d0, by have := log2_lt C.d1 (by omega); omega⟩
      have n1 := C.n1
      have an := C.an
      refine ss_setitemOwn 0 (j := at_ + 1 + pre.length) ((ee_lcM (en2 := PyData.int)  (own := [("one", 6), ("other", 7)]) (g := (gTup K 2 (gCons (gName 6) (gCons (gName 7) gNil)))) (js := [6, 7]) rfl nd (blkOk_by (by kernel_rfl)) ((ei_zipL T.zip (ee_var 5) (ee_var 3)).eq (zipD_map _ _ _ _)).m ((by simp; omega)) (fun _ _ _ _ _ => (pg_tup rfl (pgs_cons (pg_name (i := 6) nd rfl (by first | exact Or.inl rfl | exact Or.inr rfl)) (pgs_cons (pg_name (i := 7) nd rfl (by first | exact Or.inl rfl | exact Or.inr rfl)) pgs_nil)))) (fun x hx => (tg_two 6 7)) (by decide) (fun x hx _ _ _ _ _ => (ee_fdiv (ee_sub (ee_mulW (ee_var 6) (ee_ixL ((ee_var 3)).el (ee_var 1) ((show atI (rf.map PyData.int) (at_ : Int) = some (.int (gl rf at_)) from at_gl (by omega)))) (mulW (b1 _ (List.of_mem_zip hx).1) (b4 _) (by omega) (by omega))) (ee_mulW (ee_var 7) (ee_ixL ((ee_var 5)).el (ee_var 1) ((show atI (r.map PyData.int) (at_ : Int) = some (.int (gl r at_)) from at_gl (by omega)))) (mulW (b2 _ (List.of_mem_zip hx).2) (b3 _) (by omega) (by omega)))) (ee_var 2) (hD))))) (ee_var 4) ?_ (ss_end ?_)
      · rw [e1]
        exact ixn (by rw [List.length_map, clrK_len]; omega)
      · have : ((clrK rs at_ D pre.length).map lI).set (at_ + 1 + pre.length) (lI (clrRow rs at_ D r)) = (clrK rs at_ D (pre ++ [pre.length]).length).map lI := by
          rw [← List.map_set, clrK_succ g1, List.length_append]; rfl
        rw [← this]
        unfold clrRow
        rw [hrf]
        exact (by repeat' (first | exact True.intro | exact Or.inl rfl | exact Or.inr rfl | apply And.intro))
    · refine ss_nil fun W' σ H' A' => ?_
      refine ⟨_, ⟨l, rs, at_, D, rfl, rfl, rfl, rfl⟩, A'.retM ok0 ?_ rfl .non⟩
      have : (List.range ((((rs.map lI).length : Nat) : Int) - ((at_ : Int) + 1)).toNat).length = rs.length - (at_ + 1) := by
        have := C.a
        simp; omega
      rw [this]
      rfl
/-! determinant -/
theorem gt_map {rs : List (List Int)} {i : Nat} (x : Nat) : gt rs i x = gl (rs.getD i []) x := rfl
theorem gt_clr {rs : List (List Int)} {n at_ i x : Nat} {D : Int} (h : ∀ r ∈ rs, r.length = n) (ha : at_ < i) (hi : i < rs.length) (hx : x < n) : gt (clrK rs at_ D (rs.length - (at_ + 1))) i x = (gt rs i x * gt rs at_ at_ - gt rs at_ x * gt rs i at_).fdiv D := by
  obtain ⟨r, g1, g2, g3, g4⟩ := gt_get h hi
  obtain ⟨q, f1, f2, f3, f4⟩ := gt_get h (i := at_) (by omega)
  rw [gt_some (clrK_get g1), if_pos (by omega), g4, g4, f4, f4]
  unfold clrRow
  rw [show rs.getD at_ [] = q by rw [List.getD_eq_getElem?_getD, f1]; rfl, gl_zip (by omega) (by omega)]
theorem clr_rows {rs : List (List Int)} {n at_ k : Nat} {D : Int} (h : ∀ r ∈ rs, r.length = n) (ha : at_ < rs.length) : ∀ r ∈ clrK rs at_ D k, r.length = n := fun r hr => by
  obtain ⟨q, f1, f2, f3, f4⟩ := gt_get h ha
  obtain ⟨⟨y, j⟩, hx, rfl⟩ := List.mem_map.mp hr
  have hy := h y (List.fst_mem_of_mem_zipIdx hx)
  dsimp only
  split
  · unfold clrRow
    rw [show rs.getD at_ [] = q by rw [List.getD_eq_getElem?_getD, f1]; rfl, List.length_map, List.length_zip, hy, f2, Nat.min_self]
  · exact hy
def swL (rs : List (List Int)) (a b : Nat) : List (List Int) := (rs.set a (rs.getD b [])).set b (rs.getD a [])
theorem swL_len (rs : List (List Int)) (a b : Nat) : (swL rs a b).length = rs.length := by simp [swL]
theorem gt_swL {rs : List (List Int)} {a b i : Nat} (ha : a < rs.length) (hb : b < rs.length) (hab : a < b) (x : Nat) : gt (swL rs a b) i x = swR a b (gt rs) i x := by
  unfold swL swR
  by_cases h1 : i = a
  · subst h1
    rw [if_pos rfl]
    refine gt_some ?_
    rw [List.getElem?_set_ne (by omega), List.getElem?_set_self ha]
  · rw [if_neg h1]
    by_cases h2 : i = b
    · subst h2
      rw [if_pos rfl]
      refine gt_some ?_
      rw [List.getElem?_set_self (by simpa using hb)]
    · rw [if_neg h2]
      unfold gt
      simp only [List.getD_eq_getElem?_getD]
      rw [List.getElem?_set_ne (fun z => h2 z.symm), List.getElem?_set_ne (fun z => h1 z.symm)]
theorem sw_rows {rs : List (List Int)} {n a b : Nat} (h : ∀ r ∈ rs, r.length = n) (ha : a < rs.length) (hb : b < rs.length) : ∀ r ∈ swL rs a b, r.length = n := fun r hr => by
  obtain ⟨q, f1, f2, f3, f4⟩ := gt_get h ha
  obtain ⟨q2, g1, g2, g3, g4⟩ := gt_get h hb
  unfold swL at hr
  rw [show rs.getD a [] = q by rw [List.getD_eq_getElem?_getD, f1]; rfl, show rs.getD b [] = q2 by rw [List.getD_eq_getElem?_getD, g1]; rfl] at hr
  rcases List.mem_or_eq_of_mem_set hr with hr | rfl
  · rcases List.mem_or_eq_of_mem_set hr with hr | rfl
    · exact h r hr
    · exact g2
  · exact f2
theorem first_of {q : Nat → Prop} (a : Nat) : ∀ n, (∃ i, a ≤ i ∧ i < n ∧ q i ∧ ∀ j, a ≤ j → j < i → ¬ q j) ∨ ∀ i, a ≤ i → i < n → ¬ q i
  | 0 => .inr fun i _ h => absurd h (Nat.not_lt_zero i)
  | n + 1 => by
    rcases first_of a n with ⟨i, h1, h2, h3, h4⟩ | h
    · exact .inl ⟨i, h1, by omega, h3, h4⟩
    · by_cases hn : a ≤ n ∧ q n
      · exact .inl ⟨n, hn.1, by omega, hn.2, fun j h1 h2 => h j h1 h2⟩
      · refine .inr fun i h1 h2 hq => ?_
        by_cases e : i = n
        · subst e; exact hn ⟨h1, hq⟩
        · exact h i h1 (by omega) hq
theorem at_first {q : Nat → Prop} {a n i : Nat} (h1 : a ≤ i) (h2 : i < n) (hq : q i) : True := trivial
theorem b12 : (12 * 99) ^ 12 < 2 ^ 4095 := Nat.lt_of_lt_of_le (show (12 * 99) ^ 12 < 2 ^ 124 by decide) (Nat.pow_le_pow_right (by omega) (by omega))
/-! ### determinant: slots 0 part, 1 rows, 2 row, 3 sign, 4 ahead, 5 at, 6 number -/
theorem sc_determinant : FnScope ["part", "rows", "row", "sign", "ahead", "at", "number"] ["part"] (defScope (top 93)) := ⟨rfl, rfl, rfl, by decide +kernel, rfl, by decide +kernel, by decide +kernel⟩
def R_determinant (ss : List Sl) (d : D) : Prop := ∃ (t : List (List Int)), ss = [.val (tT t)] ∧ t.length ≤ 12 ∧ (∀ r ∈ t, r.length = t.length) ∧ (∀ i x, (gt t i x).natAbs ≤ 99) ∧ d = .int (det t.length (gt t))
theorem def_determinant (T : Txt K mg) (T_row_with : Def P w K mg base 1 "row_with" ["rows", "at"] R_row_with) (T_cleared_below : DefM P w K mg base 1 "cleared_below" ["rows", "at", "ahead"] [] G_cleared R_cleared) (S : Std K mg "determinant" "determinant" 93) : Def P w K mg base 2 "determinant" ["part"] R_determinant :=
  def_of S sc_determinant (by rintro _ _ ⟨_, rfl, _⟩; rfl) (fun _ _ _ _ _ _ us hl => match us, hl with | [_], _ => rfl) fun f cdv A outer sh H E W ss d hr hR => by
    obtain ⟨t, rfl, hm, hl, hb, rfl⟩ := hR
    have nd := sc_determinant.nd
    refine (ss_lcOwn 1 (own := [("row", 2)]) (g := (gName 2)) (js := [2]) rfl nd (blkOk_by (by kernel_rfl)) (ei_tup (ee_var 0)).m (by first | assumption | omega | decide | (simp; omega) | (simp; done)) (fun _ _ _ _ _ => (pg_name (i := 2) nd rfl (by first | exact Or.inl rfl | exact Or.inr rfl))) (fun x hx => (tg_name 2)) (by decide) (fun x hx _ _ _ _ _ => (ee_listT T.list (ee_var 2)))) ?_
    refine ss_asg 3 ee_int ?_
    refine ss_asg 4 ee_int ?_
    refine ss_for (ι := List (List Int) × Int × Int × Mx) (fun (pre : List Nat) i => Bar t.length 99 (gt t) pre.length (gt i.1) i.2.1 i.2.2.1 i.2.2.2 ∧ i.1.length = t.length ∧ ∀ r ∈ i.1, r.length = t.length) (fun _ i => [.any, (.lst (i.1.map lI)), .any, (.val (.int i.2.1)), (.val (.int i.2.2.1)), .any, .any]) ((ei_range1 T.range (ee_lenL T.len (el_var 1)) (by first | assumption | omega | decide | (simp; omega) | (simp; done)) (by first | assumption | omega | decide | (simp; omega) | (simp; done))).eq (rgD_nat _)) (pg_name (i := 5) nd rfl (by first | exact Or.inl rfl | exact Or.inr rfl)) (fun x _ => (tg_name 5)) ⟨(t, 1, 1, gt t), ⟨Bar.start fun i j _ _ => hb i j, rfl, hl⟩, (by repeat' (first | exact True.intro | exact Or.inl rfl | exact Or.inr rfl | apply And.intro))⟩ (fun pre x post i hx hp => ?_) (fun i hp => ?_)
    · obtain ⟨rs, s, D, M'⟩ := i
      obtain ⟨B, hlen, hrow⟩ := hp
      dsimp only at B hlen hrow ⊢
      have hplen : pre.length < t.length := by
        have := congrArg List.length hx
        simp at this
        omega
      have hx1 : x = pre.length := by
        have h1 : (List.range ((((t.map lI).length : Nat) : Int)).toNat)[pre.length]? = some x := by rw [hx, List.getElem?_append_right (Nat.le_refl _), Nat.sub_self]; rfl
        rw [List.getElem?_range (by simp; omega)] at h1
        exact (Option.some.inj h1).symm
      subst hx1
      rcases first_of (q := fun i => gt rs i pre.length ≠ 0) pre.length t.length with ⟨r, h1, h2, h3, h4⟩ | hno
      · refine ss_asg 6 (d := .int (r : Int)) ((ee_callD T_row_with (eas_lst 1 (eas_cons (ee_var 5) eas_nil)) (⟨rs, pre.length, t.length, rfl, by omega, by omega, hplen, hrow, .inl ⟨r, h1, by omega, h3, fun j a b => Classical.byContradiction (h4 j a b), rfl⟩⟩))) ?_
        refine ss_ifR (cd_isN.et (ee_var 6) ee_non) (fun hk => by cases hk) fun _ => ?_
        obtain ⟨qa, f1, f2, f3, f4⟩ := gt_get hrow (i := pre.length) (by omega)
        obtain ⟨qr, g1, g2, g3, g4⟩ := gt_get hrow (i := r) (by omega)
        obtain ⟨rs1, s1, M1, B1, hlen1, hrow1, hpv, hsw1, hs1⟩ : ∃ (rs1 : List (List Int)) (s1 : Int) (M1 : Mx), Bar t.length 99 (gt t) pre.length (gt rs1) s1 D M1 ∧ rs1.length = t.length ∧ (∀ q ∈ rs1, q.length = t.length) ∧ gt rs1 pre.length pre.length ≠ 0 ∧ (r = pre.length → rs1 = rs ∧ s1 = s) ∧ (r ≠ pre.length → rs1 = swL rs pre.length r ∧ s1 = 0 - s) := by
          by_cases e : r = pre.length
          · subst e
            exact ⟨rs, s, M', B, hlen, hrow, h3, fun _ => ⟨rfl, rfl⟩, fun z => absurd rfl z⟩
          · have hlt : pre.length < r := by omega
            have hfun : gt (swL rs pre.length r) = swR pre.length r (gt rs) := funext fun i => funext fun x => gt_swL (by omega) (by omega) hlt x
            refine ⟨swL rs pre.length r, 0 - s, swR pre.length r M', by rw [hfun]; exact B.swap hlt h2, by rw [swL_len, hlen], sw_rows hrow (by omega) (by omega), ?_, fun z => absurd z e, fun _ => ⟨rfl, rfl⟩⟩
            rw [hfun]
            show gt rs (if pre.length = pre.length then r else _) pre.length ≠ 0
            rw [if_pos rfl]
            exact h3
        refine ss_if (k := !decide ((r : Int) = (pre.length : Int))) (env2 := [.any, (.lst (rs1.map lI)), .any, (.val (.int s1)), (.val (.int D)), (.val (.int pre.length)), .any]) (cd_neI.et (ee_var 6) (ee_var 5)) (fun hk => ?_) (fun hk => ss_end ?_) ?_
        · have hne : r ≠ pre.length := fun e => by rw [e] at hk; simp at hk
          obtain ⟨e1, e2⟩ := hs1 hne
          subst e1 e2
          refine ss_swap 1 (xs := rs.map lI) (ja := pre.length) (jb := r) (d1 := lI qr) (d2 := lI qa) ((ee_tup (ea_cons (ee_ixL (el_var 1) (ee_var 6) ((show atI (rs.map lI) (r : Int) = some (lI qr) from atM g1))) (ea_cons (ee_ixL (el_var 1) (ee_var 5) ((show atI (rs.map lI) (pre.length : Int) = some (lI qa) from atM f1))) ea_nil)))) (ee_var 5) (ixn (by rw [List.length_map]; omega)) (ee_var 6) (ixn (by rw [List.length_map]; omega)) ?_
          refine ss_asg 3 (ee_sub ee_int (ee_var 3)) (ss_end ?_)
          have e3 : ((rs.map lI).set pre.length (lI qr)).set r (lI qa) = (swL rs pre.length r).map lI := by
            unfold swL
            rw [List.map_set, List.map_set, show rs.getD r [] = qr by rw [List.getD_eq_getElem?_getD, g1]; rfl, show rs.getD pre.length [] = qa by rw [List.getD_eq_getElem?_getD, f1]; rfl]
          rw [← e3]
          exact (by repeat' (first | exact True.intro | exact Or.inl rfl | exact Or.inr rfl | apply And.intro))
        · have he : r = pre.length := by have : (r : Int) = (pre.length : Int) := by simpa using hk
                                         omega
          obtain ⟨e1, e2⟩ := hsw1 he
          rw [e1, e2]
          exact (by repeat' (first | exact True.intro | exact Or.inl rfl | exact Or.inr rfl | apply And.intro))
        · have hC : ClrOk rs1 pre.length t.length D := by
            refine ⟨by omega, by omega, by omega, hplen, hrow1, B1.ne, Nat.lt_of_le_of_lt (B1.smallD (N := 12) (by omega) (by omega) (by decide)) b12, fun i x h1 h2 => ?_⟩
            obtain ⟨q, k1, k2, k3, k4⟩ := gt_get hrow1 h2
            by_cases hx : x < t.length
            · exact Nat.lt_of_le_of_lt (B1.small (N := 12) (by omega) (by decide) i x h1 (by omega) hx) b12
            · rw [k4, gl_out (by omega)]
              exact Nat.two_pow_pos _
          refine ss_fix 1 rfl fun la => ?_
          refine ss_exprF (ef_callM (S := fun d env' => d = .none ∧ env' = [.any, (.own la ((clrK rs1 pre.length D (rs1.length - (pre.length + 1))).map lI)), .any, (.val (.int s1)), (.val (.int D)), (.val (.int pre.length)), .any]) T_cleared_below 1 rfl ⟨trivial, fun z => nomatch z⟩ (eas_cons (ee_var 5) (eas_cons (ee_var 4) eas_nil)) (by intro z hz; simp at hz; rcases hz with rfl | rfl <;> trivial) ⟨la, rs1, pre.length, t.length, D, rfl, rfl, hC⟩ (.inl rfl) (fun r' s' hR => ?_)) fun d env' hS => ?_
          · obtain ⟨l', rs', at', D', e1, e2, e3, e4⟩ := hR
            have e5 := lIs_inj (Sl.own.inj e1).2
            have e6 := (Sl.own.inj e1).1
            have e7 : (pre.length : Int) = (at' : Int) ∧ D = D' := by
              have := List.cons.inj e2
              exact ⟨PyData.int.inj (Sl.val.inj this.1), PyData.int.inj (Sl.val.inj (List.cons.inj this.2).1)⟩
            obtain ⟨e8, e9⟩ := e7
            have e8 : pre.length = at' := by omega
            subst e5 e6 e8 e9
            exact ⟨.none, e3, rfl, by rw [e4]; rfl⟩
          · obtain ⟨rfl, rfl⟩ := hS
            refine ss_unfix 1 rfl ?_
            obtain ⟨q, k1, k2, k3, k4⟩ := gt_get hrow1 (i := pre.length) (by omega)
            have hq : (clrK rs1 pre.length D (rs1.length - (pre.length + 1)))[pre.length]? = some q := by rw [clrK_get k1, if_neg (by omega)]
            refine ss_asg 4 ((ee_ixL ((ee_ixL (el_var 1) (ee_var 5) ((show atI ((clrK rs1 pre.length D (rs1.length - (pre.length + 1))).map lI) (pre.length : Int) = some (lI q) from atM hq)))).el (ee_var 5) ((show atI (q.map PyData.int) (pre.length : Int) = some (.int (gl q pre.length)) from at_gl (by omega))))) ?_
            refine ss_nil fun W σ H A => ⟨(clrK rs1 pre.length D (rs1.length - (pre.length + 1)), s1, gl q pre.length, M1), ⟨?_, by rw [clrK_len, hlen1], clr_rows hrow1 (by omega)⟩, A.weak (by repeat' (first | exact True.intro | exact Or.inl rfl | exact Or.inr rfl | apply And.intro))⟩
            rw [List.length_append, List.length_singleton]
            show Bar t.length 99 (gt t) (pre.length + 1) _ s1 (gl q pre.length) M1
            rw [← k4 pre.length]
            exact B1.clear hplen hpv fun i j h1 h2 h3 => gt_clr hrow1 h1 (by omega) h3
      · refine ss_asg 6 (d := .none) ((ee_callD T_row_with (eas_lst 1 (eas_cons (ee_var 5) eas_nil)) (⟨rs, pre.length, t.length, rfl, by omega, by omega, hplen, hrow, .inr ⟨fun j a b => Classical.byContradiction (hno j a (by omega)), rfl⟩⟩))) ?_
        refine ss_ifR (cd_isN.et (ee_var 6) ee_non) (fun _ => ?_) fun hk => by cases hk
        refine ss_ret ((ee_int).eq ?_) fun v H' h => h
        rw [B.none hplen fun i a b => Classical.byContradiction (hno i a b)]
    · obtain ⟨rs, s, D, M'⟩ := i
      obtain ⟨B, hlen, hrow⟩ := hp
      dsimp only at B hlen hrow ⊢
      have e : (List.range ((((t.map lI).length : Nat) : Int)).toNat).length = t.length := by simp
      rw [e] at B
      refine ss_ret (((ee_mul (ee_var 3) (ee_var 4) (.inl (by rcases B.sign with rfl | rfl <;> decide)))).eq ?_) fun v H' h => h
      rw [B.stop]
/-! ### stands: slots 0 part, 1 p -/
theorem sc_stands : FnScope ["part", "p"] ["part", "p"] (defScope (top 94)) := ⟨rfl, rfl, rfl, by decide +kernel, rfl, by decide +kernel, by decide +kernel⟩
def R_stands (ss : List Sl) (d : D) : Prop := ∃ (t : List (List Int)) (p : Int), ss = [.val (tT t), .val (.int p)] ∧ 0 ≤ p ∧ t.length ≤ 12 ∧ (∀ r ∈ t, r.length = t.length) ∧ (∀ i x, (gt t i x).natAbs ≤ 99) ∧ d = .bool (!decide (p ∣ det t.length (gt t)))
theorem def_stands (T : Txt K mg) (T_determinant : Def P w K mg base 2 "determinant" ["part"] R_determinant) (S : Std K mg "stands" "stands" 94) : Def P w K mg base 3 "stands" ["part", "p"] R_stands :=
  def_of S sc_stands (by rintro _ _ ⟨_, _, rfl, _⟩; rfl) (fun _ _ _ _ _ _ us hl => match us, hl with | [_, _], _ => rfl) fun f cdv A outer sh H E W ss d hr hR => by
    obtain ⟨t, p, rfl, h0, hm, hl, hb, rfl⟩ := hR
    have nd := sc_stands.nd
    refine ss_ifR (cd_eqI.et (ee_var 1) ee_int) (fun hk => ?_) fun hk => ?_
    · have hp : p = 0 := of_decide_eq_true hk
      subst hp
      refine ss_ret (((cd_neI.ee (ee_callD T_determinant (eas_cons (ee_var 0) eas_nil) (⟨t, rfl, hm, hl, hb, rfl⟩)) ee_int)).eq ?_) fun v H' h => h
      rw [decide_eq_decide.mpr (Int.zero_dvd (n := det t.length (gt t))).symm]
    · have hp : p ≠ 0 := of_decide_eq_false hk
      have hp : 0 < p := by omega
      refine ss_ret (((cd_neI.ee (ee_mod (ee_callD T_determinant (eas_cons (ee_var 0) eas_nil) (⟨t, rfl, hm, hl, hb, rfl⟩)) (ee_var 1) (by first | assumption | omega | decide | (simp; omega) | (simp; done))) ee_int)).eq ?_) fun v H' h => h
      rw [decide_eq_decide.mpr (Int.dvd_iff_emod_eq_zero (a := p) (b := det t.length (gt t))).symm]
end Tf
end
section
set_option maxHeartbeats 4000000
namespace Tf
open PySem PySem.Spec PyProof.Rows L2
variable {P : Program} {w : World} {K : PySem.W.Frag} {mg : Str → Option Value} {base : Heap}
/-! ### what ranked_holds says -/
def rowsOf (t : List (List Int)) (rows : List Nat) : List (List Int) := rows.map fun i => t.getD i []
def partOf (t : List (List Int)) (rows cols : List Nat) : List (List Int) := (rowsOf t rows).map fun r => cols.map fun k => gl r k
def holdsF (t : List (List Int)) (p : Int) (rows cols : List Nat) (sums : List (Int × List Int)) : Bool :=
  (t.zip sums).all (fun x => makesF x.1 (rowsOf t rows) p x.2) && !decide (p ∣ det rows.length (gt (partOf t rows cols)))
theorem rowsOf_len (t : List (List Int)) (rows : List Nat) : (rowsOf t rows).length = rows.length := by simp [rowsOf]
theorem rowsOf_mem {t : List (List Int)} {rows : List Nat} (h : ∀ a, a < rows.length → gn rows a < t.length) {r : List Int} (hr : r ∈ rowsOf t rows) : r ∈ t := by
  obtain ⟨i, hi, rfl⟩ := List.mem_map.mp hr
  obtain ⟨a, ha, rfl⟩ := gn_mem hi
  rw [List.getD_eq_getElem?_getD, List.getElem?_eq_getElem (h a ha)]
  exact List.getElem_mem _
theorem rowsOf_get {t : List (List Int)} {rows : List Nat} {a : Nat} (ha : a < rows.length) (x : Nat) : gt (rowsOf t rows) a x = gt t (gn rows a) x := by
  unfold rowsOf
  rw [gt_some (r := t.getD (gn rows a) []) (by rw [List.getElem?_map, gn_get ha]; rfl)]
  rfl
theorem part_get {t : List (List Int)} {rows cols : List Nat} {a b : Nat} (ha : a < rows.length) (hb : b < cols.length) : gt (partOf t rows cols) a b = gt t (gn rows a) (gn cols b) := by
  unfold partOf rowsOf
  rw [List.map_map, gt_some (r := cols.map fun k => gl (t.getD (gn rows a) []) k) (by rw [List.getElem?_map, gn_get ha]; rfl)]
  rw [gl_some (x := gl (t.getD (gn rows a) []) (gn cols b)) (by rw [List.getElem?_map, gn_get hb]; rfl)]
  rfl
/-- a paper of the right shape -/
structure Shape (m n : Nat) (rows cols : List Nat) (sums : List (Int × List Int)) : Prop where
  lc : cols.length = rows.length
  ls : sums.length = m
  l12 : rows.length ≤ 12
  ra : ∀ a b, a < b → b < rows.length → gn rows a < gn rows b
  rl : ∀ a, a < rows.length → gn rows a < m
  ca : ∀ a b, a < b → b < rows.length → gn cols a < gn cols b
  cl : ∀ a, a < rows.length → gn cols a < n
  sl : ∀ f ∈ sums, f.2.length = rows.length
  b1 : ∀ f ∈ sums, f.1.natAbs < 2 ^ 4095
  b2 : ∀ f ∈ sums, ∀ x ∈ f.2, x.natAbs < 2 ^ 4095
theorem b99 {x : Int} (h : 0 ≤ x ∧ x ≤ 99) : x.natAbs < 2 ^ 4095 := by
  have h1 : (2 : Nat) ^ 7 = 128 := by decide
  have h2 : (2 : Nat) ^ 7 ≤ 2 ^ 4095 := Nat.pow_le_pow_right (by omega) (by omega)
  generalize (2 : Nat) ^ 4095 = B at *
  omega
/-! ### ranked_holds: slots 0 table, 1 p, 2 thing, 3 rows, 4 cols, 5 sums, 6 some, 7 number, 8 row, 9 one, 10 k -/
theorem sc_ranked_holds : FnScope ["table", "p", "thing", "rows", "cols", "sums", "some", "number", "row", "one", "k"] ["table", "p", "thing"] (defScope (top 100)) := ⟨rfl, rfl, rfl, by decide +kernel, rfl, by decide +kernel, by decide +kernel⟩
def R_ranked_holds (ss : List Sl) (d : D) : Prop := ∃ (t : List (List Int)) (p : Int) (n : Nat) (rows cols : List Nat) (sums : List (Int × List Int)), ss = [.val (tT t), .val (.int p), .val (ppD rows cols sums)] ∧ 0 ≤ p ∧ Tab n t ∧ t ≠ [] ∧ t.length ≤ 100 ∧ n ≤ 100 ∧ Shape t.length n rows cols sums ∧ d = .bool (holdsF t p rows cols sums)
theorem def_ranked_holds (T : Txt K mg) (T_are_places : Def P w K mg base 2 "are_places" ["thing", "most"] R_are_places) (T_makes : Def P w K mg base 3 "makes" ["row", "rows", "p", "thing"] R_makes) (T_stands : Def P w K mg base 3 "stands" ["part", "p"] R_stands) (S : Std K mg "ranked_holds" "ranked_holds" 100) : Def P w K mg base 4 "ranked_holds" ["table", "p", "thing"] R_ranked_holds :=
  def_of S sc_ranked_holds (by rintro _ _ ⟨_, _, _, _, _, _, rfl, _⟩; rfl) (fun _ _ _ _ _ _ us hl => match us, hl with | [_, _, _], _ => rfl) fun f cdv A outer sh H E W ss d hr hR => by
    obtain ⟨t, p, n, rows, cols, sums, rfl, h0, hT, hne, hm, hn, G, rfl⟩ := hR
    have nd := sc_ranked_holds.nd
    obtain ⟨r0, k0, k1, k2, k3⟩ := hT.get (i := 0) (by cases t with | nil => exact absurd rfl hne | cons _ _ => simp)
    have l12 := G.l12
    have lc := G.lc
    have ls := G.ls
    refine ss_ifR ((ew_or (et_not (et_val (ee_isi (n := "tuple") (c := true) T.isinstance T.tuple (by decide +kernel) (ee_var 2) (by kernel_rfl)))) (fun hT => (ew_or1 (cd_neI.et (ee_lenT T.len (ee_var 2)) ee_int)))).et) (fun hk => by cases hk) fun _ => ?_
    refine ss_unpack (d := ppD rows cols sums) (ee_var 2) (pg_tup rfl (pgs_cons (pg_name (i := 3) nd rfl (by first | exact Or.inl rfl | exact Or.inr rfl)) (pgs_cons (pg_name (i := 4) nd rfl (by first | exact Or.inl rfl | exact Or.inr rfl)) (pgs_cons (pg_name (i := 5) nd rfl (by first | exact Or.inl rfl | exact Or.inr rfl)) pgs_nil)))) (tg_three 3 4 5) ?_
    refine ss_ifR ((ew_or (et_not (et_val (ee_callD T_are_places (eas_cons (ee_var 3) (eas_cons (ee_lenT T.len (ee_var 0)) eas_nil)) (⟨rows, t.length, by rw [List.length_map], by omega, G.ra, G.rl, rfl⟩)))) (fun hT => (ew_or (et_not (et_val (ee_callD T_are_places (eas_cons (ee_var 4) (eas_cons (ee_lenT T.len (ee_ixT (ee_var 0) ee_int ((show atI (t.map tI) 0 = some (tI r0) from atMi (k := 0) rfl k0)))) eas_nil)) (⟨cols, n, by rw [List.length_map, k1], by omega, by rw [lc]; exact G.ca, by rw [lc]; exact G.cl, rfl⟩)))) (fun hT => (ew_or1 (cd_neI.et (ee_lenT T.len (ee_var 3)) (ee_lenT T.len (ee_var 4)))))))).et) (fun hk => ?_) fun _ => ?_
    · exfalso
      rw [List.length_map, List.length_map, lc] at hk
      simp at hk
    refine ss_ifR ((ew_or (et_not (et_val (ee_isi (n := "tuple") (c := true) T.isinstance T.tuple (by decide +kernel) (ee_var 5) (by kernel_rfl)))) (fun hT => (ew_or1 (cd_neI.et (ee_lenT T.len (ee_var 5)) (ee_lenT T.len (ee_var 0)))))).et) (fun hk => ?_) fun _ => ?_
    · exfalso
      rw [List.length_map, List.length_map, ls] at hk
      simp at hk
    have hrm : ∀ r ∈ rowsOf t rows, r ∈ t := fun r hr => rowsOf_mem G.rl hr
    refine ss_asg 6 ((ee_lc  (l := rows) (en := nD) (own := [("number", 7)]) (g := (gName 7)) (js := [7]) rfl nd (blkOk_by (by kernel_rfl)) (ei_tup (ee_var 3)).m (by first | assumption | omega | decide | (simp; omega) | (simp; done)) (fun _ _ _ _ _ => (pg_name (i := 7) nd rfl (by first | exact Or.inl rfl | exact Or.inr rfl))) (fun x hx => (tg_name 7)) (by decide) (fun x hx _ _ _ _ _ => (ee_ixT (ee_var 0) (ee_var 7) ((show atI (t.map tI) (x : Int) = some (tI (t.getD x [])) by obtain ⟨a, ha, rfl⟩ := gn_mem hx; rw [List.getD_eq_getElem?_getD, List.getElem?_eq_getElem (G.rl a ha)]; exact atM (List.getElem?_eq_getElem (G.rl a ha)))))))) ?_
    have hsome : (rows.map fun x => tI (t.getD x [])) = (rowsOf t rows).map tI := by unfold rowsOf; rw [List.map_map]; rfl
    rw [hsome]
    refine ss_ifR (((et_not (et_val (ee_all T.all rfl ((ee_lcM (en2 := PyData.bool)  (l := t.zip sums) (en := fun x => .tuple [tI x.1, smD x.2]) (own := [("row", 8), ("one", 9)]) (g := (gTup K 2 (gCons (gName 8) (gCons (gName 9) gNil)))) (js := [8, 9]) rfl nd (blkOk_by (by kernel_rfl)) ((ei_zipT T.zip (ee_var 0) (ee_var 5)).eq (zipD_map _ _ _ _)).m ((by simp; omega)) (fun _ _ _ _ _ => (pg_tup rfl (pgs_cons (pg_name (i := 8) nd rfl (by first | exact Or.inl rfl | exact Or.inr rfl)) (pgs_cons (pg_name (i := 9) nd rfl (by first | exact Or.inl rfl | exact Or.inr rfl)) pgs_nil)))) (fun x hx => (tg_two 8 9)) (by decide) (fun x hx _ _ _ _ _ => (ee_callD T_makes (eas_cons (ee_var 8) (eas_cons (ee_var 6) (eas_cons (ee_var 1) (eas_cons (ee_var 9) eas_nil)))) (⟨x.1, rowsOf t rows, p, x.2, n, rfl, h0, by rw [rowsOf_len]; exact G.sl _ (List.of_mem_zip hx).2, fun q hq => hT.len _ (hrm q hq), hT.len _ (List.of_mem_zip hx).1, by omega, by rw [rowsOf_len]; omega, G.b1 _ (List.of_mem_zip hx).2, G.b2 _ (List.of_mem_zip hx).2, fun y hy => b99 (hT.low _ (List.of_mem_zip hx).1 y hy), fun q hq i => b99 (by by_cases hi : i < q.length; exact hT.low _ (hrm q hq) _ (List.mem_of_getElem? (gl_get hi)); rw [gl_out (by omega)]; omega), rfl⟩))))).el))))) (fun hk => ?_) fun hk => ?_
    · refine ss_ret ee_bl fun v H' h => ?_
      have e : (t.zip sums).all (fun x => makesF x.1 (rowsOf t rows) p x.2) = false := by
        rw [List.all_map] at hk
        simpa using hk
      unfold holdsF
      rw [e]
      exact h
    · have e : (t.zip sums).all (fun x => makesF x.1 (rowsOf t rows) p x.2) = true := by
        rw [List.all_map] at hk
        simpa using hk
      unfold holdsF
      rw [e, Bool.true_and]
      have plen : (partOf t rows cols).length = rows.length := by unfold partOf; rw [List.length_map, rowsOf_len]
      refine ss_ret (((ee_callD T_stands (eas_cons (ee_tupleL T.tuple ((ee_lc  (l := rowsOf t rows) (en := tI) (own := [("row", 8)]) (g := (gName 8)) (js := [8]) rfl nd (blkOk_by (by kernel_rfl)) (ei_list (ee_var 6)).m ((by rw [rowsOf_len]; omega)) (fun _ _ _ _ _ => (pg_name (i := 8) nd rfl (by first | exact Or.inl rfl | exact Or.inr rfl))) (fun x hx => (tg_name 8)) (by decide) (fun x hx _ _ _ _ _ => (ee_tupleL T.tuple ((ee_lcM (en2 := PyData.int)  (l := cols) (en := nD) (h := fun (k : Nat) => gl x k) (own := [("k", 10)]) (g := (gName 10)) (js := [10]) rfl nd (blkOk_by (by kernel_rfl)) (ei_tup (ee_var 4)).m (by first | assumption | omega | decide | (simp; omega) | (simp; done)) (fun _ _ _ _ _ => (pg_name (i := 10) nd rfl (by first | exact Or.inl rfl | exact Or.inr rfl))) (fun y hy => (tg_name 10)) (by decide) (fun y hy _ _ _ _ _ => (ee_ixT (ee_var 8) (ee_var 10) ((show atI (x.map PyData.int) (y : Int) = some (.int (gl x y)) from at_gl (by rw [hT.len _ (hrm x hx)]; obtain ⟨a, ha, rfl⟩ := gn_mem hy; exact G.cl a (by omega)))))))).el)))).el) (eas_cons (ee_var 1) eas_nil)) (⟨partOf t rows cols, p, ?_, h0, by omega, ?_, ?_, rfl⟩))).eq ?_) fun v H' h => h
      · rw [plen]
      · unfold partOf
        show [Sl.val (.tuple _), _] = [Sl.val (.tuple _), _]
        rw [List.map_map]
        rfl
      · intro r hr
        unfold partOf at hr
        obtain ⟨q, _, rfl⟩ := List.mem_map.mp hr
        rw [List.length_map, plen, lc]
      · intro a b
        by_cases ha : a < rows.length
        · by_cases hb : b < cols.length
          · rw [part_get ha hb]
            obtain ⟨r, _, _, q3, q4⟩ := hT.get (G.rl a ha)
            rw [q3]
            have := q4 (gn cols b)
            omega
          · unfold partOf
            rw [gt_some (r := cols.map fun k => gl (t.getD (gn rows a) []) k) (by unfold rowsOf; rw [List.map_map, List.getElem?_map, gn_get ha]; rfl), gl_out (by rw [List.length_map]; omega)]
            decide
        · unfold gt
          rw [List.getD_eq_getElem?_getD, List.getElem?_eq_none (by omega)]
          show (gl [] b).natAbs ≤ 99
          rw [gl_out (by simp)]
          decide
/-! ### the paper of ranked holds; with a row less it does not -/
theorem sum_sm : ∀ (l : List Int), l.sum = sm l.length (gl l)
  | [] => rfl
  | a :: l => by
    rw [List.sum_cons, List.length_cons, Nat.add_comm, sm_split, sum_sm l]
    show a + _ = (0 + gl (a :: l) 0) + _
    rw [Int.zero_add]
    congr 1
    exact sm_congr fun i _ => by rw [Nat.add_comm]; rfl
theorem zip_get {α β : Type} {l : List α} {m : List β} {i : Nat} {x : α × β} (h : (l.zip m)[i]? = some x) : l[i]? = some x.1 ∧ m[i]? = some x.2 := List.getElem?_zip_eq_some.mp h
theorem sum_zip {c : List Int} {rs : List (List Int)} (k : Nat) (h : c.length = rs.length) : ((c.zip rs).map fun y => y.1 * gl y.2 k).sum = sm rs.length (fun j => gl c j * gt rs j k) := by
  rw [sum_sm, List.length_map, List.length_zip, h, Nat.min_self]
  refine sm_congr fun j hj => gl_some ?_
  rw [List.getElem?_map, (List.getElem?_zip_eq_some (z := (gl c j, rs[j]))).mpr ⟨gl_get (by omega), List.getElem?_eq_getElem hj⟩]
  show some (gl c j * gl rs[j] k) = _
  rw [gt_some (List.getElem?_eq_getElem hj)]
theorem mem_idx {r : List Int} {x : Int × Nat} (h : x ∈ r.zipIdx) : x.2 < r.length ∧ x.1 = gl r x.2 := by
  obtain ⟨i, hi⟩ := List.mem_iff_getElem?.mp h
  rw [List.getElem?_zipIdx] at hi
  cases hr : r[i]? with
  | none => rw [hr] at hi; cases hi
  | some y =>
    rw [hr] at hi
    cases hi
    simp only [Nat.zero_add]
    exact ⟨(List.getElem?_eq_some_iff.mp hr).1, (gl_some hr).symm⟩
theorem holds_paper {t : List (List Int)} {p : Int} {n : Nat} {rows cols : List Nat} {sums : List (Int × List Int)} (hp : PrI p) (hT : Tab n t) (Q : Paper p t.length n (gt t) rows cols sums) : holdsF t p rows cols sums = true := by
  unfold holdsF
  have h1 : (t.zip sums).all (fun x => makesF x.1 (rowsOf t rows) p x.2) = true := List.all_eq_true.mpr fun x hx => by
    obtain ⟨i, hi⟩ := List.mem_iff_getElem?.mp hx
    obtain ⟨g1, g2⟩ := zip_get hi
    obtain ⟨q1, q2, q3, _⟩ := Q.sm i _ g2
    have hr := hT.len _ (List.mem_of_getElem? g1)
    unfold makesF
    rw [decide_eq_false q1, Bool.not_false, Bool.true_and, List.all_eq_true]
    intro y hy
    obtain ⟨k1, k2⟩ := mem_idx hy
    unfold mkOk
    rw [sum_zip _ (by rw [rowsOf_len]; exact q2), rowsOf_len]
    have := q3 y.2 (by omega)
    rw [gt_some g1] at this
    rw [k2, sm_congr (g := fun j => gl x.2.2 j * gt t (gn rows j) y.2) fun j hj => by rw [rowsOf_get hj]]
    exact decide_eq_true this
  have h2 : ¬ p ∣ det rows.length (gt (partOf t rows cols)) := by
    rw [det_congr (N := fun j l => gt t (gn rows j) (gn cols l)) fun a b ha hb => part_get ha (by rw [Q.lc]; exact hb)]
    exact Q.ind.det hp
  rw [h1, decide_eq_false h2]
  rfl
theorem gl_tail (u : List Int) (j : Nat) : gl (u.drop 1) j = gl u (j + 1) := by
  unfold gl
  rw [List.getD_eq_getElem?_getD, List.getD_eq_getElem?_getD, List.getElem?_drop, Nat.add_comm]
theorem gn_tail (u : List Nat) (j : Nat) : gn (u.drop 1) j = gn u (j + 1) := by
  unfold gn
  rw [List.getD_eq_getElem?_getD, List.getD_eq_getElem?_getD, List.getElem?_drop, Nat.add_comm]
def lessS (sums : List (Int × List Int)) : List (Int × List Int) := sums.map fun f => (f.1, f.2.drop 1)
theorem fewer_paper {t : List (List Int)} {p : Int} {n : Nat} {rows cols : List Nat} {sums : List (Int × List Int)} (hp : PrI p) (hT : Tab n t) (Q : Paper p t.length n (gt t) rows cols sums) (h0 : 0 < rows.length) : holdsF t p (rows.drop 1) (cols.drop 1) (lessS sums) = false := by
  obtain ⟨u, hu1, hu2⟩ := Q.own h0
  obtain ⟨k, hk1, hk2⟩ := Ind.row hp (show Ind p rows.length n (fun j => gt t (gn rows j)) from fun c hc => Q.ind c fun l hl => hc _ (Q.cl l hl)) h0
  obtain ⟨r, g1, g2, g3, _⟩ := hT.get (Q.rl 0 h0)
  have h1 : (t.zip (lessS sums)).all (fun x => makesF x.1 (rowsOf t (rows.drop 1)) p x.2) = false := by
    refine List.all_eq_false.mpr ⟨(r, (1, u.drop 1)), List.mem_of_getElem? (i := gn rows 0) ((List.getElem?_zip_eq_some (z := (r, ((1 : Int), u.drop 1)))).mpr ⟨g1, by unfold lessS; rw [List.getElem?_map, hu1]; rfl⟩), ?_⟩
    intro hm
    unfold makesF at hm
    rw [Bool.and_eq_true, List.all_eq_true] at hm
    have := hm.2 (gl r k, k) (List.mem_iff_getElem?.mpr ⟨k, by rw [List.getElem?_zipIdx]; show (r[k]?).map _ = _; rw [gl_get (by omega)]; simp⟩)
    unfold mkOk at this
    have ul : (u.drop 1).length = (rowsOf t (rows.drop 1)).length := by
      have := (Q.sm _ _ hu1).2.1
      have h : u.length = rows.length := this
      rw [rowsOf_len, List.length_drop, List.length_drop, h]
    dsimp only at this
    rw [sum_zip _ ul, sm_zero (fun j _ => by rw [gl_tail, hu2, Int.zero_mul]), Int.sub_zero, Int.one_mul] at this
    rw [g3] at hk2
    exact hk2 (of_decide_eq_true this)
  unfold holdsF
  rw [h1]
  rfl
theorem Paper.shape {t : List (List Int)} {p : Int} {n : Nat} {rows cols : List Nat} {sums : List (Int × List Int)} (hP : Pr p t.length) (h12 : t.length ≤ 12 ∨ n ≤ 12) (Q : Paper p t.length n (gt t) rows cols sums) : Shape t.length n rows cols sums := by
  have l := Q.le hP.hp
  have at_ : ∀ f ∈ sums, ∃ i, sums[i]? = some f := fun f hf => List.mem_iff_getElem?.mp hf
  refine ⟨Q.lc, Q.ls, by omega, Q.ra, Q.rl, Q.ca, Q.cl, fun f hf => ?_, fun f hf => ?_, fun f hf x hx => ?_⟩
  · obtain ⟨i, hi⟩ := at_ f hf
    exact (Q.sm i f hi).2.1
  · obtain ⟨i, hi⟩ := at_ f hf
    exact (Q.sm i f hi).2.2.2.1.lt hP
  · obtain ⟨i, hi⟩ := at_ f hf
    obtain ⟨j, _, rfl⟩ := gl_mem hx
    exact ((Q.sm i f hi).2.2.2.2 j).lt hP
theorem Shape.less {m n : Nat} {rows cols : List Nat} {sums : List (Int × List Int)} (G : Shape m n rows cols sums) : Shape m n (rows.drop 1) (cols.drop 1) (lessS sums) := by
  have l12 := G.l12
  refine ⟨by rw [List.length_drop, List.length_drop, G.lc], by unfold lessS; rw [List.length_map, G.ls], by rw [List.length_drop]; omega, fun a b hab hb => ?_, fun a ha => ?_, fun a b hab hb => ?_, fun a ha => ?_, fun f hf => ?_, fun f hf => ?_, fun f hf x hx => ?_⟩
  · rw [List.length_drop] at hb
    rw [gn_tail, gn_tail]
    exact G.ra _ _ (by omega) (by omega)
  · rw [List.length_drop] at ha
    rw [gn_tail]
    exact G.rl _ (by omega)
  · rw [List.length_drop] at hb
    rw [gn_tail, gn_tail]
    exact G.ca _ _ (by omega) (by omega)
  · rw [List.length_drop] at ha
    rw [gn_tail]
    exact G.cl _ (by omega)
  · obtain ⟨g, hg, rfl⟩ := List.mem_map.mp hf
    rw [List.length_drop, List.length_drop, G.sl g hg]
  · obtain ⟨g, hg, rfl⟩ := List.mem_map.mp hf
    exact G.b1 g hg
  · obtain ⟨g, hg, rfl⟩ := List.mem_map.mp hf
    exact G.b2 g hg x (List.mem_of_mem_drop hx)
end Tf
end
section
set_option maxHeartbeats 4000000
namespace Tf
open PySem PySem.Spec PyProof.Rows L2
variable {P : Program} {w : World} {K : PySem.W.Frag} {mg : Str → Option Value} {base : Heap}
/-! ### is_below_words: slots 0 thing, 1 many -/
theorem sc_is_below_words : FnScope ["thing", "many"] ["thing", "many"] (defScope (top 36)) := ⟨rfl, rfl, rfl, by decide +kernel, rfl, by decide +kernel, by decide +kernel⟩
def R_is_below (ss : List Sl) (d : D) : Prop := ∃ (i m : Int), ss = [.val (.int i), .val (.int m)] ∧ d = .bool (decide (0 ≤ i) && decide (i < m))
theorem def_is_below_words (T : Txt K mg) (S : Std K mg "is_below_words" "is_below" 36) : Def P w K mg base 1 "is_below_words" ["thing", "many"] R_is_below :=
  def_of S sc_is_below_words (by rintro _ _ ⟨_, _, rfl, _⟩; rfl) (fun _ _ _ _ _ _ us hl => match us, hl with | [_, _], _ => rfl) fun f cdv A outer sh H E W ss d hr hR => by
    obtain ⟨i, m, rfl, rfl⟩ := hR
    have nd := sc_is_below_words.nd
    exact ss_ret (ee_and (ee_isi (n := "int") (c := true) T.isinstance T.int (by decide +kernel) (ee_var 0) (by kernel_rfl)) (fun hA => (ee_and (ee_not (ee_isi (n := "bool") (c := false) T.isinstance T.bool (by decide +kernel) (ee_var 0) (by kernel_rfl))) (fun hA => (ee_one (ee_range ee_int (ee_var 0) (ee_var 1) op_lt))) (fun hA => by first | exact absurd hA (by decide) | (rw [hA]; rfl) | (simp [hA]; done)))) (fun hA => by first | exact absurd hA (by decide) | (rw [hA]; rfl) | (simp [hA]; done))) fun v H' h => h
def primesL : List Int := [2, 3, 5, 7, 11, 13, 17, 19, 23, 29, 31, 37, 41, 43, 47, 53, 59, 61, 67, 71, 73, 79, 83, 89, 97]
/-! ### is_prime: slots 0 thing -/
theorem sc_is_prime : FnScope ["thing"] ["thing"] (defScope (top 150)) := ⟨rfl, rfl, rfl, by decide +kernel, rfl, by decide +kernel, by decide +kernel⟩
def R_is_prime (ss : List Sl) (d : D) : Prop := ∃ (i : Int), ss = [.val (.int i)] ∧ d = .bool ((decide (0 ≤ i) && decide (i < 98)) && decide (i ∈ primesL))
theorem def_is_prime (T : Txt K mg) (gP : Gd K mg "PRIMES" (tI primesL)) (T_is_below_words : Def P w K mg base 1 "is_below_words" ["thing", "many"] R_is_below) (S : Std K mg "is_prime" "is_prime" 150) : Def P w K mg base 2 "is_prime" ["thing"] R_is_prime :=
  def_of S sc_is_prime (by rintro _ _ ⟨_, rfl, _⟩; rfl) (fun _ _ _ _ _ _ us hl => match us, hl with | [_], _ => rfl) fun f cdv A outer sh H E W ss d hr hR => by
    obtain ⟨i, rfl, rfl⟩ := hR
    have nd := sc_is_prime.nd
    refine ss_ret (ee_and ((ee_callD T_is_below_words (eas_cons (ee_var 0) (eas_cons ee_int eas_nil)) (⟨i, 98, rfl, rfl⟩))) (fun hA => ee_one ((((cd_inT).ee (ee_var 0) (ee_gd gP))).eq ?_)) ?_) fun v H' h => h
    · rw [hA, Bool.true_and]
    · intro hA
      rw [hA, Bool.false_and]
/-- a table whose rank is asked -/
structure GoodT (t : List (List Int)) (n : Nat) (p : Int) : Prop where
  tab : Tab n t
  ne : t ≠ []
  n0 : 0 < n
  m1 : t.length ≤ 100
  n1 : n ≤ 100
  h12 : t.length ≤ 12 ∨ n ≤ 12
  pr : Pr p t.length
  pp : p = 0 ∨ p ∈ primesL
def rkD (t : List (List Int)) (p : Int) (rows cols : List Nat) (sums : List (Int × List Int)) : D := .tuple [.str "rank", tT t, .int p, ppD rows cols sums]
/-! ### rank_shown: slots 0 thing, 1 word, 2 table, 3 p, 4 paper -/
theorem sc_rank_shown : FnScope ["thing", "word", "table", "p", "paper"] ["thing"] (defScope (top 155)) := ⟨rfl, rfl, rfl, by decide +kernel, rfl, by decide +kernel, by decide +kernel⟩
def R_rank_shown (ss : List Sl) (d : D) : Prop := ∃ (t : List (List Int)) (p : Int) (n : Nat) (rows cols : List Nat) (sums : List (Int × List Int)), ss = [.val (rkD t p rows cols sums)] ∧ GoodT t n p ∧ Shape t.length n rows cols sums ∧ d = .bool (holdsF t p rows cols sums)
theorem primes_lt {p : Int} (h : p ∈ primesL) : 0 < p ∧ p ≤ 97 := by
  unfold primesL at h
  simp only [List.mem_cons, List.mem_nil_iff, or_false] at h
  omega
theorem def_rank_shown (T : Txt K mg) (T_is_table : Def P w K mg base 4 "is_table" ["thing"] R_is_table) (T_is_prime : Def P w K mg base 2 "is_prime" ["thing"] R_is_prime) (T_is_below_words : Def P w K mg base 1 "is_below_words" ["thing", "many"] R_is_below) (T_ranked_holds : Def P w K mg base 4 "ranked_holds" ["table", "p", "thing"] R_ranked_holds)
    (S : Std K mg "rank_shown" "rank_shown" 155) : Def P w K mg base 5 "rank_shown" ["thing"] R_rank_shown :=
  def_of S sc_rank_shown (by rintro _ _ ⟨_, _, _, _, _, _, rfl, _⟩; rfl) (fun _ _ _ _ _ _ us hl => match us, hl with | [_], _ => rfl) fun f cdv A outer sh H E W ss d hr hR => by
    obtain ⟨t, p, n, rows, cols, sums, rfl, G, G2, rfl⟩ := hR
    have nd := sc_rank_shown.nd
    refine ss_unpack (d := rkD t p rows cols sums) (ee_var 0) (pg_tup rfl (pgs_cons (pg_name (i := 1) nd rfl (by first | exact Or.inl rfl | exact Or.inr rfl)) (pgs_cons (pg_name (i := 2) nd rfl (by first | exact Or.inl rfl | exact Or.inr rfl)) (pgs_cons (pg_name (i := 3) nd rfl (by first | exact Or.inl rfl | exact Or.inr rfl)) (pgs_cons (pg_name (i := 4) nd rfl (by first | exact Or.inl rfl | exact Or.inr rfl)) pgs_nil))))) (tg_four 1 2 3 4) ?_
    refine ss_ifR ((ew_or (et_not (et_val (ee_callD T_is_table (eas_cons (ee_var 2) eas_nil) (⟨t, n, rfl, G.tab, G.ne, G.n0, G.n1, G.m1, rfl⟩)))) (fun hT => (ew_or1 (ew_and (et_not (et_val (ee_callD T_is_prime (eas_cons (ee_var 3) eas_nil) (⟨p, rfl, rfl⟩)))) (fun hT => (ew_and1 (et_not (et_val (ee_callD T_is_below_words (eas_cons (ee_var 3) (eas_cons ee_int eas_nil)) (⟨p, 1, rfl, rfl⟩))))))).et))).et) (fun hk => ?_) fun _ => ?_
    · exfalso
      rcases G.pp with rfl | h
      · simp at hk
      · obtain ⟨h1, h2⟩ := primes_lt h
        rw [decide_eq_true h, decide_eq_true (show 0 ≤ p by omega), decide_eq_true (show p < 98 by omega)] at hk
        simp at hk
    · exact ss_ret ((ee_callD T_ranked_holds (eas_cons (ee_var 2) (eas_cons (ee_var 3) (eas_cons (ee_var 4) eas_nil))) (⟨t, p, n, rows, cols, sums, rfl, G.pr.h0, G.tab, G.ne, G.m1, G.n1, G2, rfl⟩))) fun v H' h => h
/-! ### finding_holds -/
theorem sh_str {x : Str} (h : PyData.strOk x = true) : Sh 0 (.str x) := ⟨by simp only [PyData.canLay0, h], by simp only [PyData.depth]; exact Nat.le_refl 0⟩
theorem Sh.mono {k j : Nat} {d : D} (h : Sh k d) (hj : k ≤ j) : Sh j d := ⟨h.lay, Nat.le_trans h.dep hj⟩
theorem sh_tN (l : List Nat) : Sh 1 (tN l) := .tup (sh_map fun x _ => .int x)
theorem sh_pp (rows cols : List Nat) (sums : List (Int × List Int)) : Sh 4 (ppD rows cols sums) := .tup fun d hd => by
  simp only [List.mem_cons, List.mem_nil_iff, or_false] at hd
  rcases hd with rfl | rfl | rfl
  · exact (sh_tN rows).mono (by omega)
  · exact (sh_tN cols).mono (by omega)
  · refine .tup (sh_map fun x _ => .tup fun d hd => ?_)
    simp only [List.mem_cons, List.mem_nil_iff, or_false] at hd
    rcases hd with rfl | rfl
    · exact (Sh.int _).mono (by omega)
    · exact sh_tI _
theorem sh_rk (t : List (List Int)) (p : Int) (rows cols : List Nat) (sums : List (Int × List Int)) : Sh 5 (rkD t p rows cols sums) := .tup fun d hd => by
  simp only [List.mem_cons, List.mem_nil_iff, or_false] at hd
  rcases hd with rfl | rfl | rfl | rfl
  · exact (sh_str (by decide +kernel)).mono (by omega)
  · exact (sh_tT t).mono (by omega)
  · exact (Sh.int _).mono (by omega)
  · exact sh_pp _ _ _
/-! ### finding_holds: slots 0 thing, 1 judge -/
theorem sc_finding_holds : FnScope ["thing", "judge"] ["thing"] (defScope (top 164)) := ⟨rfl, rfl, rfl, by decide +kernel, rfl, by decide +kernel, by decide +kernel⟩
theorem def_finding_holds (T : Txt K mg) (g4 : ∃ t, Gk K w mg "PARTS" "rank" (.int 4 t)) (gS : ∃ f fd, FnOk P w K mg base CX0 5 f fd ["thing"] (spD K R_rank_shown) ∧ PySem.W.keepIn K (.ref f) = true ∧ L2.Binds K fd ["thing"] [] ∧ Gk K w mg "SHOWN" "rank" (.ref f))
    (S : Std K mg "finding_holds" "finding_holds" 164) : Def P w K mg base 6 "finding_holds" ["thing"] R_rank_shown :=
  def_of S sc_finding_holds (by rintro _ _ ⟨_, _, _, _, _, _, rfl, _⟩; rfl) (fun _ _ _ _ _ _ us hl => match us, hl with | [_], _ => rfl) fun f cdv A outer sh H E W ss d hr hR => by
    have hR' := hR
    obtain ⟨t, p, n, rows, cols, sums, rfl, G, G2, rfl⟩ := hR
    have nd := sc_finding_holds.nd
    obtain ⟨tk, g4⟩ := g4
    obtain ⟨fj, fd, j1, j2, j3, j4⟩ := gS
    have at0 : atI [PyData.str "rank", tT t, .int p, ppD rows cols sums] 0 = some (.str "rank") := rfl
    refine ss_ifR (k := false) (((ew_or (et_not (et_val (ee_isi (n := "tuple") (c := true) T.isinstance T.tuple (by decide +kernel) (ee_var 0) (by kernel_rfl)))) (fun hT => (ew_or ((cd_eqD ((sh_rk t p rows cols sums).ok) (sh_nilT.ok) (hu_of64 hr)).et (ee_var 0) (ee_tup ea_nil)) (fun hT => (ew_or1 (et_not (et_val (ee_isi (n := "str") (c := true) T.isinstance T.str (by decide +kernel) (ee_ixT (ee_var 0) ee_int (at0)) (by kernel_rfl))))))))).et).eq (by rw [show PyData.eqv (rkD t p rows cols sums) (.tuple []) = false from eqv_nilT _]; rfl)) (fun hk => by cases hk) fun _ => ?_
    refine ss_ifR (EW.et (ew_or (et_ninK g4 ((ee_ixT (ee_var 0) ee_int (at0)))) (fun _ => ew_or1 ((cd_neI).et (ee_lenT T.len (ee_var 0)) (ee_ixK g4 ((ee_ixT (ee_var 0) ee_int (at0)))))))) (fun hk => by cases hk) fun _ => ?_
    exact ss_judge 1 j1 j2 j3 j4 ((ee_ixT (ee_var 0) ee_int (at0))) (eas_cons (ee_var 0) eas_nil) hR' (fun v H' h => h) (hil := by simp [startE])
/-! ### _law_rank: slots 0 _law_rows, 1 _law_p, 2 _law_paper, 3 _law_fewer_rows, 4 _law_often, 5 _law_some -/
theorem sc__law_rank : FnScope ["_law_rows", "_law_p", "_law_paper", "_law_fewer_rows", "_law_often", "_law_some"] ["_law_rows", "_law_p"] (defScope (top 175)) := ⟨rfl, rfl, rfl, by decide +kernel, rfl, by decide +kernel, by decide +kernel⟩
def R_law_rank (ss : List Sl) (d : D) : Prop := ∃ (t : List (List Int)) (p : Int) (n : Nat), ss = [.val (tT t), .val (.int p)] ∧ GoodT t n p ∧ d = .int ((rankedF p t).rows.length : Int)
theorem def_law_rank (T : Txt K mg) (T_ranked : Def P w K mg base 4 "ranked" ["table", "p"] R_ranked) (T_ranked_holds : Def P w K mg base 4 "ranked_holds" ["table", "p", "thing"] R_ranked_holds) (T_finding_holds : Def P w K mg base 6 "finding_holds" ["thing"] R_rank_shown)
    (S : Std K mg "_law_rank" "_law_rank" 175) : Def P w K mg base 7 "_law_rank" ["_law_rows", "_law_p"] R_law_rank :=
  def_of S sc__law_rank (by rintro _ _ ⟨_, _, _, rfl, _⟩; rfl) (fun _ _ _ _ _ _ us hl => match us, hl with | [_, _], _ => rfl) fun f cdv A outer sh H E W ss d hr hR => by
    obtain ⟨t, p, n, rfl, G, rfl⟩ := hR
    have nd := sc__law_rank.nd
    have Q := (rankedF_ok G.pr.hp G.pr.h0 G.tab).paper G.pr.hp
    refine ss_asg 2 (d := ppD (rankedF p t).rows (srt (rankedF p t).cols) (sumsF (rankedF p t))) ((ee_callD T_ranked (eas_cons (ee_var 0) (eas_cons (ee_var 1) eas_nil)) (⟨t, p, n, rfl, G.pr, G.tab, G.m1, G.n1, rfl⟩))) ?_
    generalize (rankedF p t).rows = rows at Q ⊢
    generalize srt (rankedF p t).cols = cols at Q ⊢
    generalize sumsF (rankedF p t) = sums at Q ⊢
    have hs := Q.shape G.pr G.h12
    have h1 := holds_paper G.pr.hp G.tab Q
    have l12 := hs.l12
    have m1 := G.m1
    have lc := hs.lc
    have ls := hs.ls
    refine ss_ifR (k := false) (((ew_or (cd_notB.et (ee_callD T_ranked_holds (eas_cons (ee_var 0) (eas_cons (ee_var 1) (eas_cons (ee_var 2) eas_nil))) (⟨t, p, n, rows, cols, sums, rfl, G.pr.h0, G.tab, G.ne, G.m1, G.n1, hs, rfl⟩)) ee_bl) (fun hT => (ew_or1 (cd_notB.et (ee_callD T_finding_holds (eas_cons (ee_tup (ea_cons ee_str (ea_cons (ee_var 0) (ea_cons (ee_var 1) (ea_cons (ee_var 2) ea_nil))))) eas_nil) (⟨t, p, n, rows, cols, sums, rfl, G, hs, rfl⟩)) ee_bl)))).et).eq (by rw [h1]; rfl)) (fun hk => by cases hk) fun _ => ?_
    refine ss_asg 3 (d := ppD (rows.drop 1) (cols.drop 1) (lessS sums)) (((ee_tup (ea_cons (ee_slT (ee_ixT (ee_var 2) ee_int ((rfl : atI [tN rows, tN cols, .tuple (sums.map smD)] 0 = some (tN rows)))) (eo_some ee_int) eo_none) (ea_cons (ee_slT (ee_ixT (ee_var 2) ee_int ((rfl : atI [tN rows, tN cols, .tuple (sums.map smD)] 1 = some (tN cols)))) (eo_some ee_int) eo_none) (ea_cons (ee_tupleL T.tuple ((ee_lc  (l := sums) (en := smD) (own := [("_law_often", 4), ("_law_some", 5)]) (g := (gTup K 2 (gCons (gName 4) (gCons (gName 5) gNil)))) (js := [4, 5]) rfl nd (blkOk_by (by kernel_rfl)) (ei_tup (ee_ixT (ee_var 2) ee_int ((rfl : atI [tN rows, tN cols, .tuple (sums.map smD)] 2 = some (.tuple (sums.map smD)))))).m ((by omega)) (fun _ _ _ _ _ => (pg_tup rfl (pgs_cons (pg_name (i := 4) nd rfl (by first | exact Or.inl rfl | exact Or.inr rfl)) (pgs_cons (pg_name (i := 5) nd rfl (by first | exact Or.inl rfl | exact Or.inr rfl)) pgs_nil)))) (fun x hx => (tg_two 4 5)) (by decide) (fun x hx _ _ _ _ _ => (ee_tup (ea_cons (ee_var 4) (ea_cons (ee_slT (ee_var 5) (eo_some ee_int) eo_none) ea_nil)))))).el) ea_nil))))).eq ?_) ?_
    · show PyData.tuple [.tuple (cutD _ _ _), .tuple (cutD _ _ _), .tuple _] = ppD _ _ _
      unfold ppD lessS
      rw [cut_map, cut_map, cut_one, cut_one, List.map_map]
      refine congrArg (fun z => PyData.tuple [tN (rows.drop 1), tN (cols.drop 1), .tuple z]) (List.map_congr_left fun x _ => ?_)
      show PyData.tuple [.int x.1, .tuple (cutD (x.2.map PyData.int) (some 1) none)] = .tuple [.int x.1, tI (x.2.drop 1)]
      rw [cut_map, cut_one]
    · have h2 : (!rows.isEmpty && !decide (holdsF t p (rows.drop 1) (cols.drop 1) (lessS sums) = false)) = false := by
        cases hrw : rows with
        | nil => rfl
        | cons a l =>
          rw [← hrw, fewer_paper G.pr.hp G.tab Q (by rw [hrw]; simp)]
          simp
      refine ss_ifR (k := false) (((ew_and ((cd_neD ((sh_tN rows).ok) (sh_nilT.ok) (hu_of64 hr)).et (ee_ixT (ee_var 2) ee_int ((rfl : atI [tN rows, tN cols, .tuple (sums.map smD)] 0 = some (tN rows)))) (ee_tup ea_nil)) (fun hT => (ew_and1 (cd_notB.et (ee_callD T_ranked_holds (eas_cons (ee_var 0) (eas_cons (ee_var 1) (eas_cons (ee_var 3) eas_nil))) (⟨t, p, n, _, _, _, rfl, G.pr.h0, G.tab, G.ne, G.m1, G.n1, hs.less, rfl⟩)) ee_bl)))).et).eq ?_) (fun hk => by cases hk) fun _ => ?_
      · rw [show PyData.eqv (tN rows) (.tuple []) = rows.isEmpty from (eqv_nilT _).trans (by rw [List.isEmpty_map])]
        exact h2
      · refine ss_ret (((ee_lenT T.len (ee_ixT (ee_var 2) ee_int ((rfl : atI [tN rows, tN cols, .tuple (sums.map smD)] 0 = some (tN rows)))))).eq ?_) fun v H' h => h
        rw [List.length_map]
end Tf
end
section
set_option maxHeartbeats 4000000
namespace Tf
open PySem PySem.Spec PyProof.Rows L2
variable {P : Program} {w : World} {K : PySem.W.Frag} {mg : Str → Option Value} {base : Heap}
theorem primes_eq : primesL = prN.map fun (i : Nat) => (i : Int) := rfl
theorem primes_nat {p : Int} (h : p ∈ primesL) : ∃ q ∈ prN, p = (q : Int) := by
  rw [primes_eq] at h
  obtain ⟨q, h1, rfl⟩ := List.mem_map.mp h
  exact ⟨q, h1, rfl⟩
/-! ### inverse: slots 0 number, 1 p, 2 one -/
theorem sc_inverse : FnScope ["number", "p", "one"] ["number", "p"] (defScope (top 15)) := ⟨rfl, rfl, rfl, by decide +kernel, rfl, by decide +kernel, by decide +kernel⟩
def R_inverse (ss : List Sl) (d : D) : Prop := ∃ (a : Int) (q : Nat), ss = [.val (.int a), .val (.int q)] ∧ q ∈ prN ∧ ¬ (q : Int) ∣ a ∧ d = .int (invF a q)
theorem def_inverse (T : Txt K mg) (S : Std K mg "inverse" "inverse" 15) : Def P w K mg base 1 "inverse" ["number", "p"] R_inverse :=
  def_of S sc_inverse (by rintro _ _ ⟨_, _, rfl, _⟩; rfl) (fun _ _ _ _ _ _ us hl => match us, hl with | [_, _], _ => rfl) fun f cdv A outer sh H E W ss d hr hR => by
    obtain ⟨a, q, rfl, hq, ha, rfl⟩ := hR
    have nd := sc_inverse.nd
    have hb := prN_bd q hq
    obtain ⟨r, h1, _⟩ := invs_ok hq ha
    refine ss_ret ((ee_ixL ((ee_lcGM (en2 := PyData.int)  (l := List.range ((q : Int) - 1).toNat) (en := fun (i : Nat) => PyData.int (1 + (i : Int))) (h := fun (i : Nat) => (1 : Int) + (i : Int)) (own := [("one", 2)]) (g := (gName 2)) (js := [2]) rfl nd (blkOk_by (by kernel_rfl)) (ei_range2 T.range ee_int (ee_var 1) (by first | assumption | omega | decide | (simp; omega) | (simp; done)) (by first | assumption | omega | decide | (simp; omega) | (simp; done)) (by first | assumption | omega | decide | (simp; omega) | (simp; done)) (by first | assumption | omega | decide | (simp; omega) | (simp; done))).m ((by simp; omega)) (fun _ _ _ _ _ => (pg_name (i := 2) nd rfl (by first | exact Or.inl rfl | exact Or.inr rfl))) (fun x hx => (tg_name 2)) (by decide) (fun x hx _ _ _ _ _ => ets_one (cd_eqI.et (ee_mod (ee_mul (ee_var 2) (ee_var 0) ((.inl ⟨by omega, by have := List.mem_range.mp hx; omega⟩))) (ee_var 1) ((by omega))) ee_int)) (fun x hx hc _ _ _ _ _ => (ee_var 2)))).el ee_int (?_))) fun v H' h => h
    have e : ((List.range ((q : Int) - 1).toNat).filter fun (x : Nat) => decide ((1 + (x : Int)) * a % (q : Int) = 1)).map (fun (i : Nat) => (1 : Int) + (i : Int)) = invs a q := by
      unfold invs
      rw [List.filter_map]
      rfl
    rw [e, h1]
    exact atMi (k := 0) rfl rfl
/-! ### expressed: slots 0 paper, 1 p, 2 found, 3 often, 4 some, 5 by, 6 one -/
theorem sc_expressed : FnScope ["paper", "p", "found", "often", "some", "by", "one"] ["paper", "p"] (defScope (top 16)) := ⟨rfl, rfl, rfl, by decide +kernel, rfl, by decide +kernel, by decide +kernel⟩
def R_expressed (ss : List Sl) (d : D) : Prop := ∃ (rows cols : List Nat) (sums : List (Int × List Int)) (q : Nat), ss = [.val (ppD rows cols sums), .val (.int q)] ∧ q ∈ prN ∧ (∀ f ∈ sums, ¬ (q : Int) ∣ f.1 ∧ f.2.length ≤ 200) ∧ sums.length ≤ 200 ∧ d = tT (exF q sums)
theorem def_expressed (T : Txt K mg) (T_inverse : Def P w K mg base 1 "inverse" ["number", "p"] R_inverse) (S : Std K mg "expressed" "expressed" 16) : Def P w K mg base 2 "expressed" ["paper", "p"] R_expressed :=
  def_of S sc_expressed (by rintro _ _ ⟨_, _, _, _, rfl, _⟩; rfl) (fun _ _ _ _ _ _ us hl => match us, hl with | [_, _], _ => rfl) fun f cdv A outer sh H E W ss d hr hR => by
    obtain ⟨rows, cols, sums, q, rfl, hq, hs, hl, rfl⟩ := hR
    have nd := sc_expressed.nd
    have hb := prN_bd q hq
    refine ss_new' 2 (en_lst ea_nil) ?_
    refine ss_forE (l := sums) (en := smD) (fun pre => [(.val (ppD rows cols sums)), (.val (.int q)), (.lst ((exF q pre).map tI)), .any, .any, .any, .any]) (ei_tup (ee_ixT (ee_var 0) ee_int ((rfl : atI [tN rows, tN cols, .tuple (sums.map smD)] 2 = some (.tuple (sums.map smD)))))) (pg_tup rfl (pgs_cons (pg_name (i := 3) nd rfl (by first | exact Or.inl rfl | exact Or.inr rfl)) (pgs_cons (pg_name (i := 4) nd rfl (by first | exact Or.inl rfl | exact Or.inr rfl)) pgs_nil))) (fun x _ => (tg_two 3 4)) (by repeat' (first | exact True.intro | exact Or.inl rfl | exact Or.inr rfl | apply And.intro)) (fun pre f post hx => ?_) ?_
    · have hf : f ∈ sums := by rw [hx]; simp
      obtain ⟨h1, h2⟩ := hs f hf
      obtain ⟨r, _, i1, i2, _⟩ := invs_ok hq h1
      have hpl : pre.length < sums.length := by rw [hx]; simp
      refine ss_asg 5 ((ee_callD T_inverse (eas_cons (ee_var 3) (eas_cons (ee_var 1) eas_nil)) (⟨f.1, q, rfl, hq, h1, rfl⟩))) ?_
      refine ss_append 2 ((ee_tupleL T.tuple ((ee_lcM (en2 := PyData.int)  (own := [("one", 6)]) (g := (gName 6)) (js := [6]) rfl nd (blkOk_by (by kernel_rfl)) (ei_tup (ee_var 4)).m (by first | assumption | omega | decide | (simp; omega) | (simp; done)) (fun _ _ _ _ _ => (pg_name (i := 6) nd rfl (by first | exact Or.inl rfl | exact Or.inr rfl))) (fun x hx => (tg_name 6)) (by decide) (fun x hx _ _ _ _ _ => (ee_mod (ee_mul (ee_var 5) (ee_var 6) ((.inl ⟨by omega, by omega⟩))) (ee_var 1) ((by omega)))))).el)) ?_ (ss_end ?_)
      · simp [exF]; omega
      · unfold exF
        rw [List.map_append, List.map_append, List.map_cons, List.map_nil, List.map_cons, List.map_nil]
        exact (by repeat' (first | exact True.intro | exact Or.inl rfl | exact Or.inr rfl | apply And.intro))
    · exact ss_ret (ee_tupleL T.tuple (el_var 2)) fun v H' h => h
/-! ### factors: slots 0 table, 1 p, 2 paper, 3 right, 4 answer, 5 number -/
theorem sc_factors : FnScope ["table", "p", "paper", "right", "answer", "number"] ["table", "p"] (defScope (top 17)) := ⟨rfl, rfl, rfl, by decide +kernel, rfl, by decide +kernel, by decide +kernel⟩
def R_factors (ss : List Sl) (d : D) : Prop := ∃ (t : List (List Int)) (q n : Nat), ss = [.val (tT t), .val (.int q)] ∧ q ∈ prN ∧ GoodT t n q ∧ d = .tuple [tT (exF q (sumsF (rankedF q t))), tT (rtF q t (rankedF q t).rows)]
theorem paper_ex {t : List (List Int)} {n : Nat} {q : Nat} (hq : q ∈ prN) (G : GoodT t n q) (Q : Paper (q : Int) t.length n (gt t) (rankedF q t).rows (srt (rankedF q t).cols) (sumsF (rankedF q t))) : ∀ f ∈ sumsF (rankedF q t), ¬ (q : Int) ∣ f.1 ∧ f.2.length ≤ 200 := fun f hf => by
  obtain ⟨i, hi⟩ := List.mem_iff_getElem?.mp hf
  obtain ⟨q1, q2, _⟩ := Q.sm i f hi
  have := (Q.le G.pr.hp).1
  have := G.m1
  exact ⟨q1, by omega⟩
theorem def_factors (T : Txt K mg) (T_ranked : Def P w K mg base 4 "ranked" ["table", "p"] R_ranked) (T_expressed : Def P w K mg base 2 "expressed" ["paper", "p"] R_expressed) (S : Std K mg "factors" "factors" 17) : Def P w K mg base 5 "factors" ["table", "p"] R_factors :=
  def_of S sc_factors (by rintro _ _ ⟨_, _, _, rfl, _⟩; rfl) (fun _ _ _ _ _ _ us hl => match us, hl with | [_, _], _ => rfl) fun f cdv A outer sh H E W ss d hr hR => by
    obtain ⟨t, q, n, rfl, hq, G, rfl⟩ := hR
    have nd := sc_factors.nd
    have hb := prN_bd q hq
    have Q := (rankedF_ok G.pr.hp G.pr.h0 G.tab).paper G.pr.hp
    have hex := paper_ex hq G Q
    refine ss_asg 2 (d := ppD (rankedF q t).rows (srt (rankedF q t).cols) (sumsF (rankedF q t))) ((ee_callD T_ranked (eas_cons (ee_var 0) (eas_cons (ee_var 1) eas_nil)) (⟨t, q, n, rfl, G.pr, G.tab, G.m1, G.n1, rfl⟩))) ?_
    generalize (rankedF q t).rows = rows at Q hex ⊢
    generalize srt (rankedF q t).cols = cols at Q hex ⊢
    generalize sumsF (rankedF q t) = sums at Q hex ⊢
    have hm := (Q.le G.pr.hp).1
    have m1 := G.m1
    have n1 := G.n1
    have ls := Q.ls
    have get : ∀ x ∈ rows, atI (t.map tI) (x : Int) = some (tI (t.getD x [])) := fun x hx => by
      obtain ⟨a, ha, rfl⟩ := gn_mem hx
      rw [List.getD_eq_getElem?_getD, List.getElem?_eq_getElem (Q.rl a ha)]
      exact atM (List.getElem?_eq_getElem (Q.rl a ha))
    have len : ∀ x ∈ rows, (t.getD x []).length = n := fun x hx => by
      obtain ⟨a, ha, rfl⟩ := gn_mem hx
      rw [List.getD_eq_getElem?_getD, List.getElem?_eq_getElem (Q.rl a ha)]
      exact G.tab.len _ (List.getElem_mem _)
    refine (ss_lc 3 (l := rows) (en := nD) (own := [("number", 5)]) (g := (gName 5)) (js := [5]) rfl nd (blkOk_by (by kernel_rfl)) (ei_tup (ee_ixT (ee_var 2) ee_int ((rfl : atI [tN rows, tN cols, .tuple (sums.map smD)] 0 = some (tN rows))))).m ((by omega)) (fun _ _ _ _ _ => (pg_name (i := 5) nd rfl (by first | exact Or.inl rfl | exact Or.inr rfl))) (fun x hx => (tg_name 5)) (by decide) (fun x hx _ _ _ _ _ => (ee_tupleL T.tuple ((ee_lcM (en2 := PyData.int)  (l := t.getD x []) (en := PyData.int) (own := [("answer", 4)]) (g := (gName 4)) (js := [4]) rfl nd (blkOk_by (by kernel_rfl)) (ei_tup (ee_ixT (ee_var 0) (ee_var 5) (get x hx))).m ((by rw [len x hx]; omega)) (fun _ _ _ _ _ => (pg_name (i := 4) nd rfl (by first | exact Or.inl rfl | exact Or.inr rfl))) (fun y hy => (tg_name 4)) (by decide) (fun y hy _ _ _ _ _ => (ee_mod (ee_var 4) (ee_var 1) ((by omega)))))).el))) ?_
    refine ss_ret (((ee_tup (ea_cons (ee_callD T_expressed (eas_cons (ee_var 2) (eas_cons (ee_var 1) eas_nil)) (⟨rows, cols, sums, q, rfl, hq, hex, by omega, rfl⟩)) (ea_cons (ee_tupleL T.tuple ((ee_var 3)).el) ea_nil)))).eq ?_) fun v H' h => h
    unfold rtF
    rw [show tT (rows.map fun i => (t.getD i []).map (· % (q : Int))) = .tuple (rows.map fun i => tI ((t.getD i []).map (· % (q : Int)))) by show PyData.tuple _ = PyData.tuple _; rw [List.map_map]; rfl]
end Tf
end
section
set_option maxHeartbeats 4000000
namespace Tf
open PySem PySem.Spec PyProof.Rows L2
variable {P : Program} {w : World} {K : PySem.W.Frag} {mg : Str → Option Value} {base : Heap}
theorem any_eqv (x : List Int) : ∀ l : List (List Int), ((l.map tI).any fun z => PyData.eqv z (tI x)) = decide (x ∈ l)
  | [] => by simp
  | y :: l => by
    rw [List.map_cons, List.any_cons, any_eqv x l, eqv_tI]
    by_cases h : y = x
    · subst h; simp
    · have h' : ¬ x = y := fun z => h z.symm
      by_cases h2 : x ∈ l <;> simp [h, h', h2]
/-! ### numbered: slots 0 things, 1 seen, 2 found, 3 thing -/
theorem sc_numbered : FnScope ["things", "seen", "found", "thing"] ["things"] (defScope (top 31)) := ⟨rfl, rfl, rfl, by decide +kernel, rfl, by decide +kernel, by decide +kernel⟩
def R_numbered (ss : List Sl) (d : D) : Prop := ∃ (t : List (List Int)), ss = [.val (tT t)] ∧ t.length ≤ 1000 ∧ d = tN (numF t)
theorem sh_lT (l : List (List Int)) : Sh 2 (lT l) := .list (sh_map fun x _ => sh_tI x)
theorem def_numbered (T : Txt K mg) (S : Std K mg "numbered" "numbered" 31) : Def P w K mg base 1 "numbered" ["things"] R_numbered :=
  def_of S sc_numbered (by rintro _ _ ⟨_, rfl, _⟩; rfl) (fun _ _ _ _ _ _ us hl => match us, hl with | [_], _ => rfl) fun f cdv A outer sh H E W ss d hr hR => by
    obtain ⟨t, rfl, hm, rfl⟩ := hR
    have nd := sc_numbered.nd
    have hu := hu_65 hr
    refine ss_new' 1 (en_lst ea_nil) ?_
    refine ss_new' 2 (en_lst ea_nil) ?_
    refine ss_forE (l := t) (en := tI) (fun pre => [(.val (tT t)), (.lst ((nm pre).1.map tI)), (.lst ((nm pre).2.map nD)), .any]) (ei_tup (ee_var 0)) (pg_name (i := 3) nd rfl (by first | exact Or.inl rfl | exact Or.inr rfl)) (fun x _ => (tg_name 3)) (by repeat' (first | exact True.intro | exact Or.inl rfl | exact Or.inr rfl | apply And.intro)) (fun pre x post hx => ?_) ?_
    · have hpl : pre.length < t.length := by rw [hx]; simp
      obtain ⟨n1, n2, _⟩ := nm_ok _ pre rfl
      rw [nm_snoc]
      unfold nmStep
      generalize hs : (nm pre).1 = seen at n2 ⊢
      generalize hf : (nm pre).2 = found at n1 ⊢
      refine ss_if (k := !decide (x ∈ seen)) (env2 := [(.val (tT t)), (.lst ((nmSeen seen x).map tI)), (.lst (found.map nD)), (.val (tI x))]) ((et_ninL (ee_var 3) (el_var 1) (sh_tI x).ok (sh_lT seen).ok hu).eq (by rw [any_eqv])) (fun hk => ?_) (fun hk => ss_end ?_) ?_
      · have hn : ¬ x ∈ seen := by simpa using hk
        refine ss_append 1 (ee_var 3) ?_ (ss_end ?_)
        · simp; omega
        · unfold nmSeen
          rw [if_neg hn, List.map_append]
          exact (by repeat' (first | exact True.intro | exact Or.inl rfl | exact Or.inr rfl | apply And.intro))
      · have hn : x ∈ seen := by simpa using hk
        unfold nmSeen
        rw [if_pos hn]
        exact (by repeat' (first | exact True.intro | exact Or.inl rfl | exact Or.inr rfl | apply And.intro))
      · obtain ⟨g1, g2⟩ := ixOf_get (nmSeen_mem seen x)
        refine ss_append 2 (ee_index 1 (xs := (nmSeen seen x).map tI) (z := tI x) (j := ixOf (nmSeen seen x) x) (ee_var 3) (sh_lT _).ok (sh_tI x).ok (by rw [List.getElem?_map, g1]; rfl) (by rw [eqv_tI]; exact decide_eq_true rfl) (fun m z hm hz => ?_) hu) ?_ (ss_end ?_)
        · rw [List.getElem?_map] at hz
          cases h : (nmSeen seen x)[m]? with
          | none => rw [h] at hz; cases hz
          | some y =>
            rw [h] at hz
            cases hz
            rw [eqv_tI]
            exact decide_eq_false (g2 m y hm h)
        · simp; omega
        · rw [List.map_append]
          exact (by repeat' (first | exact True.intro | exact Or.inl rfl | exact Or.inr rfl | apply And.intro))
    · exact ss_ret (ee_tupleL T.tuple (el_var 2)) fun v H' h => h
/-! ### first_places: slots 0 things, 1 numbers, 2 at -/
theorem sc_first_places : FnScope ["things", "numbers", "at"] ["things"] (defScope (top 32)) := ⟨rfl, rfl, rfl, by decide +kernel, rfl, by decide +kernel, by decide +kernel⟩
def R_first_places (ss : List Sl) (d : D) : Prop := ∃ (t : List (List Int)), ss = [.val (tT t)] ∧ t.length ≤ 1000 ∧ d = tN (fpF (numF t))
theorem def_first_places (T : Txt K mg) (T_numbered : Def P w K mg base 1 "numbered" ["things"] R_numbered) (S : Std K mg "first_places" "first_places" 32) : Def P w K mg base 2 "first_places" ["things"] R_first_places :=
  def_of S sc_first_places (by rintro _ _ ⟨_, rfl, _⟩; rfl) (fun _ _ _ _ _ _ us hl => match us, hl with | [_], _ => rfl) fun f cdv A outer sh H E W ss d hr hR => by
    obtain ⟨t, rfl, hm, rfl⟩ := hR
    have nd := sc_first_places.nd
    have hl := numF_len t
    refine ss_asg 1 ((ee_callD T_numbered (eas_cons (ee_var 0) eas_nil) (⟨t, rfl, hm, rfl⟩))) ?_
    refine ss_ret (((ee_tupleL T.tuple ((ee_lcGM (en2 := PyData.int)  (l := List.range ((((numF t).map nD).length : Nat) : Int).toNat) (en := nD) (h := fun (i : Nat) => (i : Int)) (c := fpC (numF t)) (own := [("at", 2)]) (g := (gName 2)) (js := [2]) rfl nd (blkOk_by (by kernel_rfl)) ((ei_range1 T.range (ee_lenT T.len (ee_var 1)) (by first | assumption | omega | decide | (simp; omega) | (simp; done)) (by first | assumption | omega | decide | (simp; omega) | (simp; done))).eq (rgD_nat _)).m ((by simp; omega)) (fun _ _ _ _ _ => (pg_name (i := 2) nd rfl (by first | exact Or.inl rfl | exact Or.inr rfl))) (fun x hx => (tg_name 2)) (by decide) (fun x hx _ _ _ _ _ => ets_one (((show CmpD _ _ .NotIn (.int (gn (numF t) x : Int)) (.tuple (cutD ((numF t).map nD) none (some (x : Int)))) (fpC (numF t) x) from by rw [cut_map, cut_to, nDs]; exact cd_ninT)).et (ee_ixT (ee_var 1) (ee_var 2) ((show atI ((numF t).map nD) (x : Int) = some (.int (gn (numF t) x : Int)) from atM (gn_get (by have := List.mem_range.mp hx; simpa using this))))) (ee_slT (ee_var 1) eo_none (eo_some (ee_var 2))))) (fun x hx hc _ _ _ _ _ => (ee_var 2)))).el)).eq ?_) fun v H' h => h
    rw [List.map_map, Int.toNat_natCast, List.length_map]
    rfl
/-! ### unlike_rows: slots 0 table -/
theorem sc_unlike_rows : FnScope ["table"] ["table"] (defScope (top 33)) := ⟨rfl, rfl, rfl, by decide +kernel, rfl, by decide +kernel, by decide +kernel⟩
theorem def_unlike_rows (T : Txt K mg) (T_first_places : Def P w K mg base 2 "first_places" ["things"] R_first_places) (S : Std K mg "unlike_rows" "unlike_rows" 33) : Def P w K mg base 3 "unlike_rows" ["table"] R_first_places :=
  def_of S sc_unlike_rows (by rintro _ _ ⟨_, rfl, _⟩; rfl) (fun _ _ _ _ _ _ us hl => match us, hl with | [_], _ => rfl) fun f cdv A outer sh H E W ss d hr hR => by
    obtain ⟨t, rfl, hm, rfl⟩ := hR
    have nd := sc_unlike_rows.nd
    exact ss_ret ((ee_callD T_first_places (eas_cons (ee_var 0) eas_nil) (⟨t, rfl, hm, rfl⟩))) fun v H' h => h
/-! ### cuts -/
def manyL : List Int := [1, 2, 4, 8, 16, 32, 64]
theorem many_at {k : Nat} (h : k ≤ 6) : atI (manyL.map PyData.int) (k : Int) = some (.int ((2 ^ k : Nat) : Int)) := by
  have : k = 0 ∨ k = 1 ∨ k = 2 ∨ k = 3 ∨ k = 4 ∨ k = 5 ∨ k = 6 := by omega
  rcases this with rfl | rfl | rfl | rfl | rfl | rfl | rfl <;> rfl
def qD (n : Nat) (b : List Int) : D := .tuple [.int (n : Int), .str (tx b)]
/-- a question of n signs -/
structure Qs (n : Nat) (b : List Int) : Prop where
  n1 : 1 ≤ n
  n6 : n ≤ 6
  len : b.length = 2 ^ n
  b01 : ∀ x ∈ b, x = 0 ∨ x = 1
theorem two_le {k : Nat} (h : k ≤ 6) : 2 ^ k ≤ 64 := Nat.pow_le_pow_right (by omega) h
/-! ### cut: slots 0 question, 1 k, 2 n, 3 text, 4 wide, 5 sign, 6 i -/
theorem sc_cut : FnScope ["question", "k", "n", "text", "wide", "sign", "i"] ["question", "k"] (defScope (top 76)) := ⟨rfl, rfl, rfl, by decide +kernel, rfl, by decide +kernel, by decide +kernel⟩
def R_cut (ss : List Sl) (d : D) : Prop := ∃ (n k : Nat) (b : List Int), ss = [.val (qD n b), .val (.int k)] ∧ Qs n b ∧ k ≤ n ∧ d = tT (cutF b n k)
theorem def_cut (T : Txt K mg) (gM : Gd K mg "MANY_WORDS" (tI manyL)) (S : Std K mg "cut" "cut" 76) : Def P w K mg base 1 "cut" ["question", "k"] R_cut :=
  def_of S sc_cut (by rintro _ _ ⟨_, _, _, rfl, _⟩; rfl) (fun _ _ _ _ _ _ us hl => match us, hl with | [_, _], _ => rfl) fun f cdv A outer sh H E W ss d hr hR => by
    obtain ⟨n, k, b, rfl, Q, hk, rfl⟩ := hR
    have nd := sc_cut.nd
    have n6 := Q.n6
    have hw := two_le (k := n - k) (by omega)
    have hkw := two_le (k := k) (by omega)
    have hnw := two_le (k := n) (by omega)
    have hm1 := many_at (k := n - k) (by omega)
    have hm2 := many_at (k := k) (by omega)
    have hroom : ∀ i, i < 2 ^ k → (i + 1) * 2 ^ (n - k) ≤ b.length := fun i hi => by rw [Q.len]; exact cut_room hk hi
    have hlen := Q.len
    unfold cutF
    rw [← hlen] at hnw
    generalize 2 ^ (n - k) = wd at hw hm1 hroom ⊢
    generalize 2 ^ k = kd at hkw hm2 hroom ⊢
    have hcut : ∀ x : Nat, x < kd → cutS (tx b) (some ((x : Int) * (wd : Int))) (some (((x : Int) + 1) * (wd : Int))) = tx ((b.drop (x * wd)).take wd) := fun x hx => by
      have h1 := hroom x hx
      have h2 : x * wd ≤ (x + 1) * wd := Nat.mul_le_mul_right _ (by omega)
      rw [show (x : Int) * (wd : Int) = ((x * wd : Nat) : Int) by push_cast; rfl, show ((x : Int) + 1) * (wd : Int) = (((x + 1) * wd : Nat) : Int) by push_cast; rfl, cutS_tx b h1 h2]
      rw [show (x + 1) * wd - x * wd = wd by rw [Nat.add_mul, Nat.one_mul]; omega]
    refine ss_unpack (d := qD n b) (ee_var 0) (pg_tup rfl (pgs_cons (pg_name (i := 2) nd rfl (by first | exact Or.inl rfl | exact Or.inr rfl)) (pgs_cons (pg_name (i := 3) nd rfl (by first | exact Or.inl rfl | exact Or.inr rfl)) pgs_nil))) (tg_two 2 3) ?_
    refine ss_asg 4 ((ee_ixT (ee_gd gM) (ee_sub (ee_var 2) (ee_var 1)) ((show atI (manyL.map PyData.int) ((n : Int) - (k : Int)) = some (.int (wd : Int)) by rw [show (n : Int) - (k : Int) = ((n - k : Nat) : Int) by omega]; exact hm1)))) ?_
    refine ss_ret (((ee_tupleL T.tuple ((ee_lc  (l := List.range ((kd : Nat) : Int).toNat) (en := nD) (own := [("i", 6)]) (g := (gName 6)) (js := [6]) rfl nd (blkOk_by (by kernel_rfl)) ((ei_range1 T.range (ee_ixT (ee_gd gM) (ee_var 1) (hm2)) ((by omega)) ((by omega))).eq (rgD_nat _)).m ((by rw [List.length_range]; omega)) (fun _ _ _ _ _ => (pg_name (i := 6) nd rfl (by first | exact Or.inl rfl | exact Or.inr rfl))) (fun x hx => (tg_name 6)) (by decide) (fun x hx _ _ _ _ _ => (ee_tupleL T.tuple ((ee_lcM (en2 := PyData.int)  (l := (b.drop (x * wd)).take wd) (en := sgS) (h := fun (i : Int) => i) (own := [("sign", 5)]) (g := (gName 5)) (js := [5]) rfl nd (blkOk_by (by kernel_rfl)) ((ei_str (ee_slS (ee_var 3) (eo_some (ee_mul (ee_var 6) (ee_var 4) (.inr ⟨by omega, by omega⟩))) (eo_some (ee_mul (ee_add (ee_var 6) ee_int) (ee_var 4) (.inr ⟨by omega, by omega⟩))) ((by rw [tx_len]; omega)))).eq ((by rw [hcut x (by have := List.mem_range.mp hx; omega)]; exact sgD_tx _))).m ((by rw [List.length_take]; omega)) (fun _ _ _ _ _ => (pg_name (i := 5) nd rfl (by first | exact Or.inl rfl | exact Or.inr rfl))) (fun y hy => (tg_name 5)) (by decide) (fun y hy _ _ _ _ _ => (ee_intS T.int (ee_var 5) (int_sg (Q.b01 y (List.mem_of_mem_drop (List.mem_of_mem_take hy)))) ((show 1 ≤ 640 by omega)))))).el)))).el)).eq ?_) fun v H' h => h
    show PyData.tuple _ = PyData.tuple _
    rw [List.map_map, Int.toNat_natCast]
    refine congrArg PyData.tuple (List.map_congr_left fun i _ => ?_)
    show PyData.tuple _ = PyData.tuple _
    rw [List.map_map]
    rfl
end Tf
end
section
set_option maxHeartbeats 4000000
namespace Tf
open PySem PySem.Spec PyProof.Rows L2
variable {P : Program} {w : World} {K : PySem.W.Frag} {mg : Str → Option Value} {base : Heap}
def fpT (b : List Int) (n k : Nat) : List Nat := fpF (numF (cutF b n k))
def layD (b : List Int) (n k : Nat) : D := .tuple ((fpT b n k).map fun i => .tuple [nD (gn (numF (cutF b n (k + 1))) (2 * i)), nD (gn (numF (cutF b n (k + 1))) (2 * i + 1))])
def mcD (b : List Int) (n : Nat) : D := .tuple [.tuple ((List.range n).map (layD b n)), tI ((fpT b n n).map fun i => gt (cutF b n n) i 0)]
theorem fpT_lt {b : List Int} {n k i : Nat} (h : i ∈ fpT b n k) : i < 2 ^ k := by
  have := fp_lt h
  rwa [numF_len, cutF_len] at this
theorem range_get {n i : Nat} (h : i < n) : (List.range n)[i]? = some i := List.getElem?_range h
/-! ### machine_of: slots 0 question, 1 n, 2 text, 3 tables, 4 k, 5 numbers, 6 table, 7 layers, 8 on, 9 i -/
theorem sc_machine_of : FnScope ["question", "n", "text", "tables", "k", "numbers", "table", "layers", "on", "i"] ["question"] (defScope (top 84)) := ⟨rfl, rfl, rfl, by decide +kernel, rfl, by decide +kernel, by decide +kernel⟩
def R_machine_of (ss : List Sl) (d : D) : Prop := ∃ (n : Nat) (b : List Int), ss = [.val (qD n b)] ∧ Qs n b ∧ d = mcD b n
theorem def_machine_of (T : Txt K mg) (T_cut : Def P w K mg base 1 "cut" ["question", "k"] R_cut) (T_numbered : Def P w K mg base 1 "numbered" ["things"] R_numbered) (T_unlike_rows : Def P w K mg base 3 "unlike_rows" ["table"] R_first_places) (S : Std K mg "machine_of" "machine_of" 84) : Def P w K mg base 4 "machine_of" ["question"] R_machine_of :=
  def_of S sc_machine_of (by rintro _ _ ⟨_, _, rfl, _⟩; rfl) (fun _ _ _ _ _ _ us hl => match us, hl with | [_], _ => rfl) fun f cdv A outer sh H E W ss d hr hR => by
    obtain ⟨n, b, rfl, Q, rfl⟩ := hR
    have nd := sc_machine_of.nd
    have n6 := Q.n6
    have hrow : ∀ k, k ≤ n → (cutF b n k).length ≤ 64 := fun k hk => by rw [cutF_len]; exact two_le (by omega)
    refine ss_unpack (d := qD n b) (ee_var 0) (pg_tup rfl (pgs_cons (pg_name (i := 1) nd rfl (by first | exact Or.inl rfl | exact Or.inr rfl)) (pgs_cons (pg_name (i := 2) nd rfl (by first | exact Or.inl rfl | exact Or.inr rfl)) pgs_nil))) (tg_two 1 2) ?_
    refine ss_asg 3 (d := .list (((List.range (n + 1)).map (cutF b n)).map tT)) (((ee_lc  (l := List.range ((n : Int) + 1).toNat) (en := nD) (own := [("k", 4)]) (g := (gName 4)) (js := [4]) rfl nd (blkOk_by (by kernel_rfl)) ((ei_range1 T.range (ee_add (ee_var 1) ee_int) (by first | assumption | omega | decide | (simp; omega) | (simp; done)) (by first | assumption | omega | decide | (simp; omega) | (simp; done))).eq (rgD_nat _)).m ((by rw [List.length_range]; omega)) (fun _ _ _ _ _ => (pg_name (i := 4) nd rfl (by first | exact Or.inl rfl | exact Or.inr rfl))) (fun x hx => (tg_name 4)) (by decide) (fun x hx _ _ _ _ _ => (ee_callD T_cut (eas_cons (ee_var 0) (eas_cons (ee_var 4) eas_nil)) (⟨n, x, b, rfl, Q, by have := List.mem_range.mp hx; omega, rfl⟩))))).eq ?_) ?_
    · rw [show ((n : Int) + 1).toNat = n + 1 by omega, List.map_map]
      rfl
    have tget : ∀ k, k ≤ n → ((List.range (n + 1)).map (cutF b n))[k]? = some (cutF b n k) := fun k hk => by rw [List.getElem?_map, range_get (by omega)]; rfl
    refine (ss_lc 5 (l := (List.range (n + 1)).map (cutF b n)) (en := tT) (h := fun t => tN (numF t)) (own := [("table", 6)]) (g := (gName 6)) (js := [6]) rfl nd (blkOk_by (by kernel_rfl)) (ei_list (ee_var 3)).m (by first | assumption | omega | decide | (simp; omega) | (simp; done)) (fun _ _ _ _ _ => (pg_name (i := 6) nd rfl (by first | exact Or.inl rfl | exact Or.inr rfl))) (fun x hx => (tg_name 6)) (by decide) (fun x hx _ _ _ _ _ => (ee_callD T_numbered (eas_cons (ee_var 6) eas_nil) ((by obtain ⟨k, hk, rfl⟩ := List.mem_map.mp hx; have := List.mem_range.mp hk; exact ⟨_, rfl, by have := hrow k (by omega); omega, rfl⟩))))) ?_
    refine ss_new' 7 (en_lst ea_nil) ?_
    refine ss_forE (l := List.range ((n : Int)).toNat) (en := nD) (fun (pre : List Nat) => [(.val (qD n b)), (.val (.int n)), .any, (.val (.list (((List.range (n + 1)).map (cutF b n)).map tT))), .any, (.val (.list (((List.range (n + 1)).map (cutF b n)).map fun t => tN (numF t)))), .any, (.lst (pre.map (layD b n))), .any, .any]) ((ei_range1 T.range (ee_var 1) (by first | assumption | omega | decide | (simp; omega) | (simp; done)) (by first | assumption | omega | decide | (simp; omega) | (simp; done))).eq (rgD_nat _)) (pg_name (i := 4) nd rfl (by first | exact Or.inl rfl | exact Or.inr rfl)) (fun x _ => (tg_name 4)) (by repeat' (first | exact True.intro | exact Or.inl rfl | exact Or.inr rfl | apply And.intro)) (fun pre k post hx => ?_) ?_
    · have hx1 : k < n := by
        have : k ∈ List.range ((n : Int)).toNat := by rw [hx]; simp
        have := List.mem_range.mp this
        omega
      have hpl : pre.length < n := by
        have := congrArg List.length hx
        simp at this
        omega
      refine ss_asg 8 ((ee_ixL ((ee_var 5)).el (ee_add (ee_var 4) ee_int) ((show atI (((List.range (n + 1)).map (cutF b n)).map fun t => tN (numF t)) ((k : Int) + 1) = some (tN (numF (cutF b n (k + 1)))) from atMi (k := k + 1) (en := fun t => tN (numF t)) (by omega) (tget (k + 1) (by omega)))))) ?_
      have nl : (numF (cutF b n (k + 1))).length = 2 ^ (k + 1) := by rw [numF_len, cutF_len]
      have fl : (fpT b n k).length ≤ 64 := by
        have h1 : (fpT b n k).length ≤ (numF (cutF b n k)).length := by
          unfold fpT fpF
          exact Nat.le_trans (List.length_filter_le _ _) (by rw [List.length_range]; exact Nat.le_refl _)
        rw [numF_len] at h1
        have := hrow k (by omega)
        omega
      have t2 : 2 ^ (k + 1) = 2 * 2 ^ k := by rw [Nat.pow_succ]; omega
      have ix : ∀ x ∈ fpT b n k, x < 64 ∧ atI ((numF (cutF b n (k + 1))).map nD) (2 * (x : Int)) = some (nD (gn (numF (cutF b n (k + 1))) (2 * x))) ∧ atI ((numF (cutF b n (k + 1))).map nD) (2 * (x : Int) + 1) = some (nD (gn (numF (cutF b n (k + 1))) (2 * x + 1))) := fun x hx => by
        have h1 := fpT_lt hx
        have h2 := two_le (k := k) (by omega)
        exact ⟨by omega, atMi (k := 2 * x) (by omega) (gn_get (by rw [nl, t2]; omega)), atMi (k := 2 * x + 1) (by omega) (gn_get (by rw [nl, t2]; omega))⟩
      refine ss_append 7 (d := layD b n k) ((ee_tupleL T.tuple ((ee_lc  (l := fpT b n k) (en := nD) (own := [("i", 9)]) (g := (gName 9)) (js := [9]) rfl nd (blkOk_by (by kernel_rfl)) (ei_tup (ee_callD T_unlike_rows (eas_cons (ee_ixL ((ee_var 3)).el (ee_var 4) ((show atI (((List.range (n + 1)).map (cutF b n)).map tT) (k : Int) = some (tT (cutF b n k)) from atM (tget k (by omega))))) eas_nil) (⟨cutF b n k, rfl, by have := hrow k (by omega); omega, rfl⟩))).m ((by omega)) (fun _ _ _ _ _ => (pg_name (i := 9) nd rfl (by first | exact Or.inl rfl | exact Or.inr rfl))) (fun x hx => (tg_name 9)) (by decide) (fun x hx _ _ _ _ _ => (ee_tup (ea_cons (ee_ixT (ee_var 8) (ee_mul ee_int (ee_var 9) (.inl ⟨by omega, by omega⟩)) ((ix x hx).2.1)) (ea_cons (ee_ixT (ee_var 8) (ee_add (ee_mul ee_int (ee_var 9) (.inl ⟨by omega, by omega⟩)) ee_int) ((ix x hx).2.2)) ea_nil)))))).el)) ?_ (ss_end ?_)
      · simp; omega
      · rw [List.map_append]
        exact (by repeat' (first | exact True.intro | exact Or.inl rfl | exact Or.inr rfl | apply And.intro))
    · have fl : (fpT b n n).length ≤ 64 := by
        have h1 : (fpT b n n).length ≤ (numF (cutF b n n)).length := by
          unfold fpT fpF
          exact Nat.le_trans (List.length_filter_le _ _) (by rw [List.length_range]; exact Nat.le_refl _)
        rw [numF_len] at h1
        have := hrow n (by omega)
        omega
      have row : ∀ x ∈ fpT b n n, atI ((cutF b n n).map tI) (x : Int) = some (tI ((cutF b n n).getD x [])) ∧ atI (((cutF b n n).getD x []).map PyData.int) 0 = some (.int (gt (cutF b n n) x 0)) := fun x hx => by
        have h1 := fpT_lt hx
        have h2 : x < (cutF b n n).length := by rw [cutF_len]; exact h1
        have h3 := cutF_row Q.len (Nat.le_refl n) _ (List.getElem_mem h2)
        rw [List.getD_eq_getElem?_getD, List.getElem?_eq_getElem h2]
        refine ⟨atM (List.getElem?_eq_getElem h2), ?_⟩
        rw [gt_some (List.getElem?_eq_getElem h2)]
        exact at_gl (i := 0) (by show 0 < ((cutF b n n)[x]).length; rw [h3]; exact Nat.two_pow_pos _)
      refine ss_ret (((ee_tup (ea_cons (ee_tupleL T.tuple (el_var 7)) (ea_cons (ee_tupleL T.tuple ((ee_lc  (l := fpT b n n) (en := nD) (h := fun (i : Nat) => PyData.int (gt (cutF b n n) i 0)) (own := [("i", 9)]) (g := (gName 9)) (js := [9]) rfl nd (blkOk_by (by kernel_rfl)) (ei_tup (ee_callD T_unlike_rows (eas_cons (ee_ixL ((ee_var 3)).el (ee_var 1) ((show atI (((List.range (n + 1)).map (cutF b n)).map tT) (n : Int) = some (tT (cutF b n n)) from atM (tget n (by omega))))) eas_nil) (⟨cutF b n n, rfl, by have := hrow n (by omega); omega, rfl⟩))).m ((by omega)) (fun _ _ _ _ _ => (pg_name (i := 9) nd rfl (by first | exact Or.inl rfl | exact Or.inr rfl))) (fun x hx => (tg_name 9)) (by decide) (fun x hx _ _ _ _ _ => (ee_ixT (ee_ixT (ee_ixL ((ee_var 3)).el (ee_var 1) ((show atI (((List.range (n + 1)).map (cutF b n)).map tT) (n : Int) = some (tT (cutF b n n)) from atM (tget n (by omega))))) (ee_var 9) ((row x hx).1)) ee_int ((row x hx).2))))).el) ea_nil)))).eq ?_) fun v H' h => h
      rw [Int.toNat_natCast]
      unfold mcD
      rw [show tI ((fpT b n n).map fun i => gt (cutF b n n) i 0) = .tuple ((fpT b n n).map fun i => PyData.int (gt (cutF b n n) i 0)) by show PyData.tuple _ = _; rw [List.map_map]; rfl]
/-! ### sizes_of: slots 0 machine, 1 layer -/
theorem sc_sizes_of : FnScope ["machine", "layer"] ["machine"] (defScope (top 113)) := ⟨rfl, rfl, rfl, by decide +kernel, rfl, by decide +kernel, by decide +kernel⟩
def R_sizes_of (ss : List Sl) (d : D) : Prop := ∃ (a : D) (ls : List (List D × D)) (e : List D), ss = [.val (.tuple [a, .tuple (ls.map fun l => .tuple [.tuple l.1, l.2]), .tuple e])] ∧ ls.length ≤ 1000 ∧ d = .tuple ((ls.map fun l => PyData.int (l.1.length : Int)) ++ [.int (e.length : Int)])
theorem def_sizes_of (T : Txt K mg) (S : Std K mg "sizes_of" "sizes_of" 113) : Def P w K mg base 1 "sizes_of" ["machine"] R_sizes_of :=
  def_of S sc_sizes_of (by rintro _ _ ⟨_, _, _, rfl, _⟩; rfl) (fun _ _ _ _ _ _ us hl => match us, hl with | [_], _ => rfl) fun f cdv A outer sh H E W ss d hr hR => by
    obtain ⟨a, ls, e, rfl, hl, rfl⟩ := hR
    have nd := sc_sizes_of.nd
    refine ss_ret (((ee_tupleL T.tuple ((ee_cat ((ee_lcM (en2 := PyData.int)  (l := ls) (en := fun l => PyData.tuple [.tuple l.1, l.2]) (h := fun l => (l.1.length : Int)) (own := [("layer", 1)]) (g := (gName 1)) (js := [1]) rfl nd (blkOk_by (by kernel_rfl)) (ei_tup (ee_ixT (ee_var 0) ee_int ((rfl : atI [a, .tuple (ls.map fun l => PyData.tuple [.tuple l.1, l.2]), .tuple e] 1 = some (.tuple (ls.map fun l => PyData.tuple [.tuple l.1, l.2])))))).m ((by omega)) (fun _ _ _ _ _ => (pg_name (i := 1) nd rfl (by first | exact Or.inl rfl | exact Or.inr rfl))) (fun x hx => (tg_name 1)) (by decide) (fun x hx _ _ _ _ _ => (ee_lenT T.len (ee_ixT (ee_var 1) ee_int ((rfl : atI [PyData.tuple x.1, x.2] 0 = some (.tuple x.1)))))))).el ((ee_lst (ea_cons (ee_lenT T.len (ee_ixT (ee_var 0) ee_int ((rfl : atI [a, .tuple (ls.map fun l => PyData.tuple [.tuple l.1, l.2]), .tuple e] 2 = some (.tuple e))))) ea_nil))).el ((by simp; omega)))).el)).eq ?_) fun v H' h => h
    rw [List.map_map]
    rfl
end Tf
end
section
set_option maxHeartbeats 4000000
namespace Tf
open PySem PySem.Spec PyProof.Rows L2
variable {P : Program} {w : World} {K : PySem.W.Frag} {mg : Str → Option Value} {base : Heap}
theorem pr_nat {q : Nat} (h : q ∈ prN) (m : Nat) : Pr (q : Int) m := by
  have := prN_bd q h
  exact ⟨prN_prI h, by omega, by omega, fun z => by omega⟩
theorem pp_nat {q : Nat} (h : q ∈ prN) : (q : Int) = 0 ∨ (q : Int) ∈ primesL := .inr (by rw [primes_eq]; exact List.mem_map.mpr ⟨q, h, rfl⟩)
theorem cut_good {b : List Int} {n k q : Nat} (Q : Qs n b) (hk : k ≤ n) (hq : q ∈ prN) : GoodT (cutF b n k) (2 ^ (n - k)) q := by
  have n6 := Q.n6
  have h1 := two_le (k := k) (by omega)
  have h2 := two_le (k := n - k) (by omega)
  refine ⟨cutF_tab Q.len Q.b01 hk, fun z => ?_, Nat.two_pow_pos _, by rw [cutF_len]; omega, by omega, ?_, pr_nat hq _, pp_nat hq⟩
  · have := cutF_len b n k
    rw [z] at this
    have := Nat.two_pow_pos k
    simp at *
    omega
  · rw [cutF_len]
    by_cases h : k ≤ 3
    · have : (2 : Nat) ^ k ≤ 2 ^ 3 := Nat.pow_le_pow_right (by omega) h
      omega
    · have : (2 : Nat) ^ (n - k) ≤ 2 ^ 3 := Nat.pow_le_pow_right (by omega) (by omega)
      omega
/-- the k-th piece's paper, its ways -/
def rkS (b : List Int) (n q k : Nat) : RS := rankedF q (cutF b n k)
def wyT (b : List Int) (n q k : Nat) : List (List Int) := exF q (sumsF (rkS b n q k))
def smL (b : List Int) (n q k : Nat) (s : Nat) : List D := (rkS b n q k).rows.map fun r => tI ((wyT b n q (k + 1)).getD (2 * r + s) [])
def smE (b : List Int) (n q : Nat) : List D := (rkS b n q n).rows.map fun r => PyData.int (gt (cutF b n n) r 0 % (q : Int))
def smgD (b : List Int) (n q : Nat) : D := .tuple [tI ((wyT b n q 0).getD 0 []), .tuple (((List.range n).map fun k => (smL b n q k 0, PyData.tuple (smL b n q k 1))).map fun l => .tuple [.tuple l.1, l.2]), .tuple (smE b n q)]
theorem good_paper {t : List (List Int)} {n : Nat} {p : Int} (G : GoodT t n p) : Paper p t.length n (gt t) (rankedF p t).rows (srt (rankedF p t).cols) (sumsF (rankedF p t)) := (rankedF_ok G.pr.hp G.pr.h0 G.tab).paper G.pr.hp
theorem exF_len (p : Int) (sums : List (Int × List Int)) : (exF p sums).length = sums.length := by simp [exF]
/-! ### summing_of: slots 0 question, 1 p, 2 n, 3 pieces, 4 k, 5 papers, 6 piece, 7 ways, 8 paper, 9 layers, 10 numbers, 11 number, 12 sign, 13 last -/
theorem sc_summing_of : FnScope ["question", "p", "n", "pieces", "k", "papers", "piece", "ways", "paper", "layers", "numbers", "number", "sign", "last"] ["question", "p"] (defScope (top 166)) := ⟨rfl, rfl, rfl, by decide +kernel, rfl, by decide +kernel, by decide +kernel⟩
def R_summing_of (ss : List Sl) (d : D) : Prop := ∃ (n : Nat) (b : List Int) (q : Nat), ss = [.val (qD n b), .val (.int q)] ∧ Qs n b ∧ q ∈ prN ∧ d = smgD b n q
theorem def_summing_of (T : Txt K mg) (T_cut : Def P w K mg base 1 "cut" ["question", "k"] R_cut) (T_ranked : Def P w K mg base 4 "ranked" ["table", "p"] R_ranked) (T_expressed : Def P w K mg base 2 "expressed" ["paper", "p"] R_expressed) (S : Std K mg "summing_of" "summing_of" 166) : Def P w K mg base 5 "summing_of" ["question", "p"] R_summing_of :=
  def_of S sc_summing_of (by rintro _ _ ⟨_, _, _, rfl, _⟩; rfl) (fun _ _ _ _ _ _ us hl => match us, hl with | [_, _], _ => rfl) fun f cdv A outer sh H E W ss d hr hR => by
    obtain ⟨n, b, q, rfl, Q, hq, rfl⟩ := hR
    have nd := sc_summing_of.nd
    have n6 := Q.n6
    have hb := prN_bd q hq
    have hrow : ∀ k, k ≤ n → (cutF b n k).length ≤ 64 := fun k hk => by rw [cutF_len]; exact two_le (by omega)
    have GG : ∀ k, k ≤ n → GoodT (cutF b n k) (2 ^ (n - k)) q := fun k hk => cut_good Q hk hq
    have PP := fun k hk => good_paper (GG k hk)
    refine ss_asg 2 ((ee_ixT (ee_var 0) ee_int ((rfl : atI [PyData.int (n : Int), .str (tx b)] 0 = some (.int (n : Int)))))) ?_
    refine ss_asg 3 (d := .list (((List.range (n + 1)).map (cutF b n)).map tT)) (((ee_lc  (l := List.range ((n : Int) + 1).toNat) (en := nD) (own := [("k", 4)]) (g := (gName 4)) (js := [4]) rfl nd (blkOk_by (by kernel_rfl)) ((ei_range1 T.range (ee_add (ee_var 2) ee_int) (by first | assumption | omega | decide | (simp; omega) | (simp; done)) (by first | assumption | omega | decide | (simp; omega) | (simp; done))).eq (rgD_nat _)).m ((by rw [List.length_range]; omega)) (fun _ _ _ _ _ => (pg_name (i := 4) nd rfl (by first | exact Or.inl rfl | exact Or.inr rfl))) (fun x hx => (tg_name 4)) (by decide) (fun x hx _ _ _ _ _ => (ee_callD T_cut (eas_cons (ee_var 0) (eas_cons (ee_var 4) eas_nil)) (⟨n, x, b, rfl, Q, by have := List.mem_range.mp hx; omega, rfl⟩))))).eq ?_) ?_
    · rw [show ((n : Int) + 1).toNat = n + 1 by omega, List.map_map]
      rfl
    refine (ss_lc 5 (l := (List.range (n + 1)).map (cutF b n)) (en := tT) (h := fun t => paperD (rankedF q t)) (own := [("piece", 6)]) (g := (gName 6)) (js := [6]) rfl nd (blkOk_by (by kernel_rfl)) (ei_list (ee_var 3)).m (by first | assumption | omega | decide | (simp; omega) | (simp; done)) (fun _ _ _ _ _ => (pg_name (i := 6) nd rfl (by first | exact Or.inl rfl | exact Or.inr rfl))) (fun x hx => (tg_name 6)) (by decide) (fun x hx _ _ _ _ _ => (ee_callD T_ranked (eas_cons (ee_var 6) (eas_cons (ee_var 1) eas_nil)) ((by obtain ⟨k, hk, rfl⟩ := List.mem_map.mp hx; have := List.mem_range.mp hk; have g := GG k (by omega); exact ⟨_, _, _, rfl, g.pr, g.tab, g.m1, g.n1, rfl⟩))))) ?_
    have epap : (((List.range (n + 1)).map (cutF b n)).map fun t => paperD (rankedF q t)) = (List.range (n + 1)).map fun k => paperD (rkS b n q k) := by rw [List.map_map]; rfl
    rw [epap]
    refine ss_asg 7 (d := .list (((List.range (n + 1)).map (wyT b n q)).map tT)) (((ee_lc  (l := List.range (n + 1)) (en := fun k => paperD (rkS b n q k)) (h := fun k => tT (wyT b n q k)) (own := [("paper", 8)]) (g := (gName 8)) (js := [8]) rfl nd (blkOk_by (by kernel_rfl)) (ei_list (ee_var 5)).m ((by rw [List.length_range]; omega)) (fun _ _ _ _ _ => (pg_name (i := 8) nd rfl (by first | exact Or.inl rfl | exact Or.inr rfl))) (fun x hx => (tg_name 8)) (by decide) (fun x hx _ _ _ _ _ => (ee_callD T_expressed (eas_cons (ee_var 8) (eas_cons (ee_var 1) eas_nil)) ((by have hk := List.mem_range.mp hx; have Q1 := PP x (by omega); have := hrow x (by omega); exact ⟨_, _, _, q, rfl, hq, paper_ex hq (GG x (by omega)) Q1, by have := Q1.ls; show (sumsF (rankedF q (cutF b n x))).length ≤ 200; omega, rfl⟩)))))).eq (by rw [List.map_map]; rfl)) ?_
    refine ss_new' 9 (en_lst ea_nil) ?_
    have pget : ∀ k, k ≤ n → atI ((List.range (n + 1)).map fun k => paperD (rkS b n q k)) (k : Int) = some (paperD (rkS b n q k)) := fun k hk => atM (en := fun k => paperD (rkS b n q k)) (range_get (by omega))
    have wget : ∀ k, k ≤ n → atI (((List.range (n + 1)).map (wyT b n q)).map tT) (k : Int) = some (tT (wyT b n q k)) := fun k hk => atM (by rw [List.getElem?_map, range_get (by omega)]; rfl)
    have cget : ∀ k, k ≤ n → atI (((List.range (n + 1)).map (cutF b n)).map tT) (k : Int) = some (tT (cutF b n k)) := fun k hk => atM (by rw [List.getElem?_map, range_get (by omega)]; rfl)
    have wlen : ∀ k, k ≤ n → (wyT b n q k).length = 2 ^ k := fun k hk => by
      have h1 := (PP k hk).ls
      unfold wyT rkS
      rw [exF_len, h1, cutF_len]
    have rlow : ∀ k, k ≤ n → ∀ x ∈ (rkS b n q k).rows, x < 2 ^ k := fun k hk x hx => by
      obtain ⟨a, ha, rfl⟩ := gn_mem hx
      have h1 := (PP k hk).rl a ha
      rwa [cutF_len] at h1
    have rlen : ∀ k, k ≤ n → (rkS b n q k).rows.length ≤ 64 := fun k hk => by
      have h1 := ((PP k hk).le (prN_prI hq)).1
      have := hrow k hk
      unfold rkS
      omega
    refine ss_forE (l := List.range ((n : Int)).toNat) (en := nD) (fun (pre : List Nat) => [(.val (qD n b)), (.val (.int q)), (.val (.int n)), (.val (.list (((List.range (n + 1)).map (cutF b n)).map tT))), .any, (.val (.list ((List.range (n + 1)).map fun k => paperD (rkS b n q k)))), .any, (.val (.list (((List.range (n + 1)).map (wyT b n q)).map tT))), .any, (.lst (pre.map fun k => PyData.tuple [.tuple (smL b n q k 0), .tuple (smL b n q k 1)])), .any, .any, .any, .any]) ((ei_range1 T.range (ee_var 2) (by first | assumption | omega | decide | (simp; omega) | (simp; done)) (by first | assumption | omega | decide | (simp; omega) | (simp; done))).eq (rgD_nat _)) (pg_name (i := 4) nd rfl (by first | exact Or.inl rfl | exact Or.inr rfl)) (fun x _ => (tg_name 4)) (by repeat' (first | exact True.intro | exact Or.inl rfl | exact Or.inr rfl | apply And.intro)) (fun pre k post hx => ?_) ?_
    · have hx1 : k < n := by
        have : k ∈ List.range ((n : Int)).toNat := by rw [hx]; simp
        have := List.mem_range.mp this
        omega
      have hpl : pre.length < n := by
        have := congrArg List.length hx
        simp at this
        omega
      have t2 : 2 ^ (k + 1) = 2 * 2 ^ k := by rw [Nat.pow_succ]; omega
      have r64 := rlen k (by omega)
      refine ss_asg 10 ((ee_ixT (ee_ixL ((ee_var 5)).el (ee_var 4) (pget k (by omega))) ee_int ((rfl : atI [tN (rkS b n q k).rows, tN (srt (rkS b n q k).cols), .tuple ((sumsF (rkS b n q k)).map smD)] 0 = some (tN (rkS b n q k).rows))))) ?_
      have ix : ∀ x ∈ [(0 : Int), 1], ∀ y ∈ (rkS b n q k).rows, y < 64 ∧ atI ((wyT b n q (k + 1)).map tI) (2 * (y : Int) + x) = some (tI ((wyT b n q (k + 1)).getD (2 * y + x.toNat) [])) := fun x hx y hy => by
        have h1 := rlow k (by omega) y hy
        have h2 := two_le (k := k) (by omega)
        have h3 : x = 0 ∨ x = 1 := by simpa using hx
        have h4 : 2 * y + x.toNat < (wyT b n q (k + 1)).length := by rw [wlen _ (by omega), t2]; omega
        refine ⟨by omega, ?_⟩
        rw [List.getD_eq_getElem?_getD, List.getElem?_eq_getElem h4]
        exact atMi (k := 2 * y + x.toNat) (by omega) (List.getElem?_eq_getElem h4)
      refine ss_append 9 (d := PyData.tuple [.tuple (smL b n q k 0), .tuple (smL b n q k 1)]) ((ee_tupleL T.tuple ((ee_lc  (l := [(0 : Int), 1]) (en := PyData.int) (h := fun (s : Int) => PyData.tuple (smL b n q k s.toNat)) (own := [("sign", 12)]) (g := (gName 12)) (js := [12]) rfl nd (blkOk_by (by kernel_rfl)) (ei_tup (ee_tup (ea_cons ee_int (ea_cons ee_int ea_nil)))).m ((by decide)) (fun _ _ _ _ _ => (pg_name (i := 12) nd rfl (by first | exact Or.inl rfl | exact Or.inr rfl))) (fun x hx => (tg_name 12)) (by decide) (fun x hx _ _ _ _ _ => (ee_tupleL T.tuple ((ee_lc  (l := (rkS b n q k).rows) (en := nD) (h := fun (r : Nat) => tI ((wyT b n q (k + 1)).getD (2 * r + x.toNat) [])) (own := [("number", 11)]) (g := (gName 11)) (js := [11]) rfl nd (blkOk_by (by kernel_rfl)) (ei_tup (ee_var 10)).m ((by omega)) (fun _ _ _ _ _ => (pg_name (i := 11) nd rfl (by first | exact Or.inl rfl | exact Or.inr rfl))) (fun y hy => (tg_name 11)) (by decide) (fun y hy _ _ _ _ _ => (ee_ixT (ee_ixL ((ee_var 7)).el (ee_add (ee_var 4) ee_int) ((show atI (((List.range (n + 1)).map (wyT b n q)).map tT) ((k : Int) + 1) = some (tT (wyT b n q (k + 1))) from wget (k + 1) (by omega)))) (ee_add (ee_mul ee_int (ee_var 11) (.inl ⟨by omega, by omega⟩)) (ee_var 12)) ((ix x hx y hy).2))))).el)))).el)) ?_ (ss_end ?_)
      · simp; omega
      · rw [List.map_append]
        exact (by repeat' (first | exact True.intro | exact Or.inl rfl | exact Or.inr rfl | apply And.intro))
    · have r64 := rlen n (by omega)
      have row : ∀ x ∈ (rkS b n q n).rows, atI ((cutF b n n).map tI) (x : Int) = some (tI ((cutF b n n).getD x [])) ∧ atI (((cutF b n n).getD x []).map PyData.int) 0 = some (.int (gt (cutF b n n) x 0)) := fun x hx => by
        have h1 := rlow n (Nat.le_refl n) x hx
        have h2 : x < (cutF b n n).length := by rw [cutF_len]; exact h1
        have h3 := cutF_row Q.len (Nat.le_refl n) _ (List.getElem_mem h2)
        rw [List.getD_eq_getElem?_getD, List.getElem?_eq_getElem h2]
        refine ⟨atM (List.getElem?_eq_getElem h2), ?_⟩
        rw [gt_some (List.getElem?_eq_getElem h2)]
        exact at_gl (i := 0) (by show 0 < ((cutF b n n)[x]).length; rw [h3]; exact Nat.two_pow_pos _)
      refine ss_asg 13 (d := .tuple (smE b n q)) (((ee_tupleL T.tuple ((ee_lcM (en2 := PyData.int)  (l := (rkS b n q n).rows) (en := nD) (h := fun (r : Nat) => gt (cutF b n n) r 0 % (q : Int)) (own := [("number", 11)]) (g := (gName 11)) (js := [11]) rfl nd (blkOk_by (by kernel_rfl)) (ei_tup (ee_ixT (ee_ixL ((ee_var 5)).el (ee_var 2) (pget n (by omega))) ee_int ((rfl : atI [tN (rkS b n q n).rows, tN (srt (rkS b n q n).cols), .tuple ((sumsF (rkS b n q n)).map smD)] 0 = some (tN (rkS b n q n).rows))))).m ((by omega)) (fun _ _ _ _ _ => (pg_name (i := 11) nd rfl (by first | exact Or.inl rfl | exact Or.inr rfl))) (fun x hx => (tg_name 11)) (by decide) (fun x hx _ _ _ _ _ => (ee_mod (ee_ixT (ee_ixT (ee_ixL ((ee_var 3)).el (ee_var 2) (cget n (by omega))) (ee_var 11) ((row x hx).1)) ee_int ((row x hx).2)) (ee_var 1) ((by omega)))))).el)).eq (by rw [List.map_map]; rfl)) ?_
      have w0 : 0 < (wyT b n q 0).length := by rw [wlen 0 (by omega)]; decide
      refine ss_ret (((ee_tup (ea_cons (ee_ixT (ee_ixL ((ee_var 7)).el ee_int ((show atI (((List.range (n + 1)).map (wyT b n q)).map tT) 0 = some (tT (wyT b n q 0)) from wget 0 (by omega)))) ee_int ((show atI ((wyT b n q 0).map tI) 0 = some (tI ((wyT b n q 0).getD 0 [])) by rw [List.getD_eq_getElem?_getD, List.getElem?_eq_getElem w0]; exact atMi (k := 0) rfl (List.getElem?_eq_getElem w0)))) (ea_cons (ee_tupleL T.tuple (el_var 9)) (ea_cons (ee_var 13) ea_nil))))).eq ?_) fun v H' h => h
      rw [Int.toNat_natCast]
      unfold smgD
      rw [List.map_map]
      rfl
end Tf
end
section
set_option maxHeartbeats 4000000
namespace Tf
open PySem PySem.Spec PyProof.Rows L2
variable {P : Program} {w : World} {K : PySem.W.Frag} {mg : Str → Option Value} {base : Heap}
theorem hu_1 {k : Nat} {A : Around} (hr : Room k A) : A.units + 1 < cLine := by have := hr.un; omega
def whoS (c : Bool) : Str := if c then "col" else "row"
def trL : Tree → List D
  | .leaf a => [.str "end", .int a]
  | .node c s t u => [.str (whoS c), tI s, .tuple (trL t), .tuple (trL u)]
abbrev trD (T : Tree) : D := .tuple (trL T)
def hdS : Tree → Str
  | .leaf _ => "end"
  | .node c _ _ _ => whoS c
theorem tr_at0 (T : Tree) : atI (trL T) 0 = some (.str (hdS T)) := by cases T <;> rfl
theorem hd_end (T : Tree) : decide (hdS T = "end") = (match T with | .leaf _ => true | .node .. => false) := by
  cases T with
  | leaf a => exact decide_eq_true rfl
  | node c s t u => cases c with
    | false => exact decide_eq_false (show ¬ ("row" : Str) = "end" by decide)
    | true => exact decide_eq_false (show ¬ ("col" : Str) = "end" by decide)
/-! ### sign_at: slots 0 tree, 1 i, 2 j -/
theorem sc_sign_at : FnScope ["tree", "i", "j"] ["tree", "i", "j"] (defScope (top 118)) := ⟨rfl, rfl, rfl, by decide +kernel, rfl, by decide +kernel, by decide +kernel⟩
def R_sign_at (ss : List Sl) (d : D) : Prop := ∃ (c : Bool) (s : List Int) (t u : Tree) (i j : Nat), ss = [.val (trD (.node c s t u)), .val (.int i), .val (.int j)] ∧ (if c then j else i) < s.length ∧ d = .int (gl s (if c then j else i))
theorem def_sign_at (T : Txt K mg) (S : Std K mg "sign_at" "sign_at" 118) : Def P w K mg base 1 "sign_at" ["tree", "i", "j"] R_sign_at :=
  def_of S sc_sign_at (by rintro _ _ ⟨_, _, _, _, _, _, rfl, _⟩; rfl) (fun _ _ _ _ _ _ us hl => match us, hl with | [_, _, _], _ => rfl) fun f cdv A outer sh H E W ss d hr hR => by
    obtain ⟨c, s, t, u, i, j, rfl, hl, rfl⟩ := hR
    have nd := sc_sign_at.nd
    have a0 : atI [PyData.str (whoS c), tI s, .tuple (trL t), .tuple (trL u)] 0 = some (.str (whoS c)) := rfl
    have a1 : atI [PyData.str (whoS c), tI s, .tuple (trL t), .tuple (trL u)] 1 = some (tI s) := rfl
    refine ss_ifR ((cd_eqS.et (ee_ixT (ee_var 0) ee_int (a0)) ee_str)) (fun hk => ?_) fun hk => ?_
    · cases c with
      | false => exact ss_ret ((ee_ixT (ee_ixT (ee_var 0) ee_int (a1)) (ee_var 1) (at_gl hl))) fun v H' h => h
      | true => exact absurd (of_decide_eq_true hk) (show ¬ ("col" : Str) = "row" by decide)
    · cases c with
      | false => exact absurd rfl (of_decide_eq_false hk)
      | true => exact ss_ret ((ee_ixT (ee_ixT (ee_var 0) ee_int (a1)) (ee_var 2) (at_gl hl))) fun v H' h => h
theorem hdk {T : Tree} {k : Bool} (h : (!decide (hdS T = "end")) = k) : k = (match T with | .leaf _ => false | .node .. => true) := by
  rw [hd_end] at h
  cases T <;> exact h.symm
/-! ### told: slots 0 tree, 1 i, 2 j, 3 signs, 4 sign -/
theorem sc_told : FnScope ["tree", "i", "j", "signs", "sign"] ["tree", "i", "j"] (defScope (top 119)) := ⟨rfl, rfl, rfl, by decide +kernel, rfl, by decide +kernel, by decide +kernel⟩
def R_told (ss : List Sl) (d : D) : Prop := ∃ (T : Tree) (m n i j : Nat), ss = [.val (trD T), .val (.int i), .val (.int j)] ∧ T.Ok m n ∧ i < m ∧ j < n ∧ T.depth ≤ 100 ∧ d = .tuple [tI (T.path i j), .int (T.ev i j)]
theorem def_told (T : Txt K mg) (T_sign_at : Def P w K mg base 1 "sign_at" ["tree", "i", "j"] R_sign_at) (S : Std K mg "told" "told" 119) : Def P w K mg base 2 "told" ["tree", "i", "j"] R_told :=
  def_of S sc_told (by rintro _ _ ⟨_, _, _, _, _, rfl, _⟩; rfl) (fun _ _ _ _ _ _ us hl => match us, hl with | [_, _, _], _ => rfl) fun f cdv A outer sh H E W ss d hr hR => by
    obtain ⟨T0, m, n, i, j, rfl, hT, hi, hj, hd, rfl⟩ := hR
    have nd := sc_told.nd
    refine ss_new' 3 (en_lst ea_nil) ?_
    refine ss_while (ι := Tree × List Int) (fun x => x.2 ++ x.1.path i j = T0.path i j ∧ x.1.ev i j = T0.ev i j ∧ x.1.Ok m n) (fun x => [(.val (trD x.1)), (.val (.int i)), (.val (.int j)), (.lst (x.2.map PyData.int)), .any]) (fun x => !decide (hdS x.1 = "end")) (fun x => x.1.depth) (T0, []) ⟨rfl, rfl, hT⟩ (by repeat' (first | exact True.intro | exact Or.inl rfl | exact Or.inr rfl | apply And.intro)) ?_ ?_ ?_
    · intro x hx
      exact (cd_neS.et (ee_ixT (ee_var 0) ee_int (tr_at0 _)) ee_str)
    · rintro ⟨cur, sg⟩ ⟨h1, h2, h3⟩ hk
      have hk := hdk hk
      cases cur with
      | leaf a => cases hk
      | node c s t u =>
        obtain ⟨o1, o2, o3, o4⟩ := h3
        have hl : (if c then j else i) < s.length := by cases c <;> simp at o1 ⊢ <;> omega
        have hlen : sg.length < 100000 := by
          have := congrArg List.length h1
          have h5 := T0.path_len i j
          simp at this
          omega
        refine ss_asg 4 ((ee_callD T_sign_at (eas_cons (ee_var 0) (eas_cons (ee_var 1) (eas_cons (ee_var 2) eas_nil))) (⟨c, s, t, u, i, j, rfl, hl, rfl⟩))) ?_
        have e1 : (Tree.node c s t u).path i j = gl s (if c then j else i) :: (if gl s (if c then j else i) = 0 then t.path i j else u.path i j) := rfl
        have e2 : (Tree.node c s t u).ev i j = if gl s (if c then j else i) = 0 then t.ev i j else u.ev i j := rfl
        rw [e1] at h1
        rw [e2] at h2
        have g01 := gl01 o2 (if c then j else i)
        generalize hg : gl s (if c then j else i) = g at h1 h2 g01
        have hat : atI (trL (.node c s t u)) (2 + g) = some (trD (if g = 0 then t else u)) := by
          rcases g01 with rfl | rfl <;> rfl
        refine ss_append 3 (ee_var 4) ?_ ?_
        · rw [List.length_map]; exact hlen
        refine ss_asg 0 ((ee_ixT (ee_var 0) (ee_add ee_int (ee_var 4)) (hat))) ?_
        refine ss_nil fun W σ H A => ⟨(if g = 0 then t else u, sg ++ [g]), ⟨?_, ?_, ?_⟩, ?_, A.weak ?_⟩
        · rw [← h1, List.append_assoc]
          split <;> rfl
        · rw [← h2]
          split <;> rfl
        · show Tree.Ok m n (if g = 0 then t else u)
          split
          · exact o3
          · exact o4
        · show (if g = 0 then t else u).depth < max t.depth u.depth + 1
          split <;> omega
        · rw [List.map_append]
          exact (by repeat' (first | exact True.intro | exact Or.inl rfl | exact Or.inr rfl | apply And.intro))
    · rintro ⟨cur, sg⟩ ⟨h1, h2, h3⟩ hk
      have hk := hdk hk
      cases cur with
      | node c s t u => cases hk
      | leaf a =>
        have e1 : T0.path i j = sg := by rw [← h1]; exact List.append_nil sg
        have e2 : T0.ev i j = a := h2.symm
        rw [e1, e2]
        exact ss_ret ((ee_tup (ea_cons (ee_tupleL T.tuple (el_var 3)) (ea_cons (ee_ixT (ee_var 0) ee_int ((rfl : atI [PyData.str "end", .int a] 1 = some (.int a)))) ea_nil)))) fun v H' h => h
theorem mem_rows {t : List (List Int)} {x : List Int × Nat} (h : x ∈ t.zipIdx) : x.2 < t.length ∧ t[x.2]? = some x.1 := by
  obtain ⟨i, hi⟩ := List.mem_iff_getElem?.mp h
  rw [List.getElem?_zipIdx] at hi
  cases hr : t[i]? with
  | none => rw [hr] at hi; cases hi
  | some y =>
    rw [hr] at hi
    cases hi
    simp only [Nat.zero_add]
    exact ⟨(List.getElem?_eq_some_iff.mp hr).1, hr⟩
/-- the table that a tree tells -/
structure Told (t : List (List Int)) (T : Tree) (m n : Nat) : Prop where
  ok : T.Ok m n
  dp : T.depth ≤ 100
  m1 : t.length = m
  m2 : m ≤ 100
  n2 : n ≤ 100
  row : ∀ r ∈ t, r.length = n
  ev : ∀ i j, i < m → j < n → gt t i j = T.ev i j
/-! ### first_wrong: slots 0 table, 1 tree, 2 i, 3 row, 4 j, 5 answer -/
theorem sc_first_wrong : FnScope ["table", "tree", "i", "row", "j", "answer"] ["table", "tree"] (defScope (top 120)) := ⟨rfl, rfl, rfl, by decide +kernel, rfl, by decide +kernel, by decide +kernel⟩
def R_first_wrong (ss : List Sl) (d : D) : Prop := ∃ (t : List (List Int)) (T : Tree) (m n : Nat), ss = [.val (tT t), .val (trD T)] ∧ Told t T m n ∧ d = .none
theorem def_first_wrong (T : Txt K mg) (T_told : Def P w K mg base 2 "told" ["tree", "i", "j"] R_told) (S : Std K mg "first_wrong" "first_wrong" 120) : Def P w K mg base 3 "first_wrong" ["table", "tree"] R_first_wrong :=
  def_of S sc_first_wrong (by rintro _ _ ⟨_, _, _, _, rfl, _⟩; rfl) (fun _ _ _ _ _ _ us hl => match us, hl with | [_, _], _ => rfl) fun f cdv A outer sh H E W ss d hr hR => by
    obtain ⟨t, T0, m, n, rfl, G, rfl⟩ := hR
    have nd := sc_first_wrong.nd
    have m1 := G.m1
    refine ss_forE (l := t.zipIdx) (fun _ => [(.val (tT t)), (.val (trD T0)), .any, .any, .any, .any]) ((ei_enumT T.enumerate (ee_var 0)).eq (enD_map _ _)) (pg_tup rfl (pgs_cons (pg_name (i := 2) nd rfl (by first | exact Or.inl rfl | exact Or.inr rfl)) (pgs_cons (pg_name (i := 3) nd rfl (by first | exact Or.inl rfl | exact Or.inr rfl)) pgs_nil))) (fun x _ => (tg_two 2 3)) (by repeat' (first | exact True.intro | exact Or.inl rfl | exact Or.inr rfl | apply And.intro)) (fun pre x post hx => ?_) ?_
    · obtain ⟨h1, h2⟩ := mem_rows (t := t) (x := x) (by rw [hx]; simp)
      have hrl := G.row _ (List.mem_of_getElem? h2)
      refine ss_forE (l := x.1.zipIdx) (fun _ => [(.val (tT t)), (.val (trD T0)), (.val (.int x.2)), (.val (tI x.1)), .any, .any]) ((ei_enumT T.enumerate (ee_var 3)).eq (enD_map _ _)) (pg_tup rfl (pgs_cons (pg_name (i := 4) nd rfl (by first | exact Or.inl rfl | exact Or.inr rfl)) (pgs_cons (pg_name (i := 5) nd rfl (by first | exact Or.inl rfl | exact Or.inr rfl)) pgs_nil))) (fun x _ => (tg_two 4 5)) (by repeat' (first | exact True.intro | exact Or.inl rfl | exact Or.inr rfl | apply And.intro)) (fun pre2 y post2 hy => ?_) (ss_end (by repeat' (first | exact True.intro | exact Or.inl rfl | exact Or.inr rfl | apply And.intro)))
      obtain ⟨g1, g2⟩ := mem_idx (r := x.1) (x := y) (by rw [hy]; simp)
      have hev := G.ev x.2 y.2 (by omega) (by omega)
      rw [gt_some h2] at hev
      refine ss_ifR (k := false) (((cd_neI.et (ee_ixT (ee_callD T_told (eas_cons (ee_var 1) (eas_cons (ee_var 2) (eas_cons (ee_var 4) eas_nil))) (⟨T0, m, n, x.2, y.2, rfl, G.ok, by omega, by omega, G.dp, rfl⟩)) ee_int ((rfl : atI [tI (T0.path x.2 y.2), .int (T0.ev x.2 y.2)] 1 = some (.int (T0.ev x.2 y.2))))) (ee_var 5))).eq ?_) (fun hk => by cases hk) fun _ => ss_end (by repeat' (first | exact True.intro | exact Or.inl rfl | exact Or.inr rfl | apply And.intro))
      rw [← hev, ← g2]
      simp
    · exact ss_ret ee_non fun v H' h => h
/-! ### tells: slots 0 table, 1 tree -/
theorem sc_tells : FnScope ["table", "tree"] ["table", "tree"] (defScope (top 121)) := ⟨rfl, rfl, rfl, by decide +kernel, rfl, by decide +kernel, by decide +kernel⟩
def R_tells (ss : List Sl) (d : D) : Prop := ∃ (t : List (List Int)) (T : Tree) (m n : Nat), ss = [.val (tT t), .val (trD T)] ∧ Told t T m n ∧ d = .bool true
theorem def_tells (T : Txt K mg) (T_first_wrong : Def P w K mg base 3 "first_wrong" ["table", "tree"] R_first_wrong) (S : Std K mg "tells" "tells" 121) : Def P w K mg base 4 "tells" ["table", "tree"] R_tells :=
  def_of S sc_tells (by rintro _ _ ⟨_, _, _, _, rfl, _⟩; rfl) (fun _ _ _ _ _ _ us hl => match us, hl with | [_, _], _ => rfl) fun f cdv A outer sh H E W ss d hr hR => by
    obtain ⟨t, T0, m, n, rfl, G, rfl⟩ := hR
    have nd := sc_tells.nd
    exact ss_ret ((cd_isN.ee (ee_callD T_first_wrong (eas_cons (ee_var 0) (eas_cons (ee_var 1) eas_nil)) (⟨t, T0, m, n, rfl, G, rfl⟩)) ee_non)) fun v H' h => h
/-! ### with_sign: slots 0 some, 1 signs, 2 sign, 3 one -/
theorem sc_with_sign : FnScope ["some", "signs", "sign", "one"] ["some", "signs", "sign"] (defScope (top 122)) := ⟨rfl, rfl, rfl, by decide +kernel, rfl, by decide +kernel, by decide +kernel⟩
def R_with_sign (ss : List Sl) (d : D) : Prop := ∃ (l : List Nat) (s : List Int) (g : Int), ss = [.val (tN l), .val (tI s), .val (.int g)] ∧ l.length ≤ 1000 ∧ (∀ i ∈ l, i < s.length) ∧ d = tN (sel l s g)
theorem def_with_sign (T : Txt K mg) (S : Std K mg "with_sign" "with_sign" 122) : Def P w K mg base 1 "with_sign" ["some", "signs", "sign"] R_with_sign :=
  def_of S sc_with_sign (by rintro _ _ ⟨_, _, _, rfl, _⟩; rfl) (fun _ _ _ _ _ _ us hl => match us, hl with | [_, _, _], _ => rfl) fun f cdv A outer sh H E W ss d hr hR => by
    obtain ⟨l, s, g, rfl, hl, hi, rfl⟩ := hR
    have nd := sc_with_sign.nd
    refine ss_ret (((ee_tupleL T.tuple ((ee_lcGM (en2 := PyData.int)  (l := l) (en := nD) (h := fun (i : Nat) => (i : Int)) (c := fun i => decide (gl s i = g)) (own := [("one", 3)]) (g := (gName 3)) (js := [3]) rfl nd (blkOk_by (by kernel_rfl)) (ei_tup (ee_var 0)).m ((by omega)) (fun _ _ _ _ _ => (pg_name (i := 3) nd rfl (by first | exact Or.inl rfl | exact Or.inr rfl))) (fun x hx => (tg_name 3)) (by decide) (fun x hx _ _ _ _ _ => ets_one (cd_eqI.et (ee_ixT (ee_var 1) (ee_var 3) ((show atI (s.map PyData.int) (x : Int) = some (.int (gl s x)) from at_gl (hi x hx)))) (ee_var 2))) (fun x hx hc _ _ _ _ _ => (ee_var 3)))).el)).eq ?_) fun v H' h => h
    rw [List.map_map]
    rfl
theorem sel_len (l : List Nat) (s : List Int) (g : Int) : (sel l s g).length ≤ l.length := List.length_filter_le _ _
def eD (e : End) : D := .tuple [tN e.1, tN e.2.1, .int e.2.2]
theorem ends_len : ∀ (T : Tree) (r c : List Nat), (T.ends r c).length ≤ 2 ^ T.depth
  | .leaf a, r, c => Nat.le_refl 1
  | .node false s t u, r, c => by
    show (t.ends (sel r s 0) c ++ u.ends (sel r s 1) c).length ≤ 2 ^ (max t.depth u.depth + 1)
    have h1 := ends_len t (sel r s 0) c
    have h2 := ends_len u (sel r s 1) c
    have h3 : 2 ^ t.depth ≤ 2 ^ (max t.depth u.depth) := Nat.pow_le_pow_right (by omega) (by omega)
    have h4 : 2 ^ u.depth ≤ 2 ^ (max t.depth u.depth) := Nat.pow_le_pow_right (by omega) (by omega)
    rw [List.length_append, Nat.pow_succ]
    omega
  | .node true s t u, r, c => by
    show (t.ends r (sel c s 0) ++ u.ends r (sel c s 1)).length ≤ 2 ^ (max t.depth u.depth + 1)
    have h1 := ends_len t r (sel c s 0)
    have h2 := ends_len u r (sel c s 1)
    have h3 : 2 ^ t.depth ≤ 2 ^ (max t.depth u.depth) := Nat.pow_le_pow_right (by omega) (by omega)
    have h4 : 2 ^ u.depth ≤ 2 ^ (max t.depth u.depth) := Nat.pow_le_pow_right (by omega) (by omega)
    rw [List.length_append, Nat.pow_succ]
    omega
def brE (c : Bool) (s : List Int) (t u : Tree) (r k : List Nat) (g : Int) : List End := if c then (if g = 0 then t else u).ends r (sel k s g) else (if g = 0 then t else u).ends (sel r s g) k
theorem br_all (c : Bool) (s : List Int) (t u : Tree) (r k : List Nat) : (([(0 : Int), 1].map (brE c s t u r k)).flatten) = (Tree.node c s t u).ends r k := by
  cases c <;> simp [brE, Tree.ends]
/-! ### ends_by: slots 0 tree, 1 rows, 2 cols, 3 found, 4 sign -/
theorem sc_ends_by : FnScope ["tree", "rows", "cols", "found", "sign"] ["tree", "rows", "cols"] (defScope (top 123)) := ⟨rfl, rfl, rfl, by decide +kernel, rfl, by decide +kernel, by decide +kernel⟩
structure EndOk (T : Tree) (r c : List Nat) (m n k : Nat) : Prop where
  ok : T.Ok m n
  dp : T.depth ≤ k
  k1 : k ≤ 10
  r1 : r.length ≤ 1000
  c1 : c.length ≤ 1000
  rm : ∀ i ∈ r, i < m
  cn : ∀ i ∈ c, i < n
def R_ends_by (k : Nat) (ss : List Sl) (d : D) : Prop := ∃ (T : Tree) (r c : List Nat) (m n : Nat), ss = [.val (trD T), .val (tN r), .val (tN c)] ∧ EndOk T r c m n k ∧ d = .list ((T.ends r c).map eD)
theorem def_ends_by_step (T : Txt K mg) (T_with_sign : Def P w K mg base 1 "with_sign" ["some", "signs", "sign"] R_with_sign) (S : Std K mg "ends_by" "ends_by" 123) (k : Nat) (ih : ∀ j, j < k → Def P w K mg base (j + 2) "ends_by" ["tree", "rows", "cols"] (R_ends_by j)) : Def P w K mg base (k + 2) "ends_by" ["tree", "rows", "cols"] (R_ends_by k) :=
  def_of S sc_ends_by (by rintro _ _ ⟨_, _, _, _, _, rfl, _⟩; rfl) (fun _ _ _ _ _ _ us hl => match us, hl with | [_, _, _], _ => rfl) fun f cdv A outer sh H E W ss d hr hR => by
    obtain ⟨T0, r, c, m, n, rfl, G, rfl⟩ := hR
    have nd := sc_ends_by.nd
    cases T0 with
    | leaf a =>
      refine ss_ifR (k := true) (((cd_eqS.et (ee_ixT (ee_var 0) ee_int ((rfl : atI [PyData.str "end", .int a] 0 = some (.str "end")))) ee_str)).eq (by decide)) (fun hk => ?_) fun hk => by cases hk
      exact ss_ret ((ee_lst (ea_cons (ee_tup (ea_cons (ee_var 1) (ea_cons (ee_var 2) (ea_cons (ee_ixT (ee_var 0) ee_int ((rfl : atI [PyData.str "end", .int a] 1 = some (.int a)))) ea_nil)))) ea_nil))) fun v H' h => h
    | node b s t u =>
      obtain ⟨o1, o2, o3, o4⟩ := G.ok
      have dp := G.dp
      have k1 := G.k1
      have hd : (Tree.node b s t u).depth = max t.depth u.depth + 1 := rfl
      obtain ⟨j, rfl⟩ : ∃ j, k = j + 1 := ⟨k - 1, by omega⟩
      have T_ends_by := ih j (by omega)
      have a0 : atI [PyData.str (whoS b), tI s, .tuple (trL t), .tuple (trL u)] 0 = some (.str (whoS b)) := rfl
      have a1 : atI [PyData.str (whoS b), tI s, .tuple (trL t), .tuple (trL u)] 1 = some (tI s) := rfl
      refine ss_ifR (k := false) (((cd_eqS.et (ee_ixT (ee_var 0) ee_int (a0)) ee_str)).eq (by cases b <;> decide)) (fun hk => by cases hk) fun _ => ?_
      refine ss_new' 3 (en_lst ea_nil) ?_
      rw [← br_all]
      refine ss_forE (l := [(0 : Int), 1]) (en := PyData.int) (fun pre => [(.val (trD (.node b s t u))), (.val (tN r)), (.val (tN c)), (.lst (((pre.map (brE b s t u r c)).flatten).map eD)), .any]) (ei_tup (ee_tup (ea_cons ee_int (ea_cons ee_int ea_nil)))) (pg_name (i := 4) nd rfl (by first | exact Or.inl rfl | exact Or.inr rfl)) (fun x _ => (tg_name 4)) (by repeat' (first | exact True.intro | exact Or.inl rfl | exact Or.inr rfl | apply And.intro)) (fun pre g post hx => ?_) (ss_retOwn 3 (fun _ _ _ _ _ _ _ z => z) fun v H' h => h)
      have hg : g = 0 ∨ g = 1 := by
        have : g ∈ [(0 : Int), 1] := by rw [hx]; simp
        simpa using this
      have hpl : pre.length ≤ 1 := by
        have := congrArg List.length hx
        simp at this
        omega
      have hat : atI (trL (.node b s t u)) (2 + g) = some (trD (if g = 0 then t else u)) := by rcases hg with rfl | rfl <;> rfl
      have hok : (if g = 0 then t else u).Ok m n := by split <;> assumption
      have hdp : (if g = 0 then t else u).depth ≤ j := by split <;> omega
      have hbr : ∀ g', ((brE b s t u r c g').map eD).length ≤ 1024 := fun g' => by
        have h10 : 2 ^ j ≤ 2 ^ 10 := Nat.pow_le_pow_right (by omega) (by omega)
        have ht : 2 ^ t.depth ≤ 2 ^ j := Nat.pow_le_pow_right (by omega) (by omega)
        have hu : 2 ^ u.depth ≤ 2 ^ j := Nat.pow_le_pow_right (by omega) (by omega)
        rw [List.length_map]
        unfold brE
        have q1 := fun r c => ends_len t r c
        have q2 := fun r c => ends_len u r c
        split <;> split <;> first | exact Nat.le_trans (q1 _ _) (by omega) | exact Nat.le_trans (q2 _ _) (by omega)
      have hfl : (((pre.map (brE b s t u r c)).flatten).map eD).length ≤ 1024 := by
        cases pre with
        | nil => simp
        | cons y l =>
          have : l = [] := List.eq_nil_of_length_eq_zero (by simpa using hpl)
          subst this
          have := hbr y
          simpa using this
      refine ss_if (k := !b) (env2 := [(.val (trD (.node b s t u))), (.val (tN r)), (.val (tN c)), (.lst ((((pre ++ [g]).map (brE b s t u r c)).flatten).map eD)), .any]) (((cd_eqS.et (ee_ixT (ee_var 0) ee_int (a0)) ee_str)).eq (by cases b <;> decide)) (fun hk => ?_) (fun hk => ?_) (ss_end (by repeat' (first | exact True.intro | exact Or.inl rfl | exact Or.inr rfl | apply And.intro)))
      · have hb : b = false := by cases b <;> simp_all
        subst hb
        have o1 : s.length = m := o1
        refine ss_extend 3 (ys := (brE false s t u r c g).map eD) (((ee_callD T_ends_by (eas_cons (ee_ixT (ee_var 0) (ee_add ee_int (ee_var 4)) (hat)) (eas_cons (ee_callD T_with_sign (eas_cons (ee_var 1) (eas_cons (ee_ixT (ee_var 0) ee_int (a1)) (eas_cons (ee_var 4) eas_nil))) (⟨r, s, g, rfl, G.r1, by rw [o1]; exact G.rm, rfl⟩)) (eas_cons (ee_var 2) eas_nil))) (⟨if g = 0 then t else u, sel r s g, c, m, n, rfl, ⟨hok, hdp, by omega, Nat.le_trans (sel_len _ _ _) G.r1, G.c1, fun i hi => G.rm i (sel_mem.mp hi).1, G.cn⟩, rfl⟩))).el) ?_ (ss_end ?_)
        · have := hbr g
          omega
        · rw [List.map_append, List.flatten_append, List.map_append]
          simp only [List.map_cons, List.map_nil, List.flatten_cons, List.flatten_nil, List.append_nil]
          exact (by repeat' (first | exact True.intro | exact Or.inl rfl | exact Or.inr rfl | apply And.intro))
      · have hb : b = true := by cases b <;> simp_all
        subst hb
        have o1 : s.length = n := o1
        refine ss_extend 3 (ys := (brE true s t u r c g).map eD) (((ee_callD T_ends_by (eas_cons (ee_ixT (ee_var 0) (ee_add ee_int (ee_var 4)) (hat)) (eas_cons (ee_var 1) (eas_cons (ee_callD T_with_sign (eas_cons (ee_var 2) (eas_cons (ee_ixT (ee_var 0) ee_int (a1)) (eas_cons (ee_var 4) eas_nil))) (⟨c, s, g, rfl, G.c1, by rw [o1]; exact G.cn, rfl⟩)) eas_nil))) (⟨if g = 0 then t else u, r, sel c s g, m, n, rfl, ⟨hok, hdp, by omega, G.r1, Nat.le_trans (sel_len _ _ _) G.c1, G.rm, fun i hi => G.cn i (sel_mem.mp hi).1⟩, rfl⟩))).el) ?_ (ss_end ?_)
        · have := hbr g
          omega
        · rw [List.map_append, List.flatten_append, List.map_append]
          simp only [List.map_cons, List.map_nil, List.flatten_cons, List.flatten_nil, List.append_nil]
          exact (by repeat' (first | exact True.intro | exact Or.inl rfl | exact Or.inr rfl | apply And.intro))
end Tf
end
section
set_option maxHeartbeats 4000000
namespace Tf
open PySem PySem.Spec PyProof.Rows L2
variable {P : Program} {w : World} {K : PySem.W.Frag} {mg : Str → Option Value} {base : Heap}
theorem def_ends_by (T : Txt K mg) (T_with_sign : Def P w K mg base 1 "with_sign" ["some", "signs", "sign"] R_with_sign) (S : Std K mg "ends_by" "ends_by" 123) : ∀ k, Def P w K mg base (k + 2) "ends_by" ["tree", "rows", "cols"] (R_ends_by k) := fun k => by
  induction k using Nat.strongRecOn with
  | _ k ih => exact def_ends_by_step T T_with_sign S k ih
/-! ### ends_of: slots 0 tree, 1 m, 2 n -/
theorem sc_ends_of : FnScope ["tree", "m", "n"] ["tree", "m", "n"] (defScope (top 124)) := ⟨rfl, rfl, rfl, by decide +kernel, rfl, by decide +kernel, by decide +kernel⟩
def R_ends_of (ss : List Sl) (d : D) : Prop := ∃ (T : Tree) (m n : Nat), ss = [.val (trD T), .val (.int m), .val (.int n)] ∧ T.Ok m n ∧ T.depth ≤ 10 ∧ m ≤ 1000 ∧ n ≤ 1000 ∧ d = .tuple ((T.ends (List.range m) (List.range n)).map eD)
theorem def_ends_of (T : Txt K mg) (T_ends_by : Def P w K mg base 12 "ends_by" ["tree", "rows", "cols"] (R_ends_by 10)) (S : Std K mg "ends_of" "ends_of" 124) : Def P w K mg base 13 "ends_of" ["tree", "m", "n"] R_ends_of :=
  def_of S sc_ends_of (by rintro _ _ ⟨_, _, _, rfl, _⟩; rfl) (fun _ _ _ _ _ _ us hl => match us, hl with | [_, _, _], _ => rfl) fun f cdv A outer sh H E W ss d hr hR => by
    obtain ⟨T0, m, n, rfl, h1, h2, h3, h4, rfl⟩ := hR
    have nd := sc_ends_of.nd
    refine ss_ret ((ee_tupleL T.tuple ((ee_callD T_ends_by (eas_cons (ee_var 0) (eas_cons (ee_tupRg T.tuple T.range (ee_var 1) (by first | assumption | omega | decide | (simp; omega) | (simp; done)) (by first | assumption | omega | decide | (simp; omega) | (simp; done))) (eas_cons (ee_tupRg T.tuple T.range (ee_var 2) (by first | assumption | omega | decide | (simp; omega) | (simp; done)) (by first | assumption | omega | decide | (simp; omega) | (simp; done))) eas_nil))) (⟨T0, List.range m, List.range n, m, n, by simp only [Int.toNat_natCast]; rfl, ⟨h1, h2, by omega, by rw [List.length_range]; exact h3, by rw [List.length_range]; exact h4, fun i hi => List.mem_range.mp hi, fun i hi => List.mem_range.mp hi⟩, rfl⟩))).el)) fun v H' h => h
/-! ### so_often: slots 0 signs, 1 many, 2 found, 3 sign -/
theorem sc_so_often : FnScope ["signs", "many", "found", "sign"] ["signs", "many"] (defScope (top 10)) := ⟨rfl, rfl, rfl, by decide +kernel, rfl, by decide +kernel, by decide +kernel⟩
def R_so_often (ss : List Sl) (d : D) : Prop := ∃ (s : List Int) (k : Nat), ss = [.val (tI s), .val (.int k)] ∧ s.length ≤ 100 ∧ k ≤ 100 ∧ d = tI (soF s k)
theorem rep_ints (k : Nat) (x : Int) : (List.replicate ((k : Nat) : Int).toNat [PyData.int x]).flatten = (List.replicate k x).map PyData.int := by
  rw [Int.toNat_natCast, List.map_replicate]
  induction k with
  | zero => rfl
  | succ n ih => rw [List.replicate_succ, List.flatten_cons, ih]; rfl
theorem def_so_often (T : Txt K mg) (S : Std K mg "so_often" "so_often" 10) : Def P w K mg base 1 "so_often" ["signs", "many"] R_so_often :=
  def_of S sc_so_often (by rintro _ _ ⟨_, _, rfl, _⟩; rfl) (fun _ _ _ _ _ _ us hl => match us, hl with | [_, _], _ => rfl) fun f cdv A outer sh H E W ss d hr hR => by
    obtain ⟨s, k, rfl, hl, hk, rfl⟩ := hR
    have nd := sc_so_often.nd
    refine ss_new' 2 (en_lst ea_nil) ?_
    refine ss_forE (l := s) (en := PyData.int) (fun pre => [(.val (tI s)), (.val (.int k)), (.lst ((soF pre k).map PyData.int)), .any]) (ei_tup (ee_var 0)) (pg_name (i := 3) nd rfl (by first | exact Or.inl rfl | exact Or.inr rfl)) (fun x _ => (tg_name 3)) (by repeat' (first | exact True.intro | exact Or.inl rfl | exact Or.inr rfl | apply And.intro)) (fun pre x post hx => ?_) (ss_ret (ee_tupleL T.tuple (el_var 2)) fun v H' h => h)
    have hpl : pre.length ≤ 100 := by
      have := congrArg List.length hx
      simp at this
      omega
    have hb : pre.length * k ≤ 100 * 100 := Nat.mul_le_mul hpl hk
    refine ss_extend 2 (ys := (List.replicate k x).map PyData.int) ((((ee_rep ((ee_lst (ea_cons (ee_var 3) ea_nil))).el (ee_var 1) (by first | assumption | omega | decide | (simp; omega) | (simp; done)) ((by simp; omega)) (by first | assumption | omega | decide | (simp; omega) | (simp; done)))).el).eq (rep_ints k x)) ?_ (ss_end ?_)
    · rw [List.length_map, List.length_map, List.length_replicate, soF_len]
      omega
    · have e : soF (pre ++ [x]) k = soF pre k ++ List.replicate k x := by simp [soF]
      rw [e, List.map_append]
      exact (by repeat' (first | exact True.intro | exact Or.inl rfl | exact Or.inr rfl | apply And.intro))
/-! ### two trees in one -/
def dcD (a b : Nat) : D := .dict ([(("row" : Str), (a : Int)), ("col", (b : Int))].map fun p => (PyData.str p.1, PyData.int p.2))
theorem dc_find (a b : Nat) (c : Bool) : ([(("row" : Str), (a : Int)), ("col", (b : Int))].find? fun p => decide (p.1 = whoS c)) = some (whoS c, ((if c then b else a : Nat) : Int)) := by
  cases c <;> rfl
theorem rep_tI (k : Nat) (s : List Int) : PyData.tuple (List.replicate ((k : Nat) : Int).toNat (s.map PyData.int)).flatten = tI (List.replicate k s).flatten := by
  show PyData.tuple _ = PyData.tuple _
  rw [Int.toNat_natCast, List.map_flatten, List.map_replicate]
/-! ### second_tree: slots 0 tree, 1 ahead, 2 often, 3 who, 4 signs, 5 t, 6 u -/
theorem sc_second_tree : FnScope ["tree", "ahead", "often", "who", "signs", "t", "u"] ["tree", "ahead", "often"] (defScope (top 11)) := ⟨rfl, rfl, rfl, by decide +kernel, rfl, by decide +kernel, by decide +kernel⟩
structure SecOk (T : Tree) (m n : Nat) (j : Nat) : Prop where
  ok : T.Ok m n
  dp : T.depth ≤ j
  m0 : 1 ≤ m
  n0 : 1 ≤ n
  m1 : m ≤ 100
  n1 : n ≤ 100
def R_second (j : Nat) (ss : List Sl) (d : D) : Prop := ∃ (T : Tree) (a : Int) (k l m n : Nat), ss = [.val (trD T), .val (.int a), .val (dcD m n)] ∧ SecOk T k l j ∧ 1 ≤ m ∧ m ≤ 100 ∧ 1 ≤ n ∧ n ≤ 100 ∧ (-1000 ≤ a ∧ a ≤ 1000) ∧ d = trD (T.second m n a)
theorem def_second_step (T : Txt K mg) (S : Std K mg "second_tree" "second_tree" 11) (j : Nat) (ih : ∀ i, i < j → Def P w K mg base (i + 1) "second_tree" ["tree", "ahead", "often"] (R_second i)) : Def P w K mg base (j + 1) "second_tree" ["tree", "ahead", "often"] (R_second j) :=
  def_of S sc_second_tree (by rintro _ _ ⟨_, _, _, _, _, _, rfl, _⟩; rfl) (fun _ _ _ _ _ _ us hl => match us, hl with | [_, _, _], _ => rfl) fun f cdv A outer sh H E W ss d hr hR => by
    obtain ⟨T0, a, k, l, m, n, rfl, G, h1, h2, h3, h4, h5, rfl⟩ := hR
    have nd := sc_second_tree.nd
    cases T0 with
    | leaf b =>
      refine ss_ifR (k := true) (((cd_eqS.et (ee_ixT (ee_var 0) ee_int ((rfl : atI [PyData.str "end", .int b] 0 = some (.str "end")))) ee_str)).eq (by decide)) (fun hk => ?_) fun hk => by cases hk
      exact ss_ret ((ee_tup (ea_cons ee_str (ea_cons (ee_add (ee_mul ee_int (ee_var 1) (.inl ⟨by omega, by omega⟩)) (ee_ixT (ee_var 0) ee_int ((rfl : atI [PyData.str "end", .int b] 1 = some (.int b))))) ea_nil)))) fun v H' h => h
    | node b s t u =>
      obtain ⟨o1, o2, o3, o4⟩ := G.ok
      have dp := G.dp
      have hd : (Tree.node b s t u).depth = max t.depth u.depth + 1 := rfl
      obtain ⟨i, rfl⟩ : ∃ i, j = i + 1 := ⟨j - 1, by omega⟩
      have T_second_tree := ih i (by omega)
      have a0 : atI [PyData.str (whoS b), tI s, .tuple (trL t), .tuple (trL u)] 0 = some (.str (whoS b)) := rfl
      have g1 := G.m0
      have g2 := G.n0
      have g3 := G.m1
      have g4 := G.n1
      have sl : 1 ≤ s.length ∧ s.length ≤ 100 := by cases b <;> simp at o1 <;> omega
      have kb : 1 ≤ (if b then n else m) ∧ (if b then n else m) ≤ 100 := by cases b <;> simp <;> omega
      refine ss_ifR (k := false) (((cd_eqS.et (ee_ixT (ee_var 0) ee_int (a0)) ee_str)).eq (by cases b <;> decide)) (fun hk => by cases hk) fun _ => ?_
      refine ss_unpack (d := trD (.node b s t u)) (ee_var 0) (pg_tup rfl (pgs_cons (pg_name (i := 3) nd rfl (by first | exact Or.inl rfl | exact Or.inr rfl)) (pgs_cons (pg_name (i := 4) nd rfl (by first | exact Or.inl rfl | exact Or.inr rfl)) (pgs_cons (pg_name (i := 5) nd rfl (by first | exact Or.inl rfl | exact Or.inr rfl)) (pgs_cons (pg_name (i := 6) nd rfl (by first | exact Or.inl rfl | exact Or.inr rfl)) pgs_nil))))) (tg_four 3 4 5 6) ?_
      refine ss_ret (((ee_tup (ea_cons (ee_var 3) (ea_cons (ee_repTn (ee_var 4) (ee_ixD (ee_var 2) (ee_var 3) (dc_find m n b) (hu_1 hr)) ((fun z => by have := List.map_eq_nil_iff.mp z; rw [this] at sl; simp at sl)) ((by omega)) ((by omega)) ((by rw [List.length_map]; omega))) (ea_cons (ee_callD T_second_tree (eas_cons (ee_var 5) (eas_cons (ee_var 1) (eas_cons (ee_var 2) eas_nil))) (⟨t, a, k, l, m, n, rfl, ⟨o3, by omega, g1, g2, g3, g4⟩, h1, h2, h3, h4, h5, rfl⟩)) (ea_cons (ee_callD T_second_tree (eas_cons (ee_var 6) (eas_cons (ee_var 1) (eas_cons (ee_var 2) eas_nil))) (⟨u, a, k, l, m, n, rfl, ⟨o4, by omega, g1, g2, g3, g4⟩, h1, h2, h3, h4, h5, rfl⟩)) ea_nil)))))).eq ?_) fun v H' h => h
      rw [rep_tI]
      rfl
theorem def_second (T : Txt K mg) (S : Std K mg "second_tree" "second_tree" 11) : ∀ j, Def P w K mg base (j + 1) "second_tree" ["tree", "ahead", "often"] (R_second j) := fun j => by
  induction j using Nat.strongRecOn with
  | _ j ih => exact def_second_step T S j ih
/-! ### first_tree: slots 0 tree, 1 other, 2 many, 3 often, 4 who, 5 signs, 6 t, 7 u -/
theorem sc_first_tree : FnScope ["tree", "other", "many", "often", "who", "signs", "t", "u"] ["tree", "other", "many", "often"] (defScope (top 12)) := ⟨rfl, rfl, rfl, by decide +kernel, rfl, by decide +kernel, by decide +kernel⟩
def R_first (j : Nat) (ss : List Sl) (d : D) : Prop := ∃ (T o : Tree) (k l m n : Nat), ss = [.val (trD T), .val (trD o), .val (dcD k l), .val (dcD m n)] ∧ SecOk T m n j ∧ SecOk o k l 5 ∧ T.Low 1000 ∧ d = trD (T.first m n k l o)
theorem def_first_step (T : Txt K mg) (T_so_often : Def P w K mg base 1 "so_often" ["signs", "many"] R_so_often) (T_second_tree : Def P w K mg base 6 "second_tree" ["tree", "ahead", "often"] (R_second 5)) (S : Std K mg "first_tree" "first_tree" 12) (j : Nat) (ih : ∀ i, i < j → Def P w K mg base (i + 7) "first_tree" ["tree", "other", "many", "often"] (R_first i)) : Def P w K mg base (j + 7) "first_tree" ["tree", "other", "many", "often"] (R_first j) :=
  def_of S sc_first_tree (by rintro _ _ ⟨_, _, _, _, _, _, rfl, _⟩; rfl) (fun _ _ _ _ _ _ us hl => match us, hl with | [_, _, _, _], _ => rfl) fun f cdv A outer sh H E W ss d hr hR => by
    obtain ⟨T0, o, k, l, m, n, rfl, G, G2, hlow, rfl⟩ := hR
    have nd := sc_first_tree.nd
    have g1 := G.m0
    have g2 := G.n0
    have g3 := G.m1
    have g4 := G.n1
    have q1 := G2.m0
    have q2 := G2.n0
    have q3 := G2.m1
    have q4 := G2.n1
    cases T0 with
    | leaf a =>
      have hlow : 0 ≤ a ∧ a < 1000 := hlow
      refine ss_ifR (k := true) (((cd_eqS.et (ee_ixT (ee_var 0) ee_int ((rfl : atI [PyData.str "end", .int a] 0 = some (.str "end")))) ee_str)).eq (by decide)) (fun hk => ?_) fun hk => by cases hk
      exact ss_ret ((ee_callD T_second_tree (eas_cons (ee_var 1) (eas_cons (ee_ixT (ee_var 0) ee_int ((rfl : atI [PyData.str "end", .int a] 1 = some (.int a)))) (eas_cons (ee_var 3) eas_nil))) (⟨o, a, k, l, m, n, rfl, G2, g1, g3, g2, g4, ⟨by omega, by omega⟩, rfl⟩))) fun v H' h => h
    | node b s t u =>
      obtain ⟨o1, o2, o3, o4⟩ := G.ok
      have hlow : t.Low 1000 ∧ u.Low 1000 := hlow
      have dp := G.dp
      have hd : (Tree.node b s t u).depth = max t.depth u.depth + 1 := rfl
      obtain ⟨i, rfl⟩ : ∃ i, j = i + 1 := ⟨j - 1, by omega⟩
      have T_first_tree := ih i (by omega)
      have a0 : atI [PyData.str (whoS b), tI s, .tuple (trL t), .tuple (trL u)] 0 = some (.str (whoS b)) := rfl
      have sl : s.length ≤ 100 := by cases b <;> simp at o1 <;> omega
      have kb : (if b then l else k) ≤ 100 := by cases b <;> simp <;> omega
      refine ss_ifR (k := false) (((cd_eqS.et (ee_ixT (ee_var 0) ee_int (a0)) ee_str)).eq (by cases b <;> decide)) (fun hk => by cases hk) fun _ => ?_
      refine ss_unpack (d := trD (.node b s t u)) (ee_var 0) (pg_tup rfl (pgs_cons (pg_name (i := 4) nd rfl (by first | exact Or.inl rfl | exact Or.inr rfl)) (pgs_cons (pg_name (i := 5) nd rfl (by first | exact Or.inl rfl | exact Or.inr rfl)) (pgs_cons (pg_name (i := 6) nd rfl (by first | exact Or.inl rfl | exact Or.inr rfl)) (pgs_cons (pg_name (i := 7) nd rfl (by first | exact Or.inl rfl | exact Or.inr rfl)) pgs_nil))))) (tg_four 4 5 6 7) ?_
      exact ss_ret ((ee_tup (ea_cons (ee_var 4) (ea_cons (ee_callD T_so_often (eas_cons (ee_var 5) (eas_cons (ee_ixD (ee_var 2) (ee_var 4) (dc_find k l b) (hu_1 hr)) eas_nil)) (⟨s, if b then l else k, rfl, sl, kb, rfl⟩)) (ea_cons (ee_callD T_first_tree (eas_cons (ee_var 6) (eas_cons (ee_var 1) (eas_cons (ee_var 2) (eas_cons (ee_var 3) eas_nil)))) (⟨t, o, k, l, m, n, rfl, ⟨o3, by omega, g1, g2, g3, g4⟩, G2, hlow.1, rfl⟩)) (ea_cons (ee_callD T_first_tree (eas_cons (ee_var 7) (eas_cons (ee_var 1) (eas_cons (ee_var 2) (eas_cons (ee_var 3) eas_nil)))) (⟨u, o, k, l, m, n, rfl, ⟨o4, by omega, g1, g2, g3, g4⟩, G2, hlow.2, rfl⟩)) ea_nil)))))) fun v H' h => h
theorem def_first (T : Txt K mg) (T_so_often : Def P w K mg base 1 "so_often" ["signs", "many"] R_so_often) (T_second_tree : Def P w K mg base 6 "second_tree" ["tree", "ahead", "often"] (R_second 5)) (S : Std K mg "first_tree" "first_tree" 12) : ∀ j, Def P w K mg base (j + 7) "first_tree" ["tree", "other", "many", "often"] (R_first j) := fun j => by
  induction j using Nat.strongRecOn with
  | _ j ih => exact def_first_step T T_so_often T_second_tree S j ih
/-! ### both_trees: slots 0 one, 1 other, 2 sizes, 3 m, 4 n, 5 k, 6 l -/
theorem sc_both_trees : FnScope ["one", "other", "sizes", "m", "n", "k", "l"] ["one", "other", "sizes"] (defScope (top 13)) := ⟨rfl, rfl, rfl, by decide +kernel, rfl, by decide +kernel, by decide +kernel⟩
def R_both_trees (ss : List Sl) (d : D) : Prop := ∃ (T o : Tree) (k l m n : Nat), ss = [.val (trD T), .val (trD o), .val (tI [(m : Int), (n : Int), (k : Int), (l : Int)])] ∧ SecOk T m n 5 ∧ SecOk o k l 5 ∧ T.Low 1000 ∧ d = trD (T.first m n k l o)
theorem def_both_trees (T : Txt K mg) (T_first_tree : Def P w K mg base 12 "first_tree" ["tree", "other", "many", "often"] (R_first 5)) (S : Std K mg "both_trees" "both_trees" 13) : Def P w K mg base 13 "both_trees" ["one", "other", "sizes"] R_both_trees :=
  def_of S sc_both_trees (by rintro _ _ ⟨_, _, _, _, _, _, rfl, _⟩; rfl) (fun _ _ _ _ _ _ us hl => match us, hl with | [_, _, _], _ => rfl) fun f cdv A outer sh H E W ss d hr hR => by
    obtain ⟨T0, o, k, l, m, n, rfl, G, G2, hlow, rfl⟩ := hR
    have nd := sc_both_trees.nd
    refine ss_unpack (d := tI [(m : Int), (n : Int), (k : Int), (l : Int)]) (ee_var 2) (pg_tup rfl (pgs_cons (pg_name (i := 3) nd rfl (by first | exact Or.inl rfl | exact Or.inr rfl)) (pgs_cons (pg_name (i := 4) nd rfl (by first | exact Or.inl rfl | exact Or.inr rfl)) (pgs_cons (pg_name (i := 5) nd rfl (by first | exact Or.inl rfl | exact Or.inr rfl)) (pgs_cons (pg_name (i := 6) nd rfl (by first | exact Or.inl rfl | exact Or.inr rfl)) pgs_nil))))) (tg_four 3 4 5 6) ?_
    exact ss_ret ((ee_callD T_first_tree (eas_cons (ee_var 0) (eas_cons (ee_var 1) (eas_cons (ee_dct2 (ee_var 5) (ee_var 6) (by decide)) (eas_cons (ee_dct2 (ee_var 3) (ee_var 4) (by decide)) eas_nil)))) (⟨T0, o, k, l, m, n, rfl, G, G2, hlow, rfl⟩))) fun v H' h => h
end Tf
end
section
set_option maxHeartbeats 4000000
namespace Tf
open PySem PySem.Spec PyProof.Rows L2
variable {P : Program} {w : World} {K : PySem.W.Frag} {mg : Str → Option Value} {base : Heap}
/-! ### _law_signs: slots 0 _law_number, 1 _law_k -/
theorem sc__law_signs : FnScope ["_law_number", "_law_k"] ["_law_number"] (defScope (top 174)) := ⟨rfl, rfl, rfl, by decide +kernel, rfl, by decide +kernel, by decide +kernel⟩
def R_law_signs (ss : List Sl) (d : D) : Prop := ∃ (i : Nat), ss = [.val (.int i)] ∧ d = lI ((List.range 6).map fun (k : Nat) => Builtin.bitAnd ((i : Int) / 2 ^ ((k : Nat) : Int).toNat) 1)
theorem def_law_signs (T : Txt K mg) (S : Std K mg "_law_signs" "_law_signs" 174) : Def P w K mg base 1 "_law_signs" ["_law_number"] R_law_signs :=
  def_of S sc__law_signs (by rintro _ _ ⟨_, rfl, _⟩; rfl) (fun _ _ _ _ _ _ us hl => match us, hl with | [_], _ => rfl) fun f cdv A outer sh H E W ss d hr hR => by
    obtain ⟨i, rfl, rfl⟩ := hR
    have nd := sc__law_signs.nd
    exact ss_ret ((ee_lcM (en2 := PyData.int)  (l := List.range ((6 : Int)).toNat) (en := nD) (h := fun (k : Nat) => Builtin.bitAnd ((i : Int) / 2 ^ ((k : Nat) : Int).toNat) 1) (own := [("_law_k", 1)]) (g := (gName 1)) (js := [1]) rfl nd (blkOk_by (by kernel_rfl)) ((ei_range1 T.range ee_int (by first | assumption | omega | decide | (simp; omega) | (simp; done)) (by first | assumption | omega | decide | (simp; omega) | (simp; done))).eq (rgD_nat _)).m (by first | assumption | omega | decide | (simp; omega) | (simp; done)) (fun _ _ _ _ _ => (pg_name (i := 1) nd rfl (by first | exact Or.inl rfl | exact Or.inr rfl))) (fun x hx => (tg_name 1)) (by decide) (fun x hx _ _ _ _ _ => (ee_and_i (ee_shr (ee_var 0) (ee_var 1) ((by omega))) ee_int)))) fun v H' h => h
/-! ### _law_answer: slots 0 _law_tree_here, 1 _law_i, 2 _law_k -/
theorem sc__law_answer : FnScope ["_law_tree_here", "_law_i", "_law_k"] ["_law_tree_here", "_law_i", "_law_k"] (defScope (top 178)) := ⟨rfl, rfl, rfl, by decide +kernel, rfl, by decide +kernel, by decide +kernel⟩
def R_law_answer (ss : List Sl) (d : D) : Prop := ∃ (T : Tree) (m n i j : Nat), ss = [.val (trD T), .val (.int i), .val (.int j)] ∧ T.Ok m n ∧ i < m ∧ j < n ∧ d = .int (T.ev i j)
theorem def_law_answer (T : Txt K mg) (S : Std K mg "_law_answer" "_law_answer" 178) : Def P w K mg base 1 "_law_answer" ["_law_tree_here", "_law_i", "_law_k"] R_law_answer :=
  def_of S sc__law_answer (by rintro _ _ ⟨_, _, _, _, _, rfl, _⟩; rfl) (fun _ _ _ _ _ _ us hl => match us, hl with | [_, _, _], _ => rfl) fun f cdv A outer sh H E W ss d hr hR => by
    obtain ⟨T0, m, n, i, j, rfl, hT, hi, hj, rfl⟩ := hR
    have nd := sc__law_answer.nd
    refine ss_while (ι := Tree) (fun x => x.ev i j = T0.ev i j ∧ x.Ok m n) (fun x => [(.val (trD x)), (.val (.int i)), (.val (.int j))]) (fun x => !decide (hdS x = "end")) (fun x => x.depth) T0 ⟨rfl, hT⟩ (by repeat' (first | exact True.intro | exact Or.inl rfl | exact Or.inr rfl | apply And.intro)) ?_ ?_ ?_
    · intro x hx
      exact (cd_neS.et (ee_ixT (ee_var 0) ee_int (tr_at0 _)) ee_str)
    · rintro cur ⟨h2, h3⟩ hk
      have hk := hdk hk
      cases cur with
      | leaf a => cases hk
      | node c s t u =>
        obtain ⟨o1, o2, o3, o4⟩ := h3
        have hl : (if c then j else i) < s.length := by cases c <;> simp at o1 ⊢ <;> omega
        have e2 : (Tree.node c s t u).ev i j = if gl s (if c then j else i) = 0 then t.ev i j else u.ev i j := rfl
        rw [e2] at h2
        have g01 := gl01 o2 (if c then j else i)
        have hsel : atI [PyData.int (i : Int), .int (j : Int)] (if decide (whoS c = ("col" : Str)) = true then 1 else 0) = some (.int ((if c then j else i : Nat) : Int)) := by cases c <;> rfl
        have hat0 : atI (s.map PyData.int) ((if c then j else i : Nat) : Int) = some (.int (gl s (if c then j else i))) := at_gl hl
        generalize hg : gl s (if c then j else i) = g at h2 g01 hat0
        have hat : atI (trL (.node c s t u)) (2 + g) = some (trD (if g = 0 then t else u)) := by
          rcases g01 with rfl | rfl <;> rfl
        refine ss_asg 0 ((ee_ixT (ee_var 0) (ee_add ee_int (ee_ixT (ee_ixT (ee_var 0) ee_int ((rfl : atI (trL (.node c s t u)) 1 = some (tI s)))) (ee_ixL ((ee_lst (ea_cons (ee_var 1) (ea_cons (ee_var 2) ea_nil)))).el (ee_intB T.int (cd_eqS.ee (ee_ixT (ee_var 0) ee_int ((rfl : atI (trL (.node c s t u)) 0 = some (.str (whoS c))))) ee_str)) (hsel)) (hat0))) (hat))) ?_
        refine ss_nil fun W σ H A => ⟨(if g = 0 then t else u), ⟨?_, ?_⟩, ?_, A.weak (by repeat' (first | exact True.intro | exact Or.inl rfl | exact Or.inr rfl | apply And.intro))⟩
        · rw [← h2]
          split <;> rfl
        · show Tree.Ok m n (if g = 0 then t else u)
          split
          · exact o3
          · exact o4
        · show (if g = 0 then t else u).depth < max t.depth u.depth + 1
          split <;> omega
    · rintro cur ⟨h2, h3⟩ hk
      have hk := hdk hk
      cases cur with
      | node c s t u => cases hk
      | leaf a =>
        have e2 : T0.ev i j = a := h2.symm
        rw [e2]
        exact ss_ret ((ee_ixT (ee_var 0) ee_int ((rfl : atI [PyData.str "end", .int a] 1 = some (.int a))))) fun v H' h => h
theorem emod_of_dvd {q a b : Int} (h : q ∣ a - b) : a % q = b % q := by
  obtain ⟨c, hc⟩ := h
  have : a = b + q * c := by omega
  rw [this, Int.add_mul_emod_self_left]
/-! ### _law_again: slots 0 _law_rows, 1 _law_p, 2 _law_left, 3 _law_right, 4 _law_one, 5 _law_row, 6 _law_some, 7 _law_sums, 8 _law_a, 9 _law_k, 10 _law_answer_here -/
theorem sc__law_again : FnScope ["_law_rows", "_law_p", "_law_left", "_law_right", "_law_one", "_law_row", "_law_some", "_law_sums", "_law_a", "_law_k", "_law_answer_here"] ["_law_rows", "_law_p"] (defScope (top 182)) := ⟨rfl, rfl, rfl, by decide +kernel, rfl, by decide +kernel, by decide +kernel⟩
def R_law_again (ss : List Sl) (d : D) : Prop := ∃ (t : List (List Int)) (q n : Nat), ss = [.val (tT t), .val (.int q)] ∧ q ∈ prN ∧ GoodT t n q ∧ d = .bool true
theorem def_law_again (T : Txt K mg) (T_factors : Def P w K mg base 5 "factors" ["table", "p"] R_factors) (S : Std K mg "_law_again" "_law_again" 182) : Def P w K mg base 6 "_law_again" ["_law_rows", "_law_p"] R_law_again :=
  def_of S sc__law_again (by rintro _ _ ⟨_, _, _, rfl, _⟩; rfl) (fun _ _ _ _ _ _ us hl => match us, hl with | [_, _], _ => rfl) fun f cdv A outer sh H E W ss d hr hR => by
    obtain ⟨t, q, n, rfl, hq, G, rfl⟩ := hR
    have nd := sc__law_again.nd
    have hb := prN_bd q hq
    have Q := good_paper G
    have m1 := G.m1
    have n1 := G.n1
    have fo := fun i x hi hx => factors_ok hq rfl Q (i := i) (x := x) hi hx
    have el : (exF q (sumsF (rankedF q t))).length = t.length := by rw [exF_len, Q.ls]
    have rl : ∀ r ∈ rtF q t (rankedF q t).rows, r.length = n := fun r hr => by
      obtain ⟨i, hi, rfl⟩ := List.mem_map.mp hr
      obtain ⟨a, ha, rfl⟩ := gn_mem hi
      rw [List.length_map, List.getD_eq_getElem?_getD, List.getElem?_eq_getElem (Q.rl a ha)]
      exact G.tab.len _ (List.getElem_mem _)
    have rlen : (rtF q t (rankedF q t).rows).length = (rankedF q t).rows.length := by simp [rtF]
    have rows_le := (Q.le G.pr.hp).1
    have exl : ∀ s ∈ exF q (sumsF (rankedF q t)), s.length = (rankedF q t).rows.length ∧ ∀ x ∈ s, 0 ≤ x ∧ x < q := fun s hs => by
      obtain ⟨f, hf, rfl⟩ := List.mem_map.mp hs
      obtain ⟨i, hi⟩ := List.mem_iff_getElem?.mp hf
      refine ⟨by rw [List.length_map]; exact (Q.sm i f hi).2.1, fun x hx => ?_⟩
      obtain ⟨y, _, rfl⟩ := List.mem_map.mp hx
      exact ⟨Int.emod_nonneg _ (by omega), Int.emod_lt_of_pos _ (by omega)⟩
    obtain ⟨r0, k0, k1, _, _⟩ := G.tab.get (i := 0) (by cases t with | nil => exact absurd rfl G.ne | cons _ _ => simp)
    refine ss_unpack (d := .tuple [tT (exF q (sumsF (rankedF q t))), tT (rtF q t (rankedF q t).rows)]) ((ee_callD T_factors (eas_cons (ee_var 0) (eas_cons (ee_var 1) eas_nil)) (⟨t, q, n, rfl, hq, G, rfl⟩))) (pg_tup rfl (pgs_cons (pg_name (i := 2) nd rfl (by first | exact Or.inl rfl | exact Or.inr rfl)) (pgs_cons (pg_name (i := 3) nd rfl (by first | exact Or.inl rfl | exact Or.inr rfl)) pgs_nil))) (tg_two 2 3) ?_
    generalize exF q (sumsF (rankedF q t)) = lf at fo el exl ⊢
    generalize rtF q t (rankedF q t).rows = rt at fo rl rlen ⊢
    generalize (rankedF q t).rows.length = r at fo rlen rows_le exl
    have hnil : (rt.filter fun o => !decide ((((o.map PyData.int).length : Nat) : Int) = (((r0.map PyData.int).length : Nat) : Int))) = [] := List.filter_eq_nil_iff.mpr fun o ho => by
      rw [List.length_map, List.length_map, rl o ho, k1]; simp
    refine ss_ifR (k := false) (((ew_or (cd_neI.et (ee_lenT T.len (ee_var 2)) (ee_lenT T.len (ee_var 0))) (fun hT => (ew_or1 ((cd_neD ((show SeqAt.shaped (.list (((rt.filter fun o => !decide ((((o.map PyData.int).length : Nat) : Int) = (((r0.map PyData.int).length : Nat) : Int))).map fun _ => (1 : Int)).map PyData.int)) = true from (sh_lI _).ok)) (sh_nilL.ok) (hu_of64 hr)).et (ee_lcGM (en2 := PyData.int)  (l := rt) (en := tI) (h := fun _ => (1 : Int)) (c := fun o => !decide ((((o.map PyData.int).length : Nat) : Int) = (((r0.map PyData.int).length : Nat) : Int))) (own := [("_law_one", 4)]) (g := (gName 4)) (js := [4]) rfl nd (blkOk_by (by kernel_rfl)) (ei_tup (ee_var 3)).m ((by omega)) (fun _ _ _ _ _ => (pg_name (i := 4) nd rfl (by first | exact Or.inl rfl | exact Or.inr rfl))) (fun x hx => (tg_name 4)) (by decide) (fun x hx _ _ _ _ _ => ets_one (cd_neI.et (ee_lenT T.len (ee_var 4)) (ee_lenT T.len (ee_ixT (ee_var 0) ee_int ((show atI (t.map tI) 0 = some (tI r0) from atMi (k := 0) rfl k0)))))) (fun x hx hc _ _ _ _ _ => ee_int)) (ee_lst ea_nil))))).et).eq ?_) (fun hk => by cases hk) fun _ => ?_
    · rw [hnil, List.length_map, List.length_map, el, show PyData.eqv (.list ((([] : List (List Int)).map fun _ => (1 : Int)).map PyData.int)) (.list []) = true from eqv_nilL _]
      simp
    · refine ss_forE (l := t.zip lf) (en := fun x => .tuple [tI x.1, tI x.2]) (fun _ => [(.val (tT t)), (.val (.int q)), (.val (tT lf)), (.val (tT rt)), .any, .any, .any, .any, .any, .any, .any]) ((ei_zipT T.zip (ee_var 0) (ee_var 2)).eq (zipD_map _ _ _ _)) (pg_tup rfl (pgs_cons (pg_name (i := 5) nd rfl (by first | exact Or.inl rfl | exact Or.inr rfl)) (pgs_cons (pg_name (i := 6) nd rfl (by first | exact Or.inl rfl | exact Or.inr rfl)) pgs_nil))) (fun x _ => (tg_two 5 6)) (by repeat' (first | exact True.intro | exact Or.inl rfl | exact Or.inr rfl | apply And.intro)) (fun pre z post hz => ?_) (ss_ret ee_bl fun v H' h => h)
      obtain ⟨i, hi⟩ := List.mem_iff_getElem?.mp (show z ∈ t.zip lf by rw [hz]; simp)
      obtain ⟨g1, g2⟩ := zip_get hi
      have him := (List.getElem?_eq_some_iff.mp g1).1
      have zl := G.tab.len _ (List.mem_of_getElem? g1)
      obtain ⟨e1, e2⟩ := exl _ (List.mem_of_getElem? g2)
      refine (ss_lcM (en2 := PyData.int) 7 (l := List.range ((((z.1.map PyData.int).length : Nat) : Int)).toNat) (en := nD) (h := fun (k : Nat) => ((z.2.zip rt).map fun y => y.1 * gl y.2 k).sum % (q : Int)) (own := [("_law_k", 9)]) (g := (gName 9)) (js := [9]) rfl nd (blkOk_by (by kernel_rfl)) ((ei_range1 T.range (ee_lenT T.len (ee_var 5)) (by first | assumption | omega | decide | (simp; omega) | (simp; done)) (by first | assumption | omega | decide | (simp; omega) | (simp; done))).eq (rgD_nat _)).m ((by simp; omega)) (fun _ _ _ _ _ => (pg_name (i := 9) nd rfl (by first | exact Or.inl rfl | exact Or.inr rfl))) (fun x hx => (tg_name 9)) (by decide) (fun x hx _ _ _ _ _ => (ee_mod (ee_sum T.sum rfl ((ee_lcM (en2 := PyData.int)  (l := z.2.zip rt) (en := fun y => .tuple [.int y.1, tI y.2]) (h := fun y => y.1 * gl y.2 x) (own := [("_law_a", 8), ("_law_one", 4)]) (g := (gTup K 2 (gCons (gName 8) (gCons (gName 4) gNil)))) (js := [8, 4]) rfl nd (blkOk_by (by kernel_rfl)) ((ei_zipT T.zip (ee_var 6) (ee_var 3)).eq (zipD_map _ _ _ _)).m ((by simp; omega)) (fun _ _ _ _ _ => (pg_tup rfl (pgs_cons (pg_name (i := 8) nd rfl (by first | exact Or.inl rfl | exact Or.inr rfl)) (pgs_cons (pg_name (i := 4) nd rfl (by first | exact Or.inl rfl | exact Or.inr rfl)) pgs_nil)))) (fun y hy => (tg_two 8 4)) (by decide) (fun y hy _ _ _ _ _ => (ee_mul (ee_var 8) (ee_ixT (ee_var 4) (ee_var 9) ((show atI (y.2.map PyData.int) (x : Int) = some (.int (gl y.2 x)) from at_gl (by rw [rl _ (List.of_mem_zip hy).2]; have := List.mem_range.mp hx; rw [List.length_map] at this; omega)))) (.inl ⟨by have := e2 _ (List.of_mem_zip hy).1; omega, by have := e2 _ (List.of_mem_zip hy).1; omega⟩))))).el) (ee_var 1) ((by omega))))) ?_
      refine ss_ifR (k := false) ((((cd_neD ((sh_lI _).ok) ((show SeqAt.shaped (.list ((z.1.map fun v => v % (q : Int)).map PyData.int)) = true from (sh_lI _).ok)) (hu_of64 hr)).et (ee_var 7) (ee_lcM (en2 := PyData.int)  (l := z.1) (en := PyData.int) (h := fun v => v % (q : Int)) (own := [("_law_answer_here", 10)]) (g := (gName 10)) (js := [10]) rfl nd (blkOk_by (by kernel_rfl)) (ei_tup (ee_var 5)).m ((by omega)) (fun _ _ _ _ _ => (pg_name (i := 10) nd rfl (by first | exact Or.inl rfl | exact Or.inr rfl))) (fun x hx => (tg_name 10)) (by decide) (fun x hx _ _ _ _ _ => (ee_mod (ee_var 10) (ee_var 1) ((by omega))))))).eq ?_) (fun hk => by cases hk) fun _ => ss_end (by repeat' (first | exact True.intro | exact Or.inl rfl | exact Or.inr rfl | apply And.intro))
      have hAB : ((List.range ((((z.1.map PyData.int).length : Nat) : Int)).toNat).map fun (k : Nat) => ((z.2.zip rt).map fun y => y.1 * gl y.2 k).sum % (q : Int)) = z.1.map fun v => v % (q : Int) := by
        rw [Int.toNat_natCast, List.length_map, zl]
        refine List.ext_getElem? fun k => ?_
        rw [List.getElem?_map, List.getElem?_map]
        by_cases hk : k < n
        · rw [range_get hk, gl_get (by omega)]
          show some (((z.2.zip rt).map fun y => y.1 * gl y.2 k).sum % (q : Int)) = some (gl z.1 k % (q : Int))
          rw [sum_zip k (e1.trans rlen.symm)]
          have h1 := fo i k him hk
          rw [gt_some g1, ← rlen] at h1
          have h2 : sm rt.length (fun j => gt lf i j * gt rt j k) = sm rt.length (fun j => gl z.2 j * gt rt j k) := sm_congr fun j _ => by rw [gt_some g2]
          rw [h2] at h1
          exact congrArg some (emod_of_dvd h1)
        · rw [List.getElem?_eq_none (by rw [List.length_range]; omega), List.getElem?_eq_none (by omega)]
          rfl
      rw [show PyData.eqv (.list (((List.range ((((z.1.map PyData.int).length : Nat) : Int)).toNat).map fun (k : Nat) => ((z.2.zip rt).map fun y => y.1 * gl y.2 k).sum % (q : Int)).map PyData.int)) (.list ((z.1.map fun v => v % (q : Int)).map PyData.int)) = _ from eqv_lI _ _, hAB]
      simp
end Tf
end
section
set_option maxHeartbeats 4000000
namespace Tf
open PySem PySem.Spec PyProof.Rows L2
variable {P : Program} {w : World} {K : PySem.W.Frag} {mg : Str → Option Value} {base : Heap}
/-! ### _law_draw: slots 0 _law_well, 1 _law_most, 2 _law_at, 3 _law_cell, 4 _law_drawn -/
theorem sc__law_draw : FnScope ["_law_well", "_law_most", "_law_at", "_law_cell", "_law_drawn"] ["_law_well", "_law_most"] (defScope (top 169)) := ⟨rfl, rfl, rfl, by decide +kernel, rfl, by decide +kernel, by decide +kernel⟩
def G_draw (s0 : Sl) (ss : List Sl) : Prop := ∃ (b : Nat) (w c : Addr) (m : Int), s0 = .well b 63 w c ∧ ss = [.val (.int m)] ∧ 1 ≤ m ∧ m ≤ 1000 ∧ b ≤ 1000000
def R_draw (s0 : Sl) (ss : List Sl) (r s1 : Sl) : Prop := ∃ (b : Nat) (w c : Addr) (m v : Int), s0 = .well b 63 w c ∧ ss = [.val (.int m)] ∧ r = .val (.int v) ∧ 0 ≤ v ∧ v < m ∧ s1 = .well (b + 1) 63 w c
theorem def_law_draw (T : Txt K mg) (S : Std K mg "_law_draw" "_law_draw" 169) : DefM P w K mg base 1 "_law_draw" ["_law_well", "_law_most"] [] G_draw R_draw :=
  defM_of S sc__law_draw (by rintro _ _ ⟨_, _, _, _, rfl, rfl, _⟩; rfl) (fun _ _ _ _ _ _ us hl => match us, hl with | [_, _], _ => rfl) fun f cdv A outer sh H E W s0 v0 ss hr nr ok0 hG => by
    obtain ⟨b, aw, ac, m, rfl, rfl, hm0, hm1, hb⟩ := hG
    have nd := sc__law_draw.nd
    have hu := hu_1 hr
    have hu65 := hu_65 hr
    refine ss_asgF 2 (S := fun d env' => env' = [(.well b 63 aw ac), (.val (.int m)), .any, .any, .any] ∧ ∃ a : Int, d = .int a ∧ 1 ≤ a ∧ a ≤ b + 1) (ef_add (i := 1) (ef_wellAt 0 rfl hu) ?_) ?_
    · rintro d env' ⟨rfl, a, rfl, h1, h2⟩
      exact ⟨a, rfl, 1, ee_int, rfl, a + 1, rfl, by omega, by omega⟩
    rintro d env' ⟨rfl, a, rfl, h1, h2⟩
    refine ss_wellPut 0 (b' := b + 1) rfl hu (ee_var 2) (by omega) (by omega) ?_
    refine ss_asgF 3 (S := fun d env' => env' = [(.well (b + 1) 63 aw ac), (.val (.int m)), (.val (.int a)), .any, .any] ∧ ∃ x : Int, d = .int x) (ef_add (i := 104729 * a) (ef_wellSeed 0 rfl hu) ?_) ?_
    · rintro d env' ⟨rfl, x, rfl, h1, h2⟩
      exact ⟨x, rfl, 104729 * a, (ee_mul ee_int (ee_var 2) (.inl ⟨by omega, by omega⟩)), rfl, _, rfl⟩
    rintro d env' ⟨rfl, x, rfl⟩
    refine ss_ifPop 0 3 (k := 62) (E := fun z => [(.well (b + 1) 63 aw ac), (.val (.int m)), (.val (.int a)), (.val (.int z)), .any]) rfl (by decide) hu65 (fun z => ?_) ⟨x, (by repeat' (first | exact True.intro | exact Or.inl rfl | exact Or.inr rfl | apply And.intro))⟩ fun z => ?_
    · refine ss_ifR (cd_ge.et (ee_var 3) (ee_pow ee_int ee_int (⟨by decide, by decide, by decide⟩))) (fun hk => ?_) fun _ => ?_
      · refine ss_cellsAppend 0 rfl (by omega) hu (ee_div (ee_var 3) (ee_var 1) (⟨by omega, by omega⟩)) ?_
        refine ss_retM (s1 := .well (b + 1) 63 aw ac) ok0 (ee_mod (ee_var 3) (ee_var 1) (by first | assumption | omega | decide | (simp; omega) | (simp; done))) rfl ⟨rfl, rfl⟩ fun v H' h => ⟨_, _, ⟨b, aw, ac, m, z % m, rfl, rfl, rfl, Int.emod_nonneg _ (by omega), Int.emod_lt_of_pos _ (by omega), rfl⟩, h⟩
      · refine ss_wellWeak 0 (b' := b + 1) (k' := 63) rfl (by omega) (by omega) ?_
        exact ss_nil fun W σ H A => ⟨z, A.weak (by repeat' (first | exact True.intro | exact Or.inl rfl | exact Or.inr rfl | apply And.intro))⟩
    · refine ss_asg 4 (ee_mod (ee_mul (ee_add (ee_add (ee_mod (ee_var 3) ee_int ((by omega))) (ee_mul (ee_mul ee_int (ee_var 2) (.inl ⟨by omega, by omega⟩)) (ee_var 2) (.inr ⟨by omega, by omega⟩))) ee_int) ee_int (.inr ⟨by omega, by omega⟩)) ee_int ((by omega))) ?_
      have d1 := Int.emod_nonneg ((z % 2147483629 + 7919 * a * a + 31) * 48271) (b := 2147483647) (by omega)
      have d2 := Int.emod_lt_of_pos ((z % 2147483629 + 7919 * a * a + 31) * 48271) (b := 2147483647) (by omega)
      generalize (z % 2147483629 + 7919 * a * a + 31) * 48271 % 2147483647 = y at d1 d2 ⊢
      refine ss_asg 4 (ee_mod (ee_add (ee_add (ee_mul (ee_var 4) (ee_var 4) (.inl ⟨by omega, by omega⟩)) (ee_mul ee_int (ee_var 4) (.inl ⟨by omega, by omega⟩))) (ee_var 2)) ee_int ((by omega))) ?_
      exact ss_retM (s1 := .well (b + 1) 63 aw ac) ok0 (ee_mod (ee_div (ee_var 4) ee_int (⟨by omega, by omega⟩)) (ee_var 1) ((by omega))) rfl ⟨rfl, rfl⟩ fun v H' h => ⟨_, _, ⟨b, aw, ac, m, _, rfl, rfl, rfl, Int.emod_nonneg _ (by omega), Int.emod_lt_of_pos _ (by omega), rfl⟩, h⟩
end Tf
end
section
set_option maxHeartbeats 400000
namespace Tf
open PySem PySem.Spec PyProof.Rows L2 LamX NdefX
variable {P : Program} {w : World} {K : PySem.W.Frag} {mg : Str → Option Value} {base : Heap}
/-- a small table -/
structure Sm (t : List (List Int)) (m n : Nat) : Prop where
  m1 : t.length = m
  m0 : 1 ≤ m
  m3 : m ≤ 3
  n0 : 1 ≤ n
  n3 : n ≤ 3
  row : ∀ r ∈ t, r.length = n
  low : ∀ r ∈ t, ∀ x ∈ r, 0 ≤ x ∧ x ≤ 9
def putR (g : Int → Int → Int) (r s : List Int) : List Int := (r.map fun a => s.map (g a)).flatten
def putF (g : Int → Int → Int) (t u : List (List Int)) : List (List Int) := (t.map fun r => u.map (putR g r)).flatten
theorem putR_snoc (g : Int → Int → Int) (r s : List Int) (a : Int) : putR g (r ++ [a]) s = putR g r s ++ s.map (g a) := by simp [putR]
theorem putF_snoc (g : Int → Int → Int) (t u : List (List Int)) (r : List Int) : putF g (t ++ [r]) u = putF g t u ++ u.map (putR g r) := by simp [putF]
theorem flat_len {α β : Type} (l : List α) (f : α → List β) {k : Nat} (h : ∀ x ∈ l, (f x).length = k) : ((l.map f).flatten).length = l.length * k := by
  induction l with
  | nil => simp
  | cons x l ih =>
    rw [List.map_cons, List.flatten_cons, List.length_append, h x List.mem_cons_self, ih fun y hy => h y (List.mem_cons_of_mem _ hy), List.length_cons, Nat.add_mul, Nat.one_mul, Nat.add_comm]
theorem putR_len (g : Int → Int → Int) (r s : List Int) : (putR g r s).length = r.length * s.length := flat_len r _ fun x _ => by rw [List.length_map]
theorem putF_len (g : Int → Int → Int) (t u : List (List Int)) : (putF g t u).length = t.length * u.length := flat_len t _ fun x _ => by rw [List.length_map]
/-! ### put_together: slots 0 one, 1 other, 2 answer, 3 found, 4 row, 5 there, 6 answers, 7 a, 8 b -/
theorem sc_put_together : FnScope ["one", "other", "answer", "found", "row", "there", "answers", "a", "b"] ["one", "other", "answer"] (defScope (top 6)) := ⟨rfl, rfl, rfl, by decide +kernel, rfl, by decide +kernel, by decide +kernel⟩
def R_put (P : Program) (w : World) (K : PySem.W.Frag) (mg : Str → Option Value) (base : Heap) (ss : List Sl) (d : D) : Prop := ∃ (t u : List (List Int)) (mk : Addr → NF) (g : Int → Int → Int) (m n k l : Nat), ss = [.val (tT t), .val (tT u), .fn mk] ∧ FnG P w K mg base 1 mk g ∧ Sm t m n ∧ Sm u k l ∧ d = tT (putF g t u)
theorem def_put_together (T : Txt K mg) (S : Std K mg "put_together" "put_together" 6) : Def P w K mg base 2 "put_together" ["one", "other", "answer"] (R_put P w K mg base) :=
  def_of S sc_put_together (by rintro _ _ ⟨_, _, _, _, _, _, _, _, rfl, _⟩; rfl) (fun _ _ _ _ _ _ us hl => match us, hl with | [_, _, _], _ => rfl) fun f cdv A outer sh H E W ss d hr hR => by
    obtain ⟨t, u, mk, g, m, n, k, l, rfl, G, h1, h2, rfl⟩ := hR
    have nd := sc_put_together.nd
    have m1 := h1.m1
    have m3 := h1.m3
    have n3 := h1.n3
    have k1 := h2.m1
    have k3 := h2.m3
    have l3 := h2.n3
    refine ss_new' 3 (en_lst ea_nil) ?_
    refine ss_forE (l := t) (en := tI) (fun pre => [(.val (tT t)), (.val (tT u)), (.fn mk), (.lst ((putF g pre u).map tI)), .any, .any, .any, .any, .any]) (ei_tup (ee_var 0)) (pg_name (i := 4) nd rfl (by first | exact Or.inl rfl | exact Or.inr rfl)) (fun x _ => (tg_name 4)) (by repeat' (first | exact True.intro | exact Or.inl rfl | exact Or.inr rfl | apply And.intro)) (fun pre r post hx => ?_) (ss_ret (ee_tupleL T.tuple (el_var 3)) fun v H' h => h)
    have hpl : pre.length < t.length := by rw [hx]; simp
    have hr1 : r ∈ t := by rw [hx]; simp
    have hrl := h1.row r hr1
    have hrw := h1.low r hr1
    have hpf := putF_len g pre u
    have hb1 : pre.length * u.length ≤ 3 * 3 := Nat.mul_le_mul (by omega) (by omega)
    rw [putF_snoc]
    refine ss_forE (l := u) (en := tI) (fun pre2 => [(.val (tT t)), (.val (tT u)), (.fn mk), (.lst ((putF g pre u ++ pre2.map (putR g r)).map tI)), (.val (tI r)), .any, .any, .any, .any]) (ei_tup (ee_var 1)) (pg_name (i := 5) nd rfl (by first | exact Or.inl rfl | exact Or.inr rfl)) (fun x _ => (tg_name 5)) ?_ (fun pre2 s post2 hx2 => ?_) (ss_end (by repeat' (first | exact True.intro | exact Or.inl rfl | exact Or.inr rfl | apply And.intro)))
    · rw [List.map_nil, List.append_nil]
      exact (by repeat' (first | exact True.intro | exact Or.inl rfl | exact Or.inr rfl | apply And.intro))
    have hs1 : s ∈ u := by rw [hx2]; simp
    have hpl2 : pre2.length < u.length := by rw [hx2]; simp
    have hsl := h2.row s hs1
    have hsw := h2.low s hs1
    refine ss_new' 6 (en_lst ea_nil) ?_
    refine ss_forE (l := r) (en := PyData.int) (fun pre3 => [(.val (tT t)), (.val (tT u)), (.fn mk), (.lst ((putF g pre u ++ pre2.map (putR g r)).map tI)), (.val (tI r)), (.val (tI s)), (.lst ((putR g pre3 s).map PyData.int)), .any, .any]) (ei_tup (ee_var 4)) (pg_name (i := 7) nd rfl (by first | exact Or.inl rfl | exact Or.inr rfl)) (fun x _ => (tg_name 7)) (by repeat' (first | exact True.intro | exact Or.inl rfl | exact Or.inr rfl | apply And.intro)) (fun pre3 a post3 hx3 => ?_) ?_
    · have ha := hrw a (by rw [hx3]; simp)
      have hp3 : pre3.length < r.length := by rw [hx3]; simp
      have hb3 : pre3.length * s.length ≤ 3 * 3 := Nat.mul_le_mul (by omega) (by omega)
      have hpr := putR_len g pre3 s
      refine ss_extend 6 (ys := (s.map (g a)).map PyData.int) ((ee_lcM (en2 := PyData.int)  (l := s) (en := PyData.int) (h := g a) (own := [("b", 8)]) (g := (gName 8)) (js := [8]) rfl nd (blkOk_by (by kernel_rfl)) (ei_tup (ee_var 5)).m ((by omega)) (fun _ _ _ _ _ => (pg_name (i := 8) nd rfl (by first | exact Or.inl rfl | exact Or.inr rfl))) (fun x hx => (tg_name 8)) (by decide) (fun x hx _ _ _ _ _ => (ee_calln G 2 (ee_var 7) (ee_var 8) ha (hsw x hx))))).el ?_ (ss_end ?_)
      · rw [List.length_map, List.length_map, List.length_map]
        omega
      · rw [show (putR g (pre3 ++ [a]) s).map PyData.int = (putR g pre3 s).map PyData.int ++ (s.map (g a)).map PyData.int by rw [putR_snoc, List.map_append]]
        exact (by repeat' (first | exact True.intro | exact Or.inl rfl | exact Or.inr rfl | apply And.intro))
    · refine ss_append 3 ((ee_tupleL T.tuple (el_var 6))) ?_ (ss_end ?_)
      · rw [List.length_map, List.length_append, List.length_map]
        omega
      · rw [show (putF g pre u ++ (pre2 ++ [s]).map (putR g r)).map tI = (putF g pre u ++ pre2.map (putR g r)).map tI ++ [.tuple ((putR g r s).map PyData.int)] by simp]
        exact (by repeat' (first | exact True.intro | exact Or.inl rfl | exact Or.inr rfl | apply And.intro))
/-! ### both, times -/
theorem noFree {l : List (Str × NameKind)} : ∀ y ∈ [((Str.ofString "a"), NameKind.local), ((Str.ofString "b"), NameKind.local)], y.2 = .free → l.lookup y.1 = some .cell ∨ l.lookup y.1 = some .free := fun y hy e => by
  rcases List.mem_cons.mp hy with rfl | hy
  · cases e
  · rcases List.mem_cons.mp hy with rfl | hy
    · cases e
    · cases hy
def nmBoth (_ _ : Nat) : Str := "both.<locals>.answer"
def nmTimes (_ _ : Nat) : Str := "times.<locals>.answer"
def bothG (a b : Int) : Int := 10 * a + b
def timesG (a b : Int) : Int := a * b
def G_two (s0 : Sl) (ss : List Sl) : Prop := ∃ (t u : List (List Int)) (m n k l : Nat), s0 = .val (tT t) ∧ ss = [.val (tT u)] ∧ Sm t m n ∧ Sm u k l
def R_two (g : Int → Int → Int) (s0 : Sl) (ss : List Sl) (r s1 : Sl) : Prop := ∃ (t u : List (List Int)), s0 = .val (tT t) ∧ ss = [.val (tT u)] ∧ r = .val (tT (putF g t u)) ∧ s1 = s0
/-! ### both: slots 0 one, 1 other, 2 answer -/
theorem sc_both : FnScope ["one", "other", "answer"] ["one", "other"] (defScope (top 7)) := ⟨rfl, rfl, rfl, by decide +kernel, rfl, by decide +kernel, by decide +kernel⟩
theorem def_both (T_put_together : Def P w K mg base 2 "put_together" ["one", "other", "answer"] (R_put P w K mg base)) {TT : List NTab} {c Pt : Addr} (TB : TabB base mg c Pt) (hm : (Pt, nmBoth) ∈ TT) (hu : ∀ p ∈ TT, p.1 = Pt → p.2 = nmBoth) (S : StdC K mg "both" "both" 7 c) : DefM P w K mg base 3 "both" ["one", "other"] TT G_two (R_two bothG) :=
  defM_ofC S sc_both (by rintro _ _ ⟨_, _, _, _, _, _, rfl, rfl, _⟩; rfl) (fun _ _ _ _ _ _ us hl => match us, hl with | [_, _], _ => rfl) fun f cdv A outer sh H E W s0 v0 ss hcd hr nr ok0 hG => by
    obtain ⟨t, u, m, n, k, l, rfl, rfl, h1, h2⟩ := hG
    subst hcd
    have nd := sc_both.nd
    refine ss_nd (hfree := noFree) 2 TB rfl hm rfl hu ?_
    refine ss_retM (s1 := .val (tT t)) ok0 ((ee_callD T_put_together (eas_cons (ee_var 0) (eas_cons (ee_var 1) (eas_fn 2 eas_nil))) (⟨t, u, _, bothG, m, n, k, l, rfl, ?_, h1, h2, rfl⟩))) rfl rfl fun v H' h => ⟨_, _, ⟨t, u, rfl, rfl, rfl, rfl⟩, h⟩
    exact fng_of (fun _ => rfl) (fun _ => rfl) (fun _ => rfl) (fun _ => rfl) (nscope_by (by decide +kernel)) (fun _ _ _ _ us hl => match us, hl with | [_, _], _ => rfl) fun c f A outer s H E x y x0 x1 y0 y1 => ee_add (ee_mul ee_int (ee_var 0) (.inl ⟨by omega, by omega⟩)) (ee_var 1)
/-! ### times: slots 0 one, 1 other, 2 answer -/
theorem sc_times : FnScope ["one", "other", "answer"] ["one", "other"] (defScope (top 8)) := ⟨rfl, rfl, rfl, by decide +kernel, rfl, by decide +kernel, by decide +kernel⟩
theorem def_times (T_put_together : Def P w K mg base 2 "put_together" ["one", "other", "answer"] (R_put P w K mg base)) {TT : List NTab} {c Pt : Addr} (TB : TabB base mg c Pt) (hm : (Pt, nmTimes) ∈ TT) (hu : ∀ p ∈ TT, p.1 = Pt → p.2 = nmTimes) (S : StdC K mg "times" "times" 8 c) : DefM P w K mg base 3 "times" ["one", "other"] TT G_two (R_two timesG) :=
  defM_ofC S sc_times (by rintro _ _ ⟨_, _, _, _, _, _, rfl, rfl, _⟩; rfl) (fun _ _ _ _ _ _ us hl => match us, hl with | [_, _], _ => rfl) fun f cdv A outer sh H E W s0 v0 ss hcd hr nr ok0 hG => by
    obtain ⟨t, u, m, n, k, l, rfl, rfl, h1, h2⟩ := hG
    subst hcd
    have nd := sc_times.nd
    refine ss_nd (hfree := noFree) 2 TB rfl hm rfl hu ?_
    refine ss_retM (s1 := .val (tT t)) ok0 ((ee_callD T_put_together (eas_cons (ee_var 0) (eas_cons (ee_var 1) (eas_fn 2 eas_nil))) (⟨t, u, _, timesG, m, n, k, l, rfl, ?_, h1, h2, rfl⟩))) rfl rfl fun v H' h => ⟨_, _, ⟨t, u, rfl, rfl, rfl, rfl⟩, h⟩
    exact fng_of (fun _ => rfl) (fun _ => rfl) (fun _ => rfl) (fun _ => rfl) (nscope_by (by decide +kernel)) (fun _ _ _ _ us hl => match us, hl with | [_, _], _ => rfl) fun c f A outer s H E x y x0 x1 y0 y1 => ee_mul (ee_var 0) (ee_var 1) (.inl ⟨by omega, by omega⟩)
end Tf
end
section
set_option maxHeartbeats 1000000
namespace Tf
open PySem PySem.Spec PyProof.Rows L2
variable {P : Program} {w : World} {K : PySem.W.Frag} {mg : Str → Option Value} {base : Heap}
/-! ### _law_primes: slots  -/
theorem sc__law_primes : FnScope [] [] (defScope (top 170)) := ⟨rfl, rfl, rfl, by decide +kernel, rfl, by decide +kernel, by decide +kernel⟩
def R_law_primes (ss : List Sl) (d : D) : Prop := ss = [] ∧ d = .list (primesL.map PyData.int)
theorem primes_body : ∃ (es : List Expr) (k p : Pos), defBody (top 170) = [.Return (some (.List es k)) p] ∧ okInts es = true ∧ intsOf es = primesL := ⟨_, _, _, rfl, by kernel_rfl, by kernel_rfl⟩
theorem def_law_primes (S : Std K mg "_law_primes" "_law_primes" 170) : Def P w K mg base 1 "_law_primes" [] R_law_primes :=
  def_of S sc__law_primes (by rintro _ _ ⟨rfl, _⟩; rfl) (fun _ _ _ _ _ _ us hl => match us, hl with | [], _ => rfl) fun f cdv A outer sh H E W ss d hr hR => by
    obtain ⟨rfl, rfl⟩ := hR
    obtain ⟨es, k, p, e1, e2, e3⟩ := primes_body
    rw [e1]
    exact ss_ret (ee_ints e2 e3 (by decide +kernel)) fun v H' h => h
/-! ### draws -/
section
variable {X : Cx} {F : Fc} {env : List Sl} {e a tg : Expr} {pos : Pos} {b : Nat} {aw ac : Addr}
theorem dr_draw {m : Int} {y : Str} {p p2 : Pos} {j : Nat} (G : DefM X.prog X.w F.K X.mg X.base 1 "_law_draw" ["_law_well", "_law_most"] [] G_draw R_draw) (i : Nat) (hi : env[i]? = some (.well b 63 aw ac)) (ha : EE X F env e (.int m)) (hm : 1 ≤ m ∧ m ≤ 1000) (hb : b ≤ 1000000)
    (hr : Room j X.A := by assumption) (hk : 1 ≤ j := by first | decide | omega) (hN : X.N[i]? = some y := by rfl) (hvis : Vis X.env.scope y := by first | exact Or.inl rfl | exact Or.inr (Or.inl rfl) | exact Or.inr (Or.inr rfl)) (hK : X.K = F.K := by rfl) (hg : Gl X "_law_draw" := by rfl)
    (hdy : (y == ("__debug__" : Str)) = false := by decide) (hcy : (y == ("__classdict__" : Str)) = false := by decide)
    (he0 : starEach [e] X.env = (false, eval e X.env) :: starEach [] X.env := by rfl) (he : starEach [.Name y p2, e] X.env = (false, eval (.Name y p2) X.env) :: starEach [e] X.env := by rfl) (hpl : (backTo pos (starEach [e] X.env)).any (·.1) = false := by rfl) :
    EF X F env (.Call (.Name "_law_draw" p) [.Name y p2, e] [] pos) (DR PyData.int (fun v => 0 ≤ v ∧ v < m) env i b 1 aw ac) :=
  ef_callM G i hi ⟨trivial, fun z => nomatch z⟩ (eas_cons ha eas_nil he0) (fun s hs => by obtain rfl := List.mem_singleton.mp hs; trivial) ⟨b, aw, ac, m, rfl, rfl, hm.1, hm.2, hb⟩ (.inl rfl) (fun r s1 ⟨b0, w0, c0, m0, v, h1, h2, h3, h4, h5, h6⟩ => by
    cases h1
    cases h2
    subst h3 h6
    exact ⟨_, rfl, v, b + 1, rfl, ⟨h4, h5⟩, Nat.le_refl _, rfl⟩) trivial hr hk hN hvis hK hg (by decide) hdy hcy he hpl
theorem ei_rgN (N : Nat) {p : Pos} {n : Int} (hm : X.mg "range" = none) (ha : EE X F env a (.int n)) (hn : n = (N : Int)) (h1 : N ≤ 100000) (hg : Gl X "range" := by rfl) (hs : starEach [a] X.env = [(false, eval a X.env)] := by rfl)
    (hs' : starEach [a] X.env = (false, eval a X.env) :: starEach [] X.env := by rfl) : EI X F env tg (.Call (.Name "range" p) [a] [] pos) (rgD 0 N) :=
  (ei_range1 hm ha (by omega) (by omega) hg hs hs').eq (by rw [hn, Int.toNat_natCast])
end
/-- rows that were drawn -/
structure TabR (m n : Nat) (t : List (List Int)) : Prop where
  len : t.length = m
  row : ∀ r ∈ t, r.length = n
  low : ∀ r ∈ t, ∀ x ∈ r, 0 ≤ x ∧ x ≤ 99
theorem TabR.snoc {m n : Nat} {t : List (List Int)} {r : List Int} (h : TabR m n t) (h1 : r.length = n) (h2 : ∀ x ∈ r, 0 ≤ x ∧ x ≤ 99) : TabR (m + 1) n (t ++ [r]) := by
  refine ⟨by rw [List.length_append, h.len]; rfl, fun s hs => ?_, fun s hs => ?_⟩
  · rcases List.mem_append.mp hs with hs | hs
    · exact h.row s hs
    · obtain rfl := List.mem_singleton.mp hs
      exact h1
  · rcases List.mem_append.mp hs with hs | hs
    · exact h.low s hs
    · obtain rfl := List.mem_singleton.mp hs
      exact h2
/-! ### _law_rows_of: slots 0 _law_well, 1 _law_many, 2 _law_wide, 3 _law_p, 4 _law_way, 5 _law_least, 6 _law_most, 7 _law_firsts, 8 _law_k, 9 _law_j, 10 _law_found, 11 _law_i, 12 _law_often, 13 _law_row, 14 _law_a, 15 _law_one, 16 _law_number -/
theorem sc__law_rows_of : FnScope ["_law_well", "_law_many", "_law_wide", "_law_p", "_law_way", "_law_least", "_law_most", "_law_firsts", "_law_k", "_law_j", "_law_found", "_law_i", "_law_often", "_law_row", "_law_a", "_law_one", "_law_number"] ["_law_well", "_law_many", "_law_wide", "_law_p"] (defScope (top 171)) := ⟨rfl, rfl, rfl, by decide +kernel, rfl, by decide +kernel, by decide +kernel⟩
def G_rows (s0 : Sl) (ss : List Sl) : Prop := ∃ (b : Nat) (aw ac : Addr) (m n q : Nat), s0 = .well b 63 aw ac ∧ ss = [.val (.int m), .val (.int n), .val (.int q)] ∧ 1 ≤ m ∧ m ≤ 12 ∧ 1 ≤ n ∧ n ≤ 12 ∧ q ∈ prN ∧ b ≤ 100000
def R_rows (s0 : Sl) (ss : List Sl) (r s1 : Sl) : Prop := ∃ (b b' : Nat) (aw ac : Addr) (m n q : Nat) (t : List (List Int)), s0 = .well b 63 aw ac ∧ ss = [.val (.int m), .val (.int n), .val (.int q)] ∧ r = .lst (t.map tI) ∧ TabR m n t ∧ b' ≤ b + 400 ∧ s1 = .well b' 63 aw ac
theorem min3_bd {m n : Nat} (h1 : 1 ≤ m) (h2 : 1 ≤ n) : 1 ≤ min3 m n 4 ∧ min3 m n 4 ≤ 4 := by
  unfold min3
  split <;> split <;> omega
theorem def_law_rows_of (T : Txt K mg) (T__law_draw : DefM P w K mg base 1 "_law_draw" ["_law_well", "_law_most"] [] G_draw R_draw) (S : Std K mg "_law_rows_of" "_law_rows_of" 171) : DefM P w K mg base 2 "_law_rows_of" ["_law_well", "_law_many", "_law_wide", "_law_p"] [] G_rows R_rows :=
  defM_of S sc__law_rows_of (by rintro _ _ ⟨_, _, _, _, _, _, rfl, rfl, _⟩; rfl) (fun _ _ _ _ _ _ us hl => match us, hl with | [_, _, _, _], _ => rfl) fun f cdv A outer sh H E W s0 v0 ss hr nr ok0 hG => by
    obtain ⟨b, aw, ac, m, n, q, rfl, rfl, hm1, hm2, hn1, hn2, hq, hb⟩ := hG
    have nd := sc__law_rows_of.nd
    have hqb := prN_bd q hq
    have hmn := min3_bd hm1 hn1
    refine ss_asgF 4 (dr_draw T__law_draw 0 rfl ee_int (by omega) (by omega)) ?_
    rintro _ _ ⟨way, b1, rfl, hway, hb1, rfl⟩
    refine ss_ifR (cd_lt.et (ee_var 4) ee_int) (fun hk => ?_) fun hk => ?_
    · have hk : way < 3 := of_decide_eq_true hk
      refine ss_asgF 5 (dr_draw T__law_draw 0 rfl (ee_add ee_int (ee_min3 T.min (ee_var 1) (ee_var 2) ee_int)) (by omega) (by omega)) ?_
      rintro _ _ ⟨least, b2, rfl, hleast, hb2, rfl⟩
      obtain ⟨ls, rfl⟩ : ∃ ls : Nat, least = (ls : Int) := ⟨least.toNat, by omega⟩
      have hls : ls ≤ 4 := by omega
      obtain ⟨most, hat, hmo1, hmo2⟩ : ∃ most : Int, atI [PyData.int (q : Int), .int 3, .int 2] way = some (.int most) ∧ 2 ≤ most ∧ most ≤ 97 := by
        have : way = 0 ∨ way = 1 ∨ way = 2 := by omega
        rcases this with rfl | rfl | rfl
        · exact ⟨q, rfl, by omega, by omega⟩
        · exact ⟨3, rfl, by omega, by omega⟩
        · exact ⟨2, rfl, by omega, by omega⟩
      refine ss_asg 6 (ee_ixL ((ee_lst (ea_cons (ee_ixL ((ee_lst (ea_cons ee_int (ea_cons (ee_var 3) ea_nil)))).el (ee_intB T.int (cd_gt.ee (ee_var 3) ee_int)) ((show atI [PyData.int 3, .int (q : Int)] (if decide ((0 : Int) < (q : Int)) then 1 else 0) = some (.int q) by rw [decide_eq_true (by omega)]; rfl))) (ea_cons ee_int (ea_cons ee_int ea_nil))))).el (ee_var 4) (hat)) ?_
      refine ss_asgF 7 (dr_lc ⟨rfl, nd, blkOk_by (by kernel_rfl), ei_rgN (ls) T.range (ee_var 5) (by first | rfl | omega | simp) (by omega), by omega, rfl, rfl, by decide, (fun _ _ _ _ _ => (pg_name (i := 9) nd rfl (by first | exact Or.inl rfl | exact Or.inr rfl))), (fun m1 c1 hm1 hc1 _ _ _ _ _ => (((dr_lc ⟨rfl, nd, blkOk_by (by kernel_rfl), ei_rgN (n) T.range (ee_var 2) (by first | rfl | omega | simp) (by omega), by omega, rfl, rfl, by decide, (fun _ _ _ _ _ => (pg_name (i := 8) nd rfl (by first | exact Or.inl rfl | exact Or.inr rfl))), (fun m2 c2 hm2 hc2 _ _ _ _ _ => (dr_draw T__law_draw 0 rfl (ee_var 6) (by omega) (by omega))), by intro _; rfl⟩)).drn (m := 12))), by intro _; rfl⟩) ?_
      rintro _ _ ⟨firsts, b3, rfl, ⟨hf1, hf2⟩, hb3, rfl⟩
      refine ss_new' 10 (en_lst ea_nil) ?_
      obtain ⟨md, hmd, hmd1, hmd2⟩ : ∃ md : Int, atI [PyData.int 100, .int (q : Int)] (if decide (way = 0) then 1 else 0) = some (.int md) ∧ 1 ≤ md ∧ md ≤ 100 := by
        by_cases hw0 : way = 0
        · rw [decide_eq_true hw0]
          exact ⟨q, rfl, by omega, by omega⟩
        · rw [decide_eq_false hw0]
          exact ⟨100, rfl, by omega, by omega⟩
      refine ss_for (l := List.range ((m : Int)).toNat) (en := nD) (fun pre (z : Nat × List (List Int)) => z.1 ≤ b + 60 + pre.length * 4 ∧ TabR pre.length n z.2) (fun _ z => [(.well z.1 63 aw ac), (.val (.int (m : Int))), (.val (.int (n : Int))), (.val (.int (q : Int))), (.val (.int way)), (.val (.int (ls : Int))), (.val (.int most)), (.val (.list (firsts.map lI))), .any, .any, (.lst (z.2.map tI)), .any, .any, .any, .any, .any, .any]) ((ei_range1 T.range (ee_var 1) (by first | assumption | omega | decide | (simp; omega) | (simp; done)) (by first | assumption | omega | decide | (simp; omega) | (simp; done))).eq (rgD_nat _)) (pg_name (i := 11) nd rfl (by first | exact Or.inl rfl | exact Or.inr rfl)) (fun x _ => (tg_name 11)) ⟨(b3, []), ⟨by simp only [List.length_nil]; omega, ⟨rfl, (fun _ h => nomatch h), (fun _ h => nomatch h)⟩⟩, (by repeat' (first | exact True.intro | exact Or.inl rfl | exact Or.inr rfl | apply And.intro))⟩ ?_ ?_
      · rintro pre x post ⟨b4, rows⟩ hx ⟨hb4, hrows⟩
        have hpl : pre.length < m := by
          have := congrArg List.length hx
          simp at this
          omega
        refine ss_asgF 12 (dr_lc ⟨rfl, nd, blkOk_by (by kernel_rfl), ei_rgN (ls) T.range (ee_var 5) (by first | rfl | omega | simp) (by omega), by omega, rfl, rfl, by decide, (fun _ _ _ _ _ => (pg_name (i := 9) nd rfl (by first | exact Or.inl rfl | exact Or.inr rfl))), (fun m1 c1 hm1 hc1 _ _ _ _ _ => (dr_draw T__law_draw 0 rfl (ee_var 6) (by omega) (by omega))), by intro _; rfl⟩) ?_
        rintro _ _ ⟨often, b5, rfl, ⟨ho1, ho2⟩, hb5, rfl⟩
        refine (ss_lcM (en2 := PyData.int) 13 (l := List.range ((n : Int)).toNat) (en := nD) (h := fun (k : Nat) => ((often.zip firsts).map fun y => y.1 * gl y.2 k).sum) (own := [("_law_k", 8)]) (g := (gName 8)) (js := [8]) rfl nd (blkOk_by (by kernel_rfl)) ((ei_range1 T.range (ee_var 2) (by first | assumption | omega | decide | (simp; omega) | (simp; done)) (by first | assumption | omega | decide | (simp; omega) | (simp; done))).eq (rgD_nat _)).m ((by simp; omega)) (fun _ _ _ _ _ => (pg_name (i := 8) nd rfl (by first | exact Or.inl rfl | exact Or.inr rfl))) (fun x hx => (tg_name 8)) (by decide) (fun x hx _ _ _ _ _ => (ee_sum T.sum rfl ((ee_lcM (en2 := PyData.int)  (l := often.zip firsts) (en := fun y => .tuple [.int y.1, lI y.2]) (h := fun y => y.1 * gl y.2 x) (own := [("_law_a", 14), ("_law_one", 15)]) (g := (gTup K 2 (gCons (gName 14) (gCons (gName 15) gNil)))) (js := [14, 15]) rfl nd (blkOk_by (by kernel_rfl)) ((ei_zipL T.zip (ee_var 12) (ee_var 7)).eq (zipD_map _ _ _ _)).m ((by simp; omega)) (fun _ _ _ _ _ => (pg_tup rfl (pgs_cons (pg_name (i := 14) nd rfl (by first | exact Or.inl rfl | exact Or.inr rfl)) (pgs_cons (pg_name (i := 15) nd rfl (by first | exact Or.inl rfl | exact Or.inr rfl)) pgs_nil)))) (fun y hy => (tg_two 14 15)) (by decide) (fun y hy _ _ _ _ _ => (ee_mul (ee_var 14) (ee_ixL ((ee_var 15)).el (ee_var 8) ((show atI (y.2.map PyData.int) (x : Int) = some (.int (gl y.2 x)) from at_gl (by rw [(hf2 _ (List.of_mem_zip hy).2).1]; have := List.mem_range.mp hx; omega)))) (.inl ⟨by have := (ho2 _ (List.of_mem_zip hy).1); omega, by have := (ho2 _ (List.of_mem_zip hy).1); omega⟩))))).el))) ?_
        have hrl : ((List.range ((n : Int)).toNat).map fun (k : Nat) => ((often.zip firsts).map fun y => y.1 * gl y.2 k).sum).length = n := by rw [List.length_map, List.length_range, Int.toNat_natCast]
        generalize ((List.range ((n : Int)).toNat).map fun (k : Nat) => ((often.zip firsts).map fun y => y.1 * gl y.2 k).sum) = rw_ at hrl ⊢
        refine ss_append 10 (d := tI (rw_.map fun x => x % md)) ((ee_tupleL T.tuple ((ee_lcM (en2 := PyData.int)  (l := rw_) (en := PyData.int) (h := fun x => x % md) (own := [("_law_number", 16)]) (g := (gName 16)) (js := [16]) rfl nd (blkOk_by (by kernel_rfl)) (ei_list (ee_var 13)).m ((by omega)) (fun _ _ _ _ _ => (pg_name (i := 16) nd rfl (by first | exact Or.inl rfl | exact Or.inr rfl))) (fun x hx => (tg_name 16)) (by decide) (fun x hx _ _ _ _ _ => (ee_mod (ee_var 16) (ee_ixL ((ee_lst (ea_cons ee_int (ea_cons (ee_var 3) ea_nil)))).el (ee_intB T.int (ee_and (d := .bool (decide (way = 0))) (cd_eqI.ee (ee_var 4) ee_int) (fun hA => (ee_one (cd_gt.ee (ee_var 3) ee_int)).eq (by rw [hA]; simp; omega)) (fun hA => by rw [hA]))) (hmd)) ((by omega)))))).el)) ?_ (ss_nil fun W σ H A => ⟨(b5, rows ++ [rw_.map fun x => x % md]), ⟨?_, ?_⟩, A.weak ?_⟩)
        · have h1 := hrows.len
          rw [List.length_map]
          omega
        · rw [List.length_append, List.length_singleton]
          show b5 ≤ _
          have hb4 : b4 ≤ b + 60 + pre.length * 4 := hb4
          omega
        · rw [List.length_append, List.length_singleton]
          refine hrows.snoc (by rw [List.length_map]; exact hrl) fun x hx => ?_
          obtain ⟨y, _, rfl⟩ := List.mem_map.mp hx
          have h1 := Int.emod_nonneg y (b := md) (by omega)
          have h2 := Int.emod_lt_of_pos y (b := md) (by omega)
          omega
        · rw [show (rows ++ [rw_.map fun x => x % md]).map tI = rows.map tI ++ [tI (rw_.map fun x => x % md)] by simp]
          exact (by repeat' (first | exact True.intro | exact Or.inl rfl | exact Or.inr rfl | apply And.intro))
      · rintro ⟨b4, rows⟩ ⟨hb4, hrows⟩
        have hlen : (List.range ((m : Int)).toNat).length = m := by rw [List.length_range, Int.toNat_natCast]
        rw [hlen] at hb4 hrows
        have hb4 : b4 ≤ b + 60 + m * 4 := hb4
        exact ss_retLst 10 ok0 rfl (by decide) fun v H' h => ⟨_, _, ⟨b, b4, aw, ac, m, n, q, rows, rfl, rfl, rfl, hrows, by omega, rfl⟩, h⟩
    · have hk : 3 ≤ way := by have := of_decide_eq_false hk; omega
      obtain ⟨most, hat, hmo1, hmo2⟩ : ∃ most : Int, atI [PyData.int 100, .int 2, .int 4] (way - 3) = some (.int most) ∧ 2 ≤ most ∧ most ≤ 100 := by
        have : way = 3 ∨ way = 4 ∨ way = 5 := by omega
        rcases this with rfl | rfl | rfl
        · exact ⟨100, rfl, by omega, by omega⟩
        · exact ⟨2, rfl, by omega, by omega⟩
        · exact ⟨4, rfl, by omega, by omega⟩
      refine ss_asg 6 (ee_ixL ((ee_lst (ea_cons ee_int (ea_cons ee_int (ea_cons ee_int ea_nil))))).el (ee_sub (ee_var 4) ee_int) (hat)) ?_
      refine ss_retFN ok0 (efn_lc ⟨rfl, nd, blkOk_by (by kernel_rfl), ei_rgN (m) T.range (ee_var 1) (by first | rfl | omega | simp) (by omega), by omega, rfl, rfl, by decide, (fun _ _ _ _ _ => (pg_name (i := 11) nd rfl (by first | exact Or.inl rfl | exact Or.inr rfl))), (fun m1 c1 hm1 hc1 _ _ _ _ _ => (dr_tupleL T.tuple (((dr_lc ⟨rfl, nd, blkOk_by (by kernel_rfl), ei_rgN (n) T.range (ee_var 2) (by first | rfl | omega | simp) (by omega), by omega, rfl, rfl, by decide, (fun _ _ _ _ _ => (pg_name (i := 8) nd rfl (by first | exact Or.inl rfl | exact Or.inr rfl))), (fun m2 c2 hm2 hc2 _ _ _ _ _ => (dr_draw T__law_draw 0 rfl (ee_var 6) (by omega) (by omega))), by intro _; rfl⟩)).drn (m := 12)))), by intro _; rfl⟩) ?_
      rintro _ _ ⟨vs, b2, rfl, hv1, hv2, hb2, rfl⟩
      refine ⟨.well b2 63 aw ac, rfl, ⟨rfl, rfl⟩, fun v H' h => ⟨_, _, ⟨b, b2, aw, ac, m, n, q, vs, rfl, rfl, rfl, ⟨hv1, fun r hr => (hv2 r hr).1, fun r hr x hx => ?_⟩, by omega, rfl⟩, h⟩⟩
      have := (hv2 r hr).2 x hx
      omega
end Tf
end
section
set_option maxHeartbeats 1000000
namespace Tf
open PySem PySem.Spec PyProof.Rows L2
variable {P : Program} {w : World} {K : PySem.W.Frag} {mg : Str → Option Value} {base : Heap}
section
variable {X : Cx} {F : Fc} {env : List Sl} {e a : Expr} {pos : Pos} {i b n : Nat} {aw ac : Addr}
/-- a test: draws == a constant -/
theorem ft_dr {j : Int} {k : Nat} {p : Int → Prop} {p2 : Pos} (ha : EF X F env a (DR PyData.int p env i b n aw ac)) : EFT X F env (.Compare a [.Eq] [.Constant (.int j) k p2] pos) (fun _ env' => ∃ b', b' ≤ b + n ∧ env' = env.set i (.well b' 63 aw ac)) :=
  ft_eq ha fun d env' ⟨v, b', hd, hp, hb, he⟩ => ⟨v, hd, ee_int, b', hb, he⟩
/-- if, draws in the test; what is behind both -/
theorem ss_ifFE {α : Type} {T : Bool → List Sl → Prop} {P : Po} {rest th el : List Stmt} {c : Expr} (p : α → Prop) (E : α → List Sl) (hc : EFT X F env c T) (h1 : ∀ env', T true env' → SS X F th env' { P with nx := fun W σ H => ∃ x, p x ∧ At F W (E x) σ H }) (h2 : ∀ env', T false env' → SS X F el env' { P with nx := fun W σ H => ∃ x, p x ∧ At F W (E x) σ H }) (h : ∀ x, p x → SS X F rest (E x) P) : SS X F (.If c th el pos :: rest) env P :=
  ss_ifF hc h1 h2 fun W σ H D ⟨x, hp, A⟩ l => h x hp W σ H D A l
end
theorem TabR.set {m n k : Nat} {t : List (List Int)} {r : List Int} (h : TabR m n t) (hr : r ∈ t) : TabR m n (t.set k r) := by
  refine ⟨by rw [List.length_set, h.len], fun s hs => ?_, fun s hs => ?_⟩
  · rcases List.mem_or_eq_of_mem_set hs with hs | rfl
    · exact h.row s hs
    · exact h.row _ hr
  · rcases List.mem_or_eq_of_mem_set hs with hs | rfl
    · exact h.low s hs
    · exact h.low _ hr
/-! ### _law_table: slots 0 _law_well, 1 _law_p, 2 _law_great, 3 _law_many, 4 _law_wide, 5 _law_found, 6 _law_k, 7 _law_row -/
theorem sc__law_table : FnScope ["_law_well", "_law_p", "_law_great", "_law_many", "_law_wide", "_law_found", "_law_k", "_law_row"] ["_law_well", "_law_p"] (defScope (top 172)) := ⟨rfl, rfl, rfl, by decide +kernel, rfl, by decide +kernel, by decide +kernel⟩
def G_table (s0 : Sl) (ss : List Sl) : Prop := ∃ (b : Nat) (aw ac : Addr) (q : Nat), s0 = .well b 63 aw ac ∧ ss = [.val (.int q)] ∧ q ∈ prN ∧ b ≤ 10000
def R_table (s0 : Sl) (ss : List Sl) (r s1 : Sl) : Prop := ∃ (b b' : Nat) (aw ac : Addr) (m n : Nat) (t : List (List Int)), s0 = .well b 63 aw ac ∧ r = .val (tT t) ∧ TabR m n t ∧ 1 ≤ m ∧ m ≤ 12 ∧ 1 ≤ n ∧ n ≤ 12 ∧ b' ≤ b + 500 ∧ s1 = .well b' 63 aw ac
theorem def_law_table (T : Txt K mg) (T__law_draw : DefM P w K mg base 1 "_law_draw" ["_law_well", "_law_most"] [] G_draw R_draw) (T__law_rows_of : DefM P w K mg base 2 "_law_rows_of" ["_law_well", "_law_many", "_law_wide", "_law_p"] [] G_rows R_rows) (S : Std K mg "_law_table" "_law_table" 172) : DefM P w K mg base 3 "_law_table" ["_law_well", "_law_p"] [] G_table R_table :=
  defM_of S sc__law_table (by rintro _ _ ⟨_, _, _, _, rfl, rfl, _⟩; rfl) (fun _ _ _ _ _ _ us hl => match us, hl with | [_, _], _ => rfl) fun f cdv A outer sh H E W s0 v0 ss hr nr ok0 hG => by
    obtain ⟨b, aw, ac, q, rfl, rfl, hq, hb⟩ := hG
    have nd := sc__law_table.nd
    refine ss_asgF 2 (dr_intB T.int (dr_eq (dr_draw T__law_draw 0 rfl ee_int (by omega) (by omega)))) ?_
    rintro _ _ ⟨great, b1, rfl, hgr, hb1, rfl⟩
    have hpick : ∀ (x v : Int), (∃ u : Int, x = 1 + u ∧ 0 ≤ u ∧ u < 6) → (v = 0 ∨ v = 1) → ∃ (xs : List D) (u : Int), PyData.list [.int x, .int 12] = .list xs ∧ atI xs v = some (.int u) ∧ (1 ≤ u ∧ u ≤ 12) := fun x v ⟨u, h1, h2, h3⟩ hv => by
      rcases hv with rfl | rfl
      · exact ⟨_, x, rfl, rfl, by omega⟩
      · exact ⟨_, 12, rfl, rfl, by omega⟩
    refine ss_asgF 3 (dr_ix (f := PyData.int) (q := fun v => 1 ≤ v ∧ v ≤ 12) (p := fun v => v = 0 ∨ v = 1) rfl (dr_two (dr_addR ee_int (dr_draw T__law_draw 0 rfl ee_int (by omega) (by omega))) (fun _ => ee_int)) (fun b' _ => EE.dr (ee_var 2) rfl hgr) hpick) ?_
    rintro _ _ ⟨m, b2, rfl, hm, hb2, rfl⟩
    obtain ⟨m, rfl⟩ : ∃ z : Nat, m = (z : Int) := ⟨m.toNat, by omega⟩
    refine ss_asgF 4 (dr_ix (f := PyData.int) (q := fun v => 1 ≤ v ∧ v ≤ 12) (p := fun v => ∃ u, v = great * u ∧ (u = 0 ∨ u = 1)) rfl (dr_two (dr_addR ee_int (dr_draw T__law_draw 0 rfl ee_int (by omega) (by omega))) (fun _ => ee_int)) (fun b' hb' => dr_mulR (ee_var 2) (dr_intB T.int (dr_gt (dr_draw T__law_draw 0 rfl ee_int (by omega) (by omega)))) (fun v hv => .inl ⟨by omega, by omega⟩)) (fun x v h ⟨u, h1, h2⟩ => hpick x v h (by rcases hgr with rfl | rfl <;> rcases h2 with rfl | rfl <;> omega))) ?_
    rintro _ _ ⟨n, b3, rfl, hn, hb3, rfl⟩
    obtain ⟨n, rfl⟩ : ∃ z : Nat, n = (z : Int) := ⟨n.toNat, by omega⟩
    refine ss_asgFN 5 (efn_callM (SN := fun ds env' => ∃ (t : List (List Int)) (b' : Nat), ds = t.map tI ∧ TabR m n t ∧ b' ≤ b3 + 400 ∧ env' = [(.well b' 63 aw ac), (.val (.int (q : Int))), (.val (.int great)), (.val (.int (m : Int))), (.val (.int (n : Int))), .any, .any, .any]) T__law_rows_of 0 rfl (eas_cons (ee_var 3) (eas_cons (ee_var 4) (eas_cons (ee_var 1) eas_nil))) (fun s hs => by simp at hs; rcases hs with rfl | rfl | rfl <;> trivial) ⟨b3, aw, ac, m, n, q, rfl, rfl, by omega, by omega, by omega, by omega, hq, by omega⟩ (fun r s1 ⟨b0, b', w0, c0, m0, n0, q0, t, h1, h2, h3, h4, h5, h6⟩ => by
      cases h1
      simp at h2
      obtain ⟨h2, h7, _⟩ := h2
      obtain rfl : m = m0 := by omega
      obtain rfl : n = n0 := by omega
      exact ⟨_, b', 63, h3, h6, t, b', rfl, h4, h5, by rw [h6]; rfl⟩)) ?_
    rintro _ _ ⟨rows, b4, rfl, hrows, hb4, rfl⟩
    refine ss_ifFE (fun z : Nat × List (List Int) => z.1 ≤ b4 + 3 ∧ TabR m n z.2) (fun z => [(.well z.1 63 aw ac), (.val (.int (q : Int))), (.val (.int great)), (.val (.int (m : Int))), (.val (.int (n : Int))), (.lst (z.2.map tI)), .any, .any]) (ft_dr (dr_draw T__law_draw 0 rfl ee_int (by omega) (by omega))) ?_ ?_ ?_
    · rintro _ ⟨b5, hb5, rfl⟩
      have hl := hrows.len
      have hix : ∀ v : Int, (0 ≤ v ∧ v < (m : Int)) → ∃ u, atI (rows.map tI) v = some (tI u) ∧ u ∈ rows := fun v ⟨h1, h2⟩ => by
        have h3 : v.toNat < rows.length := by omega
        exact ⟨rows[v.toNat], atMi (k := v.toNat) (by omega) (List.getElem?_eq_getElem h3), List.getElem_mem h3⟩
      refine ss_setitemF (m := 1) 5 (dr_ixOwn (f := tI) (q := fun u => u ∈ rows) 5 (dr_draw T__law_draw 0 rfl (ee_var 3) (by omega) (by omega)) (by decide) hix) (fun b' hb' => (dr_draw T__law_draw 0 rfl (ee_var 3) (by omega) (by omega))) (by decide) (fun v hv => ?_) ?_
      · have h3 : v.toNat < (rows.map tI).length := by rw [List.length_map]; omega
        exact ⟨v.toNat, by
          have e : v = ((v.toNat : Nat) : Int) := by omega
          rw [e]
          exact ixn h3⟩
      · intro u k b6 hu hb6
        refine ss_nil fun W σ H A => ⟨(b6, rows.set k u), ⟨by show b6 ≤ _; omega, hrows.set hu⟩, A.weak ?_⟩
        rw [List.map_set]
        exact (by repeat' (first | exact True.intro | exact Or.inl rfl | exact Or.inr rfl | apply And.intro))
    · rintro _ ⟨b5, hb5, rfl⟩
      exact ss_nil fun W σ H A => ⟨(b5, rows), ⟨by show b5 ≤ _; omega, hrows⟩, A.weak (by repeat' (first | exact True.intro | exact Or.inl rfl | exact Or.inr rfl | apply And.intro))⟩
    · rintro ⟨b5, t⟩ ⟨hb5, ht⟩
      have hb5 : b5 ≤ b4 + 3 := hb5
      have ht : TabR m n t := ht
      refine ss_ifFE (fun z : Nat × List (List Int) => z.1 ≤ b4 + 4 ∧ TabR m n z.2) (fun z => [(.well z.1 63 aw ac), (.val (.int (q : Int))), (.val (.int great)), (.val (.int (m : Int))), (.val (.int (n : Int))), (.lst (z.2.map tI)), .any, .any]) (ft_dr (dr_draw T__law_draw 0 rfl ee_int (by omega) (by omega))) ?_ ?_ ?_
      · rintro _ ⟨b6, hb6, rfl⟩
        have htl : ∀ r ∈ t, r.length = n := ht.row
        have htn : t.length ≤ 100000 := by have := ht.len; omega
        refine (ss_lcOwn 5 (l := t) (en := tI) (h := fun r => tI ((List.range n).map fun k => gl r (k / 2 * 2))) (own := [("_law_row", 7)]) (g := (gName 7)) (js := [7]) rfl nd (blkOk_by (by kernel_rfl)) (em_list (el_var 5)) (htn) (fun _ _ _ _ _ => (pg_name (i := 7) nd rfl (by first | exact Or.inl rfl | exact Or.inr rfl))) (fun x hx => (tg_name 7)) (by decide) (fun x hx _ _ _ _ _ => (ee_tupleL T.tuple ((ee_lcM (en2 := PyData.int)  (l := List.range ((n : Int)).toNat) (en := nD) (h := fun (k : Nat) => gl x (k / 2 * 2)) (own := [("_law_k", 6)]) (g := (gName 6)) (js := [6]) rfl nd (blkOk_by (by kernel_rfl)) ((ei_range1 T.range (ee_var 4) (by first | assumption | omega | decide | (simp; omega) | (simp; done)) (by first | assumption | omega | decide | (simp; omega) | (simp; done))).eq (rgD_nat _)).m ((by simp; omega)) (fun _ _ _ _ _ => (pg_name (i := 6) nd rfl (by first | exact Or.inl rfl | exact Or.inr rfl))) (fun y hy => (tg_name 6)) (by decide) (fun y hy _ _ _ _ _ => (ee_ixT (ee_var 7) (ee_mul (ee_div (ee_var 6) ee_int (⟨by omega, by omega⟩)) ee_int (.inr ⟨by omega, by omega⟩)) ((atMi (en := PyData.int) (k := y / 2 * 2) (by omega) (gl_get (by rw [htl x hx]; have := List.mem_range.mp hy; omega)))))))).el))) ?_
        refine ss_nil fun W σ H A => ⟨(b6, t.map fun r => (List.range n).map fun k => gl r (k / 2 * 2)), ⟨?_, ⟨?_, ?_, ?_⟩⟩, A.weak ?_⟩
        · have hb6 : b6 ≤ b5 + 1 := hb6
          show b6 ≤ _
          omega
        · rw [List.length_map]
          exact ht.len
        · intro r hr
          obtain ⟨r0, _, rfl⟩ := List.mem_map.mp hr
          rw [List.length_map, List.length_range]
        · intro r hr z hz
          obtain ⟨r0, h0, rfl⟩ := List.mem_map.mp hr
          obtain ⟨k, hk, rfl⟩ := List.mem_map.mp hz
          have hk := List.mem_range.mp hk
          exact ht.low r0 h0 _ (List.mem_of_getElem? (gl_get (by rw [ht.row r0 h0]; omega)))
        · rw [show (t.map fun r => (List.range n).map fun k => gl r (k / 2 * 2)).map tI = t.map fun r => tI ((List.range n).map fun k => gl r (k / 2 * 2)) by rw [List.map_map]; rfl]
          exact (by repeat' (first | exact True.intro | exact Or.inl rfl | exact Or.inr rfl | apply And.intro))
      · rintro _ ⟨b6, hb6, rfl⟩
        exact ss_nil fun W σ H A => ⟨(b6, t), ⟨by show b6 ≤ _; omega, ht⟩, A.weak (by repeat' (first | exact True.intro | exact Or.inl rfl | exact Or.inr rfl | apply And.intro))⟩
      · rintro ⟨b6, t2⟩ ⟨hb6, ht2⟩
        have hb6 : b6 ≤ b4 + 4 := hb6
        exact ss_retM (s1 := .well b6 63 aw ac) ok0 (ee_tupleL T.tuple (el_var 5)) rfl ⟨rfl, rfl⟩ fun v H' h => ⟨_, _, ⟨b, b6, aw, ac, m, n, t2, rfl, rfl, ht2, by omega, by omega, by omega, by omega, by omega, rfl⟩, h⟩
end Tf
end
section
set_option maxHeartbeats 1000000
namespace Tf
open PySem PySem.Spec PyProof.Rows L2
variable {P : Program} {w : World} {K : PySem.W.Frag} {mg : Str → Option Value} {base : Heap}
section
variable {X : Cx} {F : Fc} {env : List Sl} {e a bb : Expr} {pos : Pos} {i b n : Nat} {aw ac : Addr}
theorem at01 {v : Int} (h : v = 0 ∨ v = 1) : ∃ k, atI (("01" : Str).cps.toList) v = some k ∧ (⟨#[k]⟩ : Str) = sg1 v := by
  rcases h with rfl | rfl
  · exact ⟨48, by decide +kernel, rfl⟩
  · exact ⟨49, by decide +kernel, rfl⟩
theorem ee_ix01 {v : Int} {j : Nat} {p : Pos} (hb : EE X F env bb (.int v)) (hv : v = 0 ∨ v = 1) (hs : PlainIx bb := by exact fun _ _ => rfl) : EE X F env (.Subscript (.Constant (.str "01") j p) bb pos) (.str (sg1 v)) := by
  obtain ⟨k, h1, h2⟩ := at01 hv
  exact (ee_ixS ee_str hb (by decide) h1 hs).eq (by rw [h2])
theorem dr_ix01 {p : Int → Prop} {j : Nat} {p1 : Pos} (hb : EF X F env bb (DR PyData.int p env i b n aw ac)) (hp : ∀ v, p v → v = 0 ∨ v = 1) (hs : PlainIx bb := by exact fun _ _ => rfl) : EF X F env (.Subscript (.Constant (.str "01") j p1) bb pos) (DR sgS (fun v => v = 0 ∨ v = 1) env i b n aw ac) :=
  ef_ixS ee_str hb (by decide) (fun d env' ⟨v, b', hd, hpv, hb', he⟩ => by
    obtain ⟨k, h1, h2⟩ := at01 (hp v hpv)
    exact ⟨v, k, hd, h1, v, b', by rw [h2]; rfl, hp v hpv, hb', he⟩) hs
end
theorem bits01 {l : List Int} (h : ∀ x ∈ l, x = 0 ∨ x = 1) (i : Nat) : gl l i = 0 ∨ gl l i = 1 := gl01 h i
theorem map_sgS (l : List Nat) (g : Nat → Int) : (l.map fun k => sg1 (g k)).map PyData.str = (l.map g).map sgS := by rw [List.map_map, List.map_map]; rfl
def sgnL (x : Nat) : List Int := (List.range 6).map fun (k : Nat) => Builtin.bitAnd ((x : Int) / 2 ^ ((k : Nat) : Int).toNat) 1
def sgnN (x : Nat) : Nat := ((sgnL x).filter fun s => decide (s = 1)).length
theorem sgnL_len (x : Nat) : (sgnL x).length = 6 := by simp [sgnL]
theorem sgnN_le (x : Nat) : sgnN x ≤ 6 := by
  have := List.length_filter_le (fun s => decide (s = 1)) (sgnL x)
  rw [sgnL_len] at this
  exact this
theorem at_len {l : List Int} {j : Int} (k : Nat) (hj : j = ((k : Nat) : Int)) (h : k < l.length) : atI (l.map PyData.int) j = some (.int (gl l k)) := by
  rw [hj]
  exact at_gl h
/-! ### _law_question: slots 0 _law_well, 1 _law_n, 2 _law_way, 3 _law_many, 4 _law_k, 5 _law_signs_here, 6 _law_sign -/
theorem sc__law_question : FnScope ["_law_well", "_law_n", "_law_way", "_law_many", "_law_k", "_law_signs_here", "_law_sign"] ["_law_well", "_law_n"] (defScope (top 173)) := ⟨rfl, rfl, rfl, by decide +kernel, rfl, by decide +kernel, by decide +kernel⟩
def G_question (s0 : Sl) (ss : List Sl) : Prop := ∃ (b : Nat) (aw ac : Addr) (n : Nat), s0 = .well b 63 aw ac ∧ ss = [.val (.int n)] ∧ 1 ≤ n ∧ n ≤ 6 ∧ b ≤ 10000
def R_question (s0 : Sl) (ss : List Sl) (r s1 : Sl) : Prop := ∃ (b b' : Nat) (aw ac : Addr) (n : Nat) (l : List Int), s0 = .well b 63 aw ac ∧ ss = [.val (.int n)] ∧ r = .val (.str (tx l)) ∧ l.length = 2 ^ n ∧ (∀ x ∈ l, x = 0 ∨ x = 1) ∧ b' ≤ b + 100 ∧ s1 = .well b' 63 aw ac
theorem def_law_question (T : Txt K mg) (T__law_draw : DefM P w K mg base 1 "_law_draw" ["_law_well", "_law_most"] [] G_draw R_draw) (T__law_signs : Def P w K mg base 1 "_law_signs" ["_law_number"] R_law_signs) (S : Std K mg "_law_question" "_law_question" 173) : DefM P w K mg base 2 "_law_question" ["_law_well", "_law_n"] [] G_question R_question :=
  defM_of S sc__law_question (by rintro _ _ ⟨_, _, _, _, rfl, rfl, _⟩; rfl) (fun _ _ _ _ _ _ us hl => match us, hl with | [_, _], _ => rfl) fun f cdv A outer sh H E W s0 v0 ss hr nr ok0 hG => by
    obtain ⟨b, aw, ac, n, rfl, rfl, hn1, hn2, hb⟩ := hG
    have nd := sc__law_question.nd
    have hN := two_le hn2
    have hN1 : 1 ≤ 2 ^ n := Nat.two_pow_pos n
    refine ss_asgF 2 (dr_draw T__law_draw 0 rfl ee_int (by omega) (by omega)) ?_
    rintro _ _ ⟨way, b1, rfl, hway, hb1, rfl⟩
    refine ss_asg 3 (d := .int ((2 ^ n : Nat) : Int)) (((ee_shl ee_int (ee_var 1) (⟨by omega, by omega, by omega⟩))).eq (by rw [Int.toNat_natCast, Int.one_mul]; push_cast; rfl)) ?_
    have fin : ∀ (l : List Int) (b' : Nat), l.length = 2 ^ n → (∀ x ∈ l, x = 0 ∨ x = 1) → b' ≤ b + 100 → ∀ v H', RetM K W H (.well b 63 aw ac) v0 [] (.val (.str (tx l))) (.well b' 63 aw ac) v H' → ∃ r s1, R_question (.well b 63 aw ac) [.val (.int (n : Int))] r s1 ∧ RetM K W H (.well b 63 aw ac) v0 [] r s1 v H' := fun l b' h1 h2 h3 v H' h => ⟨_, _, ⟨b, b', aw, ac, n, l, rfl, rfl, rfl, h1, h2, h3, rfl⟩, h⟩
    generalize 2 ^ n = N at hN hN1 fin ⊢
    refine ss_ifR (cd_eqI.et (ee_var 2) ee_int) (fun hk => ?_) fun hk => ?_
    · refine ss_retMF ok0 (dr_join ee_str (dr_lc (f := sgS) (p := fun v => v = 0 ∨ v = 1) (n := 1) ⟨rfl, nd, blkOk_by (by kernel_rfl), ei_rgN (N) T.range (ee_var 3) (by first | rfl | omega | simp) (by omega), by omega, rfl, rfl, by decide, (fun _ _ _ _ _ => (pg_name (i := 4) nd rfl (by first | exact Or.inl rfl | exact Or.inr rfl))), (fun m1 c1 hm1 hc1 _ _ _ _ _ => (dr_ix01 (dr_draw T__law_draw 0 rfl ee_int (by omega) (by omega)) (fun v hv => by omega))), by intro _; rfl⟩) rfl (fun l hl => by omega)) ?_
      rintro _ _ ⟨l, b2, rfl, ⟨hl1, hl2⟩, hb2, rfl⟩
      exact ⟨.well b2 63 aw ac, rfl, ⟨rfl, rfl⟩, fin l b2 hl1 hl2 (by omega)⟩
    refine ss_ifR (cd_eqI.et (ee_var 2) ee_int) (fun hk => ?_) fun hk => ?_
    · refine ss_retMF ok0 (dr_join ee_str (dr_lc (f := sgS) (p := fun v => v = 0 ∨ v = 1) (n := 1) ⟨rfl, nd, blkOk_by (by kernel_rfl), ei_rgN (N) T.range (ee_var 3) (by first | rfl | omega | simp) (by omega), by omega, rfl, rfl, by decide, (fun _ _ _ _ _ => (pg_name (i := 4) nd rfl (by first | exact Or.inl rfl | exact Or.inr rfl))), (fun m1 c1 hm1 hc1 _ _ _ _ _ => (dr_ix01 (dr_intB T.int (dr_eq (dr_draw T__law_draw 0 rfl ee_int (by omega) (by omega)))) (fun v hv => hv))), by intro _; rfl⟩) rfl (fun l hl => by omega)) ?_
      rintro _ _ ⟨l, b2, rfl, ⟨hl1, hl2⟩, hb2, rfl⟩
      exact ⟨.well b2 63 aw ac, rfl, ⟨rfl, rfl⟩, fin l b2 hl1 hl2 (by omega)⟩
    refine ss_asgF 5 (dr_lc ⟨rfl, nd, blkOk_by (by kernel_rfl), ei_rgN (8) T.range ee_int (by first | rfl | omega | simp) (by omega), by omega, rfl, rfl, by decide, (fun _ _ _ _ _ => (pg_name (i := 4) nd rfl (by first | exact Or.inl rfl | exact Or.inr rfl))), (fun m1 c1 hm1 hc1 _ _ _ _ _ => (dr_draw T__law_draw 0 rfl ee_int (by omega) (by omega))), by intro _; rfl⟩) ?_
    rintro _ _ ⟨sg, b3, rfl, ⟨hs1, hs2⟩, hb3, rfl⟩
    have hs2 : ∀ x ∈ sg, x = 0 ∨ x = 1 := fun x hx => by have := hs2 x hx; omega
    have pure_ : ∀ (g : Nat → Nat), (∀ k, k < N → g k < 8) → ((List.range ((N : Int)).toNat).map fun k => gl sg (g k)).length = N ∧ ∀ x ∈ (List.range ((N : Int)).toNat).map fun k => gl sg (g k), x = 0 ∨ x = 1 := fun g hg => ⟨by rw [List.length_map, List.length_range, Int.toNat_natCast], fun x hx => by
      obtain ⟨k, _, rfl⟩ := List.mem_map.mp hx
      exact gl01 hs2 _⟩
    refine ss_ifR (cd_eqI.et (ee_var 2) ee_int) (fun hk => ?_) fun hk => ?_
    · obtain ⟨q1, q2⟩ := pure_ (fun k => k % 8) (fun k _ => by omega)
      exact ss_retM (s1 := .well b3 63 aw ac) ok0 (ee_join ee_str (((ee_lcM (en2 := PyData.str)  (l := List.range ((N : Int)).toNat) (en := nD) (h := fun (k : Nat) => sg1 (gl sg (k % 8))) (own := [("_law_k", 4)]) (g := (gName 4)) (js := [4]) rfl nd (blkOk_by (by kernel_rfl)) ((ei_range1 T.range (ee_var 3) (by first | assumption | omega | decide | (simp; omega) | (simp; done)) (by first | assumption | omega | decide | (simp; omega) | (simp; done))).eq (rgD_nat _)).m ((by simp; omega)) (fun _ _ _ _ _ => (pg_name (i := 4) nd rfl (by first | exact Or.inl rfl | exact Or.inr rfl))) (fun x hx => (tg_name 4)) (by decide) (fun x hx _ _ _ _ _ => (ee_ix01 (ee_ixL ((ee_var 5)).el (ee_mod (ee_var 4) ee_int (by first | assumption | omega | decide | (simp; omega) | (simp; done))) (atMi (en := PyData.int) (k := x % 8) (by omega) (gl_get (by omega)))) (gl01 hs2 _))))).eq (by rw [map_sgS])) rfl (by omega)) rfl ⟨rfl, rfl⟩ (fin _ b3 q1 q2 (by omega))
    refine ss_ifR (cd_eqI.et (ee_var 2) ee_int) (fun hk => ?_) fun hk => ?_
    · have hcn : ∀ x, sgnN x < 8 := fun x => by have := sgnN_le x; omega
      obtain ⟨q1, q2⟩ := pure_ sgnN (fun k _ => hcn k)
      exact ss_retM (s1 := .well b3 63 aw ac) ok0 (ee_join ee_str (((ee_lcM (en2 := PyData.str)  (l := List.range ((N : Int)).toNat) (en := nD) (h := fun (k : Nat) => sg1 (gl sg (sgnN k))) (own := [("_law_k", 4)]) (g := (gName 4)) (js := [4]) rfl nd (blkOk_by (by kernel_rfl)) ((ei_range1 T.range (ee_var 3) (by first | assumption | omega | decide | (simp; omega) | (simp; done)) (by first | assumption | omega | decide | (simp; omega) | (simp; done))).eq (rgD_nat _)).m ((by simp; omega)) (fun _ _ _ _ _ => (pg_name (i := 4) nd rfl (by first | exact Or.inl rfl | exact Or.inr rfl))) (fun x hx => (tg_name 4)) (by decide) (fun x hx _ _ _ _ _ => (ee_ix01 (ee_ixL ((ee_var 5)).el (ee_lenL T.len ((ee_lcGM (en2 := PyData.int)  (l := sgnL x) (en := PyData.int) (h := fun _ => (1 : Int)) (c := fun s => decide (s = 1)) (own := [("_law_sign", 6)]) (g := (gName 6)) (js := [6]) rfl nd (blkOk_by (by kernel_rfl)) (ei_list (ee_callD T__law_signs (eas_cons (ee_var 4) eas_nil) (⟨x, rfl, rfl⟩))).m ((by rw [sgnL_len]; omega)) (fun _ _ _ _ _ => (pg_name (i := 6) nd rfl (by first | exact Or.inl rfl | exact Or.inr rfl))) (fun y hy => (tg_name 6)) (by decide) (fun y hy _ _ _ _ _ => ets_one (cd_eqI.et (ee_var 6) ee_int)) (fun y hy hc _ _ _ _ _ => ee_int))).el) ((show atI (sg.map PyData.int) _ = some (.int (gl sg (sgnN x))) from at_len (sgnN x) (by rw [List.length_map, List.length_map]; rfl) (by rw [hs1]; exact hcn x)))) (gl01 hs2 _))))).eq (by rw [map_sgS])) rfl (by omega)) rfl ⟨rfl, rfl⟩ (fin _ b3 q1 q2 (by omega))
    refine ss_ifR (cd_eqI.et (ee_var 2) ee_int) (fun hk => ?_) fun hk => ?_
    · have hdv : ∀ k, k < N → k * 8 / N < 8 := fun k hk => Nat.div_lt_of_lt_mul (by omega)
      obtain ⟨q1, q2⟩ := pure_ (fun k => k * 8 / N) hdv
      exact ss_retM (s1 := .well b3 63 aw ac) ok0 (ee_join ee_str (((ee_lcM (en2 := PyData.str)  (l := List.range ((N : Int)).toNat) (en := nD) (h := fun (k : Nat) => sg1 (gl sg (k * 8 / N))) (own := [("_law_k", 4)]) (g := (gName 4)) (js := [4]) rfl nd (blkOk_by (by kernel_rfl)) ((ei_range1 T.range (ee_var 3) (by first | assumption | omega | decide | (simp; omega) | (simp; done)) (by first | assumption | omega | decide | (simp; omega) | (simp; done))).eq (rgD_nat _)).m ((by simp; omega)) (fun _ _ _ _ _ => (pg_name (i := 4) nd rfl (by first | exact Or.inl rfl | exact Or.inr rfl))) (fun x hx => (tg_name 4)) (by decide) (fun x hx _ _ _ _ _ => (ee_ix01 (ee_ixL ((ee_var 5)).el (ee_div (ee_mul (ee_var 4) ee_int (.inr ⟨by omega, by omega⟩)) (ee_var 3) (⟨by omega, by omega⟩)) (atMi (en := PyData.int) (k := x * 8 / N) (by push_cast; rfl) (gl_get (by rw [hs1]; exact hdv x (by have := List.mem_range.mp hx; omega))))) (gl01 hs2 _))))).eq (by rw [map_sgS])) rfl (by omega)) rfl ⟨rfl, rfl⟩ (fin _ b3 q1 q2 (by omega))
    have h0 : ¬ way = 0 := of_decide_eq_false (by assumption)
    have h5 : way = 5 ∨ way = 6 := by simp only [decide_eq_false_iff_not] at *; omega
    exact ss_retM (s1 := .well b3 63 aw ac) ok0 (ee_mulS (ee_ix01 (ee_sub (ee_var 2) ee_int) (by omega)) (ee_var 3) (by omega) (by omega)) rfl ⟨rfl, rfl⟩ (fin _ b3 (by rw [List.length_replicate]) (fun x hx => by have := (List.mem_replicate.mp hx).2; omega) (by omega))
end Tf
end
section
set_option maxHeartbeats 1000000
namespace Tf
open PySem PySem.Spec PyProof.Rows L2
variable {P : Program} {w : World} {K : PySem.W.Frag} {mg : Str → Option Value} {base : Heap}
section
variable {X : Cx} {F : Fc} {env : List Sl} {e a bb a1 a2 a3 : Expr} {pos : Pos} {i b n m : Nat} {aw ac : Addr} {α β : Type} {d1 d2 d3 : D}
theorem dr_pair {f : α → D} {g : β → D} {p : α → Prop} {q : β → Prop} {kk : Nat} (ha : EF X F env a (DR f p env i b n aw ac)) (hb : ∀ b', b' ≤ b + n → EF X F (env.set i (.well b' 63 aw ac)) bb (DR g q (env.set i (.well b' 63 aw ac)) i b' m aw ac)) (q1 : starEach [a, bb] X.env = (false, eval a X.env) :: starEach [bb] X.env := by rfl) (q2 : starEach [bb] X.env = (false, eval bb X.env) :: starEach [] X.env := by rfl) :
    EF X F env (.Tuple [a, bb] kk pos) (DR (fun v : α × β => .tuple [f v.1, g v.2]) (fun v => p v.1 ∧ q v.2) env i b (n + m) aw ac) :=
  ef_tup (S1 := fun ds env' => ∃ (v : α × β) (b' : Nat), ds = [f v.1, g v.2] ∧ (p v.1 ∧ q v.2) ∧ b' ≤ b + (n + m) ∧ env' = env.set i (.well b' 63 aw ac)) (efa_cons ha (fun d env' ⟨v, b', hd, hp, hb', he⟩ => by
    subst he
    exact efa_cons (hb b' hb') (fun d3 env3 ⟨u, b2, h1, h2, h3, h4⟩ => efa_nil ⟨(v, u), b2, by rw [hd, h1], ⟨hp, h2⟩, by omega, by rw [h4, List.set_set]⟩) q2) q1) (by simp) fun ds env' ⟨v, b', hd, hp, hb', he⟩ => ⟨by rw [hd]; rfl, v, b', by rw [hd], hp, hb', he⟩
/-- x, y = e, e with draws -/
theorem ss_unpackDR {p : α × β → Prop} {f : α → D} {g : β → D} {tg : Expr} {P : Po} {rest : List Stmt} (j k : Nat) (he : EF X F env e (DR (fun v : α × β => .tuple [f v.1, g v.2]) p env i b n aw ac)) (hg : PG X tg (gTup F.K 2 (gCons (gName j) (gCons (gName k) gNil)))) (h : ∀ (u : α) (v : β) (b' : Nat), p (u, v) → b' ≤ b + n → SS X F rest (((env.set i (.well b' 63 aw ac)).set j (.val (f u))).set k (.val (g v))) P) (hs : swapsWithSole [tg] e pos.line X.env = pure false := by rfl) (hw : swappedStores [tg] e X.env = pure none := by rfl)
    (h1 : (assignEach [tg] X.env).map (·.2) = [assign tg X.env] := by rfl) : SS X F (.Assign [tg] e pos :: rest) env P := fun W σ H D A l =>
  sSs_of (pss_cons (ps_asg pe_s hg hs hw h1) pss_s) (he W σ H _ A fun v H' d env' ⟨u, b', hd, hp, hb', he'⟩ g' _ A1 r1 => by
    subst hd he'
    exact tg_two (F := F) (d1 := f u.1) (d2 := g u.2) j k W _ σ H' v _ A1 r1 fun σ' A' _ _ => h u.1 u.2 b' hp hb' W σ' H' D A' (l.grow g'))
theorem dr_tupR {f : α → D} {p : α → Prop} {kk : Nat} (hw : env[i]? = some (.well b 63 aw ac)) (ha : EE X F env a d1) (hb : EF X F env bb (DR f p env i b n aw ac)) (q1 : starEach [a, bb] X.env = (false, eval a X.env) :: starEach [bb] X.env := by rfl) (q2 : starEach [bb] X.env = (false, eval bb X.env) :: starEach [] X.env := by rfl) : EF X F env (.Tuple [a, bb] kk pos) (DR (fun v => .tuple [d1, f v]) p env i b n aw ac) :=
  ef_tup (S1 := fun ds env' => ∃ (v : α) (b' : Nat), ds = [d1, f v] ∧ p v ∧ b' ≤ b + n ∧ env' = env.set i (.well b' 63 aw ac)) (efa_cons ha.ef (fun d env' ⟨h1, h2⟩ => by
    subst h1 h2
    exact efa_cons hb (fun d3 env3 ⟨u, b2, h1, h2, h3, h4⟩ => efa_nil ⟨u, b2, by rw [h1], h2, h3, h4⟩) q2) q1) (by simp) fun ds env' ⟨v, b', hd, hp, hb', he⟩ => ⟨by rw [hd]; rfl, v, b', by rw [hd], hp, hb', he⟩
theorem dr_tup4 {f : α → D} {p : α → Prop} {kk : Nat} (h1 : EE X F env a1 d1) (h2 : EE X F env a2 d2) (h3 : EE X F env a3 d3) (hb : EF X F env bb (DR f p env i b n aw ac)) (q1 : starEach [a1, a2, a3, bb] X.env = (false, eval a1 X.env) :: starEach [a2, a3, bb] X.env := by rfl) (q2 : starEach [a2, a3, bb] X.env = (false, eval a2 X.env) :: starEach [a3, bb] X.env := by rfl) (q3 : starEach [a3, bb] X.env = (false, eval a3 X.env) :: starEach [bb] X.env := by rfl) (q4 : starEach [bb] X.env = (false, eval bb X.env) :: starEach [] X.env := by rfl) : EF X F env (.Tuple [a1, a2, a3, bb] kk pos) (DR (fun v => .tuple [d1, d2, d3, f v]) p env i b n aw ac) :=
  ef_tup (S1 := fun ds env' => ∃ (v : α) (b' : Nat), ds = [d1, d2, d3, f v] ∧ p v ∧ b' ≤ b + n ∧ env' = env.set i (.well b' 63 aw ac)) (efa_cons h1.ef (fun d env' ⟨g1, g2⟩ => by
    subst g1 g2
    refine efa_cons h2.ef (fun d env' ⟨g1, g2⟩ => ?_) q2
    subst g1 g2
    refine efa_cons h3.ef (fun d env' ⟨g1, g2⟩ => ?_) q3
    subst g1 g2
    exact efa_cons hb (fun d3 env3 ⟨u, b2, h1, h2, h3, h4⟩ => efa_nil ⟨u, b2, by rw [h1], h2, h3, h4⟩) q4) q1) (by simp) fun ds env' ⟨v, b', hd, hp, hb', he⟩ => ⟨by rw [hd]; rfl, v, b', by rw [hd], hp, hb', he⟩
end
/-! ### _law_small: slots 0 _law_well, 1 _law_many, 2 _law_wide, 3 _law_way, 4 _law_firsts, 5 _law_k, 6 _law_j, 7 _law_rows, 8 _law_i, 9 _law_one, 10 _law_other, 11 _law_some, 12 _law_a, 13 _law_b -/
theorem sc__law_small : FnScope ["_law_well", "_law_many", "_law_wide", "_law_way", "_law_firsts", "_law_k", "_law_j", "_law_rows", "_law_i", "_law_one", "_law_other", "_law_some", "_law_a", "_law_b"] ["_law_well"] (defScope (top 176)) := ⟨rfl, rfl, rfl, by decide +kernel, rfl, by decide +kernel, by decide +kernel⟩
def G_small (s0 : Sl) (ss : List Sl) : Prop := ∃ (b : Nat) (aw ac : Addr), s0 = .well b 63 aw ac ∧ ss = [] ∧ b ≤ 10000
def R_small (s0 : Sl) (ss : List Sl) (r s1 : Sl) : Prop := ∃ (b b' : Nat) (aw ac : Addr) (m n : Nat) (t : List (List Int)), s0 = .well b 63 aw ac ∧ r = .val (tT t) ∧ Sm t m n ∧ b' ≤ b + 100 ∧ s1 = .well b' 63 aw ac
theorem def_law_small (T : Txt K mg) (T__law_draw : DefM P w K mg base 1 "_law_draw" ["_law_well", "_law_most"] [] G_draw R_draw) (S : Std K mg "_law_small" "_law_small" 176) : DefM P w K mg base 2 "_law_small" ["_law_well"] [] G_small R_small :=
  defM_of S sc__law_small (by rintro _ _ ⟨_, _, _, rfl, rfl, _⟩; rfl) (fun _ _ _ _ _ _ us hl => match us, hl with | [_], _ => rfl) fun f cdv A outer sh H E W s0 v0 ss hr nr ok0 hG => by
    obtain ⟨b, aw, ac, rfl, rfl, hb⟩ := hG
    have nd := sc__law_small.nd
    refine ss_asgF 1 (dr_addR ee_int (dr_draw T__law_draw 0 rfl ee_int (by omega) (by omega))) ?_
    rintro _ _ ⟨m, b1, rfl, hm, hb1, rfl⟩
    obtain ⟨m, rfl⟩ : ∃ z : Nat, m = (z : Int) := ⟨m.toNat, by omega⟩
    refine ss_asgF 2 (dr_addR ee_int (dr_draw T__law_draw 0 rfl ee_int (by omega) (by omega))) ?_
    rintro _ _ ⟨n, b2, rfl, hn, hb2, rfl⟩
    obtain ⟨n, rfl⟩ : ∃ z : Nat, n = (z : Int) := ⟨n.toNat, by omega⟩
    refine ss_asgF 3 (dr_draw T__law_draw 0 rfl ee_int (by omega) (by omega)) ?_
    rintro _ _ ⟨way, b3, rfl, hway, hb3, rfl⟩
    have hm : 1 ≤ m ∧ m ≤ 3 := by omega
    have hn : 1 ≤ n ∧ n ≤ 3 := by omega
    refine ss_lcF 4 ⟨rfl, nd, blkOk_by (by kernel_rfl), ei_rgN (2) T.range ee_int (by first | rfl | omega | simp) (by omega), by omega, rfl, rfl, by decide, (fun _ _ _ _ _ => (pg_name (i := 6) nd rfl (by first | exact Or.inl rfl | exact Or.inr rfl))), (fun m1 c1 hm1 hc1 _ _ _ _ _ => (((dr_lc ⟨rfl, nd, blkOk_by (by kernel_rfl), ei_rgN (n) T.range (ee_var 2) (by first | rfl | omega | simp) (by omega), by omega, rfl, rfl, by decide, (fun _ _ _ _ _ => (pg_name (i := 5) nd rfl (by first | exact Or.inl rfl | exact Or.inr rfl))), (fun m2 c2 hm2 hc2 _ _ _ _ _ => (dr_draw T__law_draw 0 rfl ee_int (by omega) (by omega))), by intro _; rfl⟩)).drn (m := 3))), by intro _; rfl⟩ ?_
    intro vs b4 hv1 hv2 hb4
    obtain ⟨f0, f1, rfl⟩ : ∃ f0 f1, vs = [f0, f1] := by
      match vs, hv1 with
      | [x, y], _ => exact ⟨x, y, rfl⟩
    have h0 := hv2 f0 (by simp)
    have h1 := hv2 f1 (by simp)
    refine ss_new' 7 (en_lst ea_nil) ?_
    refine ss_for (l := List.range ((m : Int)).toNat) (en := nD) (fun pre (z : Nat × List (List Int)) => z.1 ≤ b + 20 + pre.length * 5 ∧ z.2.length = pre.length ∧ (∀ r ∈ z.2, r.length = n) ∧ ∀ r ∈ z.2, ∀ x ∈ r, 0 ≤ x ∧ x ≤ 9) (fun _ z => [(.well z.1 63 aw ac), (.val (.int (m : Int))), (.val (.int (n : Int))), (.val (.int way)), (.val (.list ([f0, f1].map lI))), .any, .any, (.lst (z.2.map tI)), .any, .any, .any, .any, .any, .any]) ((ei_range1 T.range (ee_var 1) (by first | assumption | omega | decide | (simp; omega) | (simp; done)) (by first | assumption | omega | decide | (simp; omega) | (simp; done))).eq (rgD_nat _)) (pg_name (i := 8) nd rfl (by first | exact Or.inl rfl | exact Or.inr rfl)) (fun x _ => (tg_name 8)) ⟨(b4, []), ⟨by show b4 ≤ _; simp only [List.length_nil]; omega, rfl, (fun _ h => nomatch h), (fun _ h => nomatch h)⟩, (by repeat' (first | exact True.intro | exact Or.inl rfl | exact Or.inr rfl | apply And.intro))⟩ ?_ ?_
    · rintro pre x post ⟨b5, rows⟩ hx ⟨hb5, hr1, hr2, hr3⟩
      have hb5 : b5 ≤ b + 20 + pre.length * 5 := hb5
      have hr1 : rows.length = pre.length := hr1
      have hpl : pre.length < m := by
        have := congrArg List.length hx
        simp at this
        omega
      refine ss_unpackDR (α := Int) (β := Int) 9 10 (dr_pair (dr_draw T__law_draw 0 rfl ee_int (by omega) (by omega)) (fun b' hb' => (dr_draw T__law_draw 0 rfl ee_int (by omega) (by omega)))) (pg_tup rfl (pgs_cons (pg_name (i := 9) nd rfl (by first | exact Or.inl rfl | exact Or.inr rfl)) (pgs_cons (pg_name (i := 10) nd rfl (by first | exact Or.inl rfl | exact Or.inr rfl)) pgs_nil))) ?_
      intro one other b6 ho hb6
      obtain ⟨ho1, ho2⟩ := ho
      have ho1 : 0 ≤ one ∧ one < 2 := ho1
      have ho2 : 0 ≤ other ∧ other < 3 := ho2
      have hz : ∀ y ∈ f0.zip f1, 0 ≤ y.1 ∧ y.1 < 4 ∧ 0 ≤ y.2 ∧ y.2 < 4 := fun y hy => by
        have q1 := h0.2 _ (List.of_mem_zip hy).1
        have q2 := h1.2 _ (List.of_mem_zip hy).2
        omega
      refine ss_new' 11 (ds := [tI ((f0.zip f1).map fun y => one * y.1 + other * y.2)]) (en_lst (ea_cons ((ee_tupleL T.tuple ((ee_lcM (en2 := PyData.int)  (l := f0.zip f1) (en := fun y => .tuple [.int y.1, .int y.2]) (h := fun y => one * y.1 + other * y.2) (own := [("_law_a", 12), ("_law_b", 13)]) (g := (gTup K 2 (gCons (gName 12) (gCons (gName 13) gNil)))) (js := [12, 13]) rfl nd (blkOk_by (by kernel_rfl)) ((ei_zipL T.zip (ee_ixL ((ee_var 4)).el ee_int ((rfl : atI ([f0, f1].map lI) 0 = some (lI f0)))) (ee_ixL ((ee_var 4)).el ee_int ((rfl : atI ([f0, f1].map lI) 1 = some (lI f1))))).eq (zipD_map _ _ _ _)).m ((by simp; omega)) (fun _ _ _ _ _ => (pg_tup rfl (pgs_cons (pg_name (i := 12) nd rfl (by first | exact Or.inl rfl | exact Or.inr rfl)) (pgs_cons (pg_name (i := 13) nd rfl (by first | exact Or.inl rfl | exact Or.inr rfl)) pgs_nil)))) (fun x hx => (tg_two 12 13)) (by decide) (fun x hx _ _ _ _ _ => (ee_add (ee_mul (ee_var 9) (ee_var 12) (.inl ⟨by omega, by omega⟩)) (ee_mul (ee_var 10) (ee_var 13) (.inl ⟨by omega, by omega⟩)))))).el)) ea_nil)) ?_
      have hw1 : ∀ z ∈ (f0.zip f1).map (fun y => one * y.1 + other * y.2), 0 ≤ z ∧ z ≤ 9 := fun z hz' => by
        obtain ⟨y, hy, rfl⟩ := List.mem_map.mp hz'
        obtain ⟨g1, g2, g3, g4⟩ := hz y hy
        have : one = 0 ∨ one = 1 := by omega
        have : other = 0 ∨ other = 1 ∨ other = 2 := by omega
        rcases ‹one = 0 ∨ one = 1› with rfl | rfl <;> rcases ‹other = 0 ∨ other = 1 ∨ other = 2› with rfl | rfl | rfl <;> omega
      have hwl : ((f0.zip f1).map fun y => one * y.1 + other * y.2).length = n := by rw [List.length_map, List.length_zip, h0.1, h1.1, Nat.min_self]
      generalize ((f0.zip f1).map fun y => one * y.1 + other * y.2) = r0 at hw1 hwl ⊢
      obtain ⟨mx, hmx, hmx1, hmx2⟩ : ∃ mx : Int, atI [PyData.int 10, .int 2] (way % 2) = some (.int mx) ∧ 2 ≤ mx ∧ mx ≤ 10 := by
        have : way % 2 = 0 ∨ way % 2 = 1 := by omega
        rcases this with h | h
        · rw [h]; exact ⟨10, rfl, by omega, by omega⟩
        · rw [h]; exact ⟨2, rfl, by omega, by omega⟩
      refine ss_appendF (xs := [tI r0]) 11 (dr_tupleL T.tuple (dr_lc ⟨rfl, nd, blkOk_by (by kernel_rfl), ei_rgN (n) T.range (ee_var 2) (by first | rfl | omega | simp) (by omega), by omega, rfl, rfl, by decide, (fun _ _ _ _ _ => (pg_name (i := 5) nd rfl (by first | exact Or.inl rfl | exact Or.inr rfl))), (fun m1 c1 hm1 hc1 _ _ _ _ _ => (dr_draw T__law_draw 0 rfl (ee_ixL ((ee_lst (ea_cons ee_int (ea_cons ee_int ea_nil)))).el (ee_mod (ee_var 3) ee_int ((by omega))) (hmx)) (by omega) (by omega))), by intro _; rfl⟩)) (by decide) (show 1 < 100000 by omega) ?_
      intro r1 b7 hq1 hb7
      obtain ⟨q1, q2⟩ := hq1
      refine ss_append 7 (d := tI (if 0 < way then r1 else r0)) ((ee_ixL (el_var 11) (ee_intB T.int (cd_gt.ee (ee_var 3) ee_int)) ((show atI ([tI r0] ++ [tI r1]) (if decide (0 < way) then 1 else 0) = some (tI (if 0 < way then r1 else r0)) by by_cases h : 0 < way <;> simp only [h, decide_true, decide_false, if_true, if_false] <;> rfl)))) ?_ (ss_nil fun W σ H A => ⟨(b7, rows ++ [if 0 < way then r1 else r0]), ⟨?_, ?_, ?_, ?_⟩, A.weak ?_⟩)
      · rw [List.length_map]
        omega
      · show b7 ≤ _
        rw [List.length_append, List.length_singleton]
        omega
      · show (rows ++ _).length = _
        rw [List.length_append, List.length_append, hr1]
        rfl
      · intro r hr
        rcases List.mem_append.mp hr with hr | hr
        · exact hr2 r hr
        · obtain rfl := List.mem_singleton.mp hr
          split
          · exact q1
          · exact hwl
      · intro r hr
        rcases List.mem_append.mp hr with hr | hr
        · exact hr3 r hr
        · obtain rfl := List.mem_singleton.mp hr
          split
          · intro z hz'
            have := q2 z hz'
            omega
          · exact hw1
      · rw [show (rows ++ [if 0 < way then r1 else r0]).map tI = rows.map tI ++ [tI (if 0 < way then r1 else r0)] by simp]
        exact (by repeat' (first | exact True.intro | exact Or.inl rfl | exact Or.inr rfl | apply And.intro))
    · rintro ⟨b5, rows⟩ ⟨hb5, hr1, hr2, hr3⟩
      have hb5 : b5 ≤ b + 20 + (List.range ((m : Int)).toNat).length * 5 := hb5
      have hr1 : rows.length = (List.range ((m : Int)).toNat).length := hr1
      rw [List.length_range, Int.toNat_natCast] at hb5 hr1
      exact ss_retM (s1 := .well b5 63 aw ac) ok0 (ee_tupleL T.tuple (el_var 7)) rfl ⟨rfl, rfl⟩ fun v H' h => ⟨_, _, ⟨b, b5, aw, ac, m, n, rows, rfl, rfl, ⟨hr1, hm.1, hm.2, hn.1, hn.2, hr2, hr3⟩, by omega, rfl⟩, h⟩
/-! ### _law_tree -/
/-! ### _law_tree: slots 0 _law_well, 1 _law_many, 2 _law_wide, 3 _law_deep, 4 _law_way, 5 _law_who, 6 _law_size, 7 _law_signs_here, 8 _law_k, 9 _law_one -/
theorem sc__law_tree : FnScope ["_law_well", "_law_many", "_law_wide", "_law_deep", "_law_way", "_law_who", "_law_size", "_law_signs_here", "_law_k", "_law_one"] ["_law_well", "_law_many", "_law_wide", "_law_deep"] (defScope (top 177)) := ⟨rfl, rfl, rfl, by decide +kernel, rfl, by decide +kernel, by decide +kernel⟩
def G_tree (j : Nat) (s0 : Sl) (ss : List Sl) : Prop := ∃ (b : Nat) (aw ac : Addr) (m n : Nat) (dd : Int), s0 = .well b 63 aw ac ∧ ss = [.val (.int m), .val (.int n), .val (.int dd)] ∧ dd = (j : Int) ∧ 1 ≤ m ∧ m ≤ 3 ∧ 1 ≤ n ∧ n ≤ 3 ∧ b + 1000 * j ≤ 20000
def R_tree (j : Nat) (s0 : Sl) (ss : List Sl) (r s1 : Sl) : Prop := ∃ (b b' : Nat) (aw ac : Addr) (m n : Nat) (dd : Int) (T : Tree), s0 = .well b 63 aw ac ∧ ss = [.val (.int m), .val (.int n), .val (.int dd)] ∧ r = .val (trD T) ∧ T.Ok m n ∧ T.depth ≤ j ∧ T.Low 10 ∧ b' + 4 ≤ b + 7 * 2 ^ j ∧ s1 = .well b' 63 aw ac
theorem def_tree_step (T : Txt K mg) (T__law_draw : DefM P w K mg base 1 "_law_draw" ["_law_well", "_law_most"] [] G_draw R_draw) (S : Std K mg "_law_tree" "_law_tree" 177) (j : Nat) (hj : j ≤ 3) (ih : ∀ i, i < j → DefM P w K mg base (i + 2) "_law_tree" ["_law_well", "_law_many", "_law_wide", "_law_deep"] [] (G_tree i) (R_tree i)) : DefM P w K mg base (j + 2) "_law_tree" ["_law_well", "_law_many", "_law_wide", "_law_deep"] [] (G_tree j) (R_tree j) :=
  defM_of S sc__law_tree (by rintro _ _ ⟨_, _, _, _, _, _, rfl, rfl, _⟩; rfl) (fun _ _ _ _ _ _ us hl => match us, hl with | [_, _, _, _], _ => rfl) fun f cdv A outer sh H E W s0 v0 ss hr nr ok0 hG => by
    obtain ⟨b, aw, ac, m, n, dd, rfl, rfl, hd, hm1, hm2, hn1, hn2, hb⟩ := hG
    have nd := sc__law_tree.nd
    have p2 : 1 ≤ 2 ^ j := Nat.two_pow_pos j
    refine ss_asgF 4 (dr_draw T__law_draw 0 rfl ee_int (by omega) (by omega)) ?_
    rintro _ _ ⟨way, b1, rfl, hway, hb1, rfl⟩
    refine ss_ifR (ew_or (cd_eqI.et (ee_var 3) ee_int) (fun hT => (ew_or1 (cd_eqI.et (ee_var 4) ee_int)))).et (fun hk => ?_) fun hk => ?_
    · refine ss_retMF ok0 (dr_tupR (f := PyData.int) (p := fun v => 0 ≤ v ∧ v < 10) rfl ee_str (dr_ix (f := PyData.int) (q := fun v => 0 ≤ v ∧ v < 10) (p := fun v => 0 ≤ v ∧ v < 2) rfl (dr_two (dr_draw T__law_draw 0 rfl ee_int (by omega) (by omega)) (fun _ => ee_int)) (fun b' hb' => (dr_draw T__law_draw 0 rfl ee_int (by omega) (by omega))) (fun x v hx hv => by
        have : v = 0 ∨ v = 1 := by omega
        rcases this with rfl | rfl
        · exact ⟨_, x, rfl, rfl, hx⟩
        · exact ⟨_, 0, rfl, rfl, by omega⟩))) ?_
      rintro _ _ ⟨v, b2, rfl, hv, hb2, rfl⟩
      exact ⟨.well b2 63 aw ac, rfl, ⟨rfl, rfl⟩, fun v' H' h => ⟨_, _, ⟨b, b2, aw, ac, m, n, dd, .leaf v, rfl, rfl, rfl, trivial, Nat.zero_le _, ⟨hv.1, hv.2⟩, by omega, rfl⟩, h⟩⟩
    · have hdw : j ≠ 0 ∧ way ≠ 0 := by
        simp only [Bool.or_eq_false_iff, decide_eq_false_iff_not] at hk
        omega
      obtain ⟨i, rfl⟩ : ∃ i, j = i + 1 := ⟨j - 1, by omega⟩
      have T_law_tree := ih i (by omega)
      have e2 : 2 ^ (i + 1) = 2 * 2 ^ i := by rw [Nat.pow_succ]; omega
      have p3 : 1 ≤ 2 ^ i := Nat.two_pow_pos i
      have p4 : 2 ^ i ≤ 2 ^ 3 := Nat.pow_le_pow_right (by omega) (by omega)
      obtain ⟨cc, sz, hsel, hsz, hsz2⟩ : ∃ (cc : Bool) (sz : Nat), atI [PyData.tuple [.str "row", .int (m : Int)], .tuple [.str "col", .int (n : Int)]] (way % 2) = some (.tuple [.str (whoS cc), .int (sz : Int)]) ∧ sz = (if cc then n else m) ∧ sz ≤ 3 := by
        have : way % 2 = 0 ∨ way % 2 = 1 := by omega
        rcases this with h | h
        · rw [h]; exact ⟨false, m, rfl, rfl, hm2⟩
        · rw [h]; exact ⟨true, n, rfl, rfl, hn2⟩
      refine ss_unpack (d := .tuple [.str (whoS cc), .int (sz : Int)]) (ee_ixL ((ee_lst (ea_cons (ee_tup (ea_cons ee_str (ea_cons (ee_var 1) ea_nil))) (ea_cons (ee_tup (ea_cons ee_str (ea_cons (ee_var 2) ea_nil))) ea_nil)))).el (ee_mod (ee_var 4) ee_int ((by omega))) (hsel)) (pg_tup rfl (pgs_cons (pg_name (i := 5) nd rfl (by first | exact Or.inl rfl | exact Or.inr rfl)) (pgs_cons (pg_name (i := 6) nd rfl (by first | exact Or.inl rfl | exact Or.inr rfl)) pgs_nil))) (tg_two 5 6) ?_
      refine ss_asgF 7 (dr_tupleL T.tuple (dr_lc ⟨rfl, nd, blkOk_by (by kernel_rfl), ei_rgN (sz) T.range (ee_var 6) (by first | rfl | omega | simp) (by omega), by omega, rfl, rfl, by decide, (fun _ _ _ _ _ => (pg_name (i := 8) nd rfl (by first | exact Or.inl rfl | exact Or.inr rfl))), (fun m1 c1 hm1 hc1 _ _ _ _ _ => (dr_draw T__law_draw 0 rfl ee_int (by omega) (by omega))), by intro _; rfl⟩)) ?_
      rintro _ _ ⟨sg, b2, rfl, ⟨hs1, hs2⟩, hb2, rfl⟩
      have hs2 : ∀ x ∈ sg, x = 0 ∨ x = 1 := fun x hx => by have := hs2 x hx; omega
      have key : ∀ {env : List Sl} {b0 : Nat} {r s1 : Sl} {d3 : Int}, R_tree i (.well b0 63 aw ac) [.val (.int (m : Int)), .val (.int (n : Int)), .val (.int d3)] r s1 → ∃ d, r = .val d ∧ DR trD (fun t => t.Ok m n ∧ t.depth ≤ i ∧ t.Low 10) env 0 b0 (7 * 2 ^ i - 4) aw ac d (env.set 0 s1) := fun {env b0 r s1 d3} ⟨b3, b', w3, c3, m3, n3, d3', t, h1, h2, h3, h4, h5, h6, h7, h8⟩ => by
        cases h1
        simp at h2
        obtain ⟨q1, q2, q3⟩ := h2
        obtain rfl : m = m3 := by omega
        obtain rfl : n = n3 := by omega
        exact ⟨_, h3, t, b', rfl, ⟨h4, h5, h6⟩, by omega, by rw [h8]⟩
      have hvs : ∀ (x y z : D), ∀ s ∈ [Sl.val x, .val y, .val z], isVal s := fun x y z s hs => by simp at hs; rcases hs with rfl | rfl | rfl <;> trivial
      refine ss_asgF 9 (ef_callM T_law_tree 0 rfl ⟨trivial, fun z => nomatch z⟩ (eas_cons (ee_var 1) (eas_cons (ee_var 2) (eas_cons (ee_sub (ee_var 3) ee_int) eas_nil))) (hvs _ _ _) ⟨b2, aw, ac, m, n, dd - 1, rfl, rfl, by omega, hm1, hm2, hn1, hn2, by omega⟩ (.inl rfl) (fun r s1 h => key h)) ?_
      rintro _ _ ⟨t, b3, rfl, ⟨ht1, ht2, ht3⟩, hb3, rfl⟩
      refine ss_retMF ok0 (dr_tup4 (ee_var 5) (ee_var 7) (ee_var 9) (ef_callM T_law_tree 0 rfl ⟨trivial, fun z => nomatch z⟩ (eas_cons (ee_var 1) (eas_cons (ee_var 2) (eas_cons (ee_sub (ee_var 3) ee_int) eas_nil))) (hvs _ _ _) ⟨b3, aw, ac, m, n, dd - 1, rfl, rfl, by omega, hm1, hm2, hn1, hn2, by omega⟩ (.inl rfl) (fun r s1 h => key h))) ?_
      rintro _ _ ⟨u, b4, rfl, ⟨hu1, hu2, hu3⟩, hb4, rfl⟩
      exact ⟨.well b4 63 aw ac, rfl, ⟨rfl, rfl⟩, fun v' H' h => ⟨_, _, ⟨b, b4, aw, ac, m, n, dd, .node cc sg t u, rfl, rfl, rfl, ⟨by rw [hs1, hsz], hs2, ht1, hu1⟩, by show max t.depth u.depth + 1 ≤ i + 1; omega, ⟨ht3, hu3⟩, by omega, rfl⟩, h⟩⟩
theorem def_law_tree (T : Txt K mg) (T__law_draw : DefM P w K mg base 1 "_law_draw" ["_law_well", "_law_most"] [] G_draw R_draw) (S : Std K mg "_law_tree" "_law_tree" 177) : ∀ j, j ≤ 3 → DefM P w K mg base (j + 2) "_law_tree" ["_law_well", "_law_many", "_law_wide", "_law_deep"] [] (G_tree j) (R_tree j) := fun j => by
  induction j using Nat.strongRecOn with
  | _ j ih => exact fun hj => def_tree_step T T__law_draw S j hj fun i hi => ih i hi (by omega)
end Tf
end
section
set_option maxHeartbeats 1000000
namespace Tf
open PySem PySem.Spec PyProof.Rows L2 LamX NdefX
variable {P : Program} {w : World} {K : PySem.W.Frag} {mg : Str → Option Value} {base : Heap}
/-! ### the plain law: what is multiplied -/
theorem flat_get {α β : Type} (f : α → List β) {k : Nat} : ∀ (l : List α) (i : Nat), (∀ x ∈ l, (f x).length = k) → i < l.length * k → ((l.map f).flatten)[i]? = (l[i / k]?).bind fun x => (f x)[i % k]?
  | [], i, _, h => by simp at h
  | a :: l, i, hl, h => by
    have ha := hl a List.mem_cons_self
    rw [List.length_cons, Nat.add_mul, Nat.one_mul] at h
    have hk : 0 < k := by
      rcases Nat.eq_zero_or_pos k with z | z
      · subst z; omega
      · exact z
    rw [List.map_cons, List.flatten_cons]
    by_cases hi : i < k
    · rw [List.getElem?_append_left (by omega), Nat.div_eq_of_lt hi, Nat.mod_eq_of_lt hi]
      rfl
    · rw [List.getElem?_append_right (by omega), ha, flat_get f l (i - k) (fun x hx => hl x (List.mem_cons_of_mem _ hx)) (by omega)]
      have e1 : i / k = (i - k) / k + 1 := by
        rw [← Nat.add_div_right _ hk, Nat.sub_add_cancel (by omega)]
      have e2 : i % k = (i - k) % k := by
        rw [← Nat.add_mod_right (i - k) k, Nat.sub_add_cancel (by omega)]
      rw [e1, e2, List.getElem?_cons_succ]
theorem gt_put {t u : List (List Int)} {m n k l : Nat} (g : Int → Int → Int) (h1 : Sm t m n) (h2 : Sm u k l) {i x : Nat} (hi : i < m * k) (hx : x < n * l) : gt (putF g t u) i x = g (gt t (i / k) (x / l)) (gt u (i % k) (x % l)) := by
  have m1 := h1.m1
  have k1 := h2.m1
  have hik : i / k < m := div_lt' hi
  have him : i % k < k := mod_lt' hi
  have hxl : x / l < n := div_lt' hx
  have hxm : x % l < l := mod_lt' hx
  have e1 : t[i / k]? = some t[i / k] := List.getElem?_eq_getElem (by omega)
  have e2 : u[i % k]? = some u[i % k] := List.getElem?_eq_getElem (by omega)
  have r1 := h1.row _ (List.getElem_mem (h := show i / k < t.length by omega))
  have r2 := h2.row _ (List.getElem_mem (h := show i % k < u.length by omega))
  have f1 : (putF g t u)[i]? = some (putR g t[i / k] u[i % k]) := by
    unfold putF
    rw [flat_get (k := k) _ t i (fun r _ => by rw [List.length_map, k1]) (by rw [m1]; exact hi), e1]
    show (u.map (putR g t[i / k]))[i % k]? = _
    rw [List.getElem?_map, e2]
    rfl
  rw [gt_some f1, gt_some e1, gt_some e2]
  refine gl_some ?_
  unfold putR
  rw [flat_get (k := l) _ _ x (fun a _ => by rw [List.length_map, r2]) (by rw [r1]; exact hx), gl_get (show x / l < (t[i / k]).length by omega)]
  show ((u[i % k]).map (g (gl t[i / k] (x / l))))[x % l]? = _
  rw [List.getElem?_map, gl_get (show x % l < (u[i % k]).length by omega)]
  rfl
/-- p is 0 or a prime -/
def PP (p : Nat) : Prop := p = 0 ∨ p ∈ prN
theorem PP.pr {p m : Nat} (h : PP p) (hm : m ≤ 9) : Pr (p : Int) m := by
  rcases h with rfl | h
  · exact ⟨prI_zero, by omega, by omega, fun _ => hm⟩
  · exact pr_nat h m
theorem PP.pp {p : Nat} (h : PP p) : (p : Int) = 0 ∨ (p : Int) ∈ primesL := by
  rcases h with rfl | h
  · exact .inl rfl
  · exact pp_nat h
theorem Sm.good {t : List (List Int)} {m n p : Nat} (h : Sm t m n) (hp : PP p) : GoodT t n p := by
  have h1 := h.m1
  have h2 := h.m0
  have h3 := h.m3
  have h4 := h.n0
  have h5 := h.n3
  exact ⟨⟨h.row, fun r hr x hx => by have := h.low r hr x hx; omega⟩, fun z => by rw [z] at h1; simp at h1; omega, by omega, by omega, by omega, by omega, hp.pr (by omega), hp.pp⟩
theorem mem_put {g : Int → Int → Int} {t u : List (List Int)} {r : List Int} (h : r ∈ putF g t u) : ∃ a ∈ t, ∃ b ∈ u, r = putR g a b := by
  unfold putF at h
  obtain ⟨z, hz, hr⟩ := List.mem_flatten.mp h
  obtain ⟨a, ha, rfl⟩ := List.mem_map.mp hz
  obtain ⟨b, hb, rfl⟩ := List.mem_map.mp hr
  exact ⟨a, ha, b, hb, rfl⟩
theorem mem_putR {g : Int → Int → Int} {r s : List Int} {x : Int} (h : x ∈ putR g r s) : ∃ a ∈ r, ∃ b ∈ s, x = g a b := by
  unfold putR at h
  obtain ⟨z, hz, hr⟩ := List.mem_flatten.mp h
  obtain ⟨a, ha, rfl⟩ := List.mem_map.mp hz
  obtain ⟨b, hb, rfl⟩ := List.mem_map.mp hr
  exact ⟨a, ha, b, hb, rfl⟩
theorem put_good {t u : List (List Int)} {m n k l p : Nat} {g : Int → Int → Int} (h1 : Sm t m n) (h2 : Sm u k l) (hp : PP p) (hg : ∀ a b, 0 ≤ a → a ≤ 9 → 0 ≤ b → b ≤ 9 → 0 ≤ g a b ∧ g a b ≤ 99) : GoodT (putF g t u) (n * l) p := by
  have a1 := h1.m1
  have a2 := h1.m0
  have a3 := h1.m3
  have a4 := h1.n0
  have a5 := h1.n3
  have b1 := h2.m1
  have b2 := h2.m0
  have b3 := h2.m3
  have b4 := h2.n0
  have b5 := h2.n3
  have hl := putF_len g t u
  rw [a1, b1] at hl
  have x1 : m * k ≤ 3 * 3 := Nat.mul_le_mul a3 b3
  have x2 : 1 * 1 ≤ m * k := Nat.mul_le_mul a2 b2
  have x3 : n * l ≤ 3 * 3 := Nat.mul_le_mul a5 b5
  have x4 : 1 * 1 ≤ n * l := Nat.mul_le_mul a4 b4
  refine ⟨⟨fun r hr => ?_, fun r hr x hx => ?_⟩, fun z => by rw [z] at hl; simp at hl; omega, by omega, by omega, by omega, by omega, hp.pr (by omega), hp.pp⟩
  · obtain ⟨a, ha, b, hb, rfl⟩ := mem_put hr
    rw [putR_len, h1.row a ha, h2.row b hb]
  · obtain ⟨a, ha, b, hb, rfl⟩ := mem_put hr
    obtain ⟨y, hy, z, hz, rfl⟩ := mem_putR hx
    have := h1.low a ha y hy
    have := h2.low b hb z hz
    exact hg y z (by omega) (by omega) (by omega) (by omega)
/-- the rank -/
abbrev rk (p : Nat) (t : List (List Int)) : Nat := (rankedF (p : Int) t).rows.length
theorem rk_is {t : List (List Int)} {n p : Nat} (G : GoodT t n p) : RankIs (p : Int) t.length n (gt t) (rk p t) := (good_paper G).rank
theorem rk_le {t : List (List Int)} {n p : Nat} (G : GoodT t n p) : rk p t ≤ t.length ∧ rk p t ≤ n := (good_paper G).le G.pr.hp
theorem mul_low (a b : Int) (h1 : 0 ≤ a) (h2 : a ≤ 9) (h3 : 0 ≤ b) (h4 : b ≤ 9) : 0 ≤ timesG a b ∧ timesG a b ≤ 99 := by
  unfold timesG
  have e1 := Int.mul_nonneg h1 h3
  have e2 : a * b ≤ 9 * 9 := Int.mul_le_mul h2 h4 h3 (by omega)
  omega
theorem both_low (a b : Int) (h1 : 0 ≤ a) (h2 : a ≤ 9) (h3 : 0 ≤ b) (h4 : b ≤ 9) : 0 ≤ bothG a b ∧ bothG a b ≤ 99 := by
  unfold bothG
  omega
theorem put_len {t u : List (List Int)} {m n k l : Nat} (g : Int → Int → Int) (h1 : Sm t m n) (h2 : Sm u k l) : (putF g t u).length = m * k := by rw [putF_len, h1.m1, h2.m1]
theorem rk_times {t u : List (List Int)} {m n k l p : Nat} (h1 : Sm t m n) (h2 : Sm u k l) (hp : PP p) : rk p (putF timesG t u) = rk p t * rk p u := by
  have G := put_good (g := timesG) h1 h2 hp mul_low
  have r1 := rk_is (h1.good hp)
  have r2 := rk_is (h2.good hp)
  have r3 := rk_is G
  rw [h1.m1] at r1
  rw [h2.m1] at r2
  rw [put_len timesG h1 h2] at r3
  refine r3.uniq G.pr.hp ((rank_times G.pr.hp r1 r2).congr fun j x hj hx => ?_)
  rw [gt_put timesG h1 h2 hj hx]
  show (p : Int) ∣ gt t (j / k) (x / l) * gt u (j % k) (x % l) - gt t (j / k) (x / l) * gt u (j % k) (x % l)
  rw [Int.sub_self]
  exact Int.dvd_zero _
theorem rk_both {t u : List (List Int)} {m n k l p : Nat} (h1 : Sm t m n) (h2 : Sm u k l) (hp : PP p) : rk p (putF bothG t u) ≤ rk p t + rk p u := by
  have G := put_good (g := bothG) h1 h2 hp both_low
  have r1 := rk_is (h1.good hp)
  have r2 := rk_is (h2.good hp)
  have r3 := rk_is G
  rw [h1.m1] at r1
  rw [h2.m1] at r2
  rw [put_len bothG h1 h2] at r3
  obtain ⟨A, hA⟩ := gen_both G.pr.hp r1 r2
  refine r3.le G.pr.hp (hA.congr (A' := A) (fun j x hj hx => ?_) fun j x hj hx => ?_)
  · rw [gt_put bothG h1 h2 hj hx]
    show (p : Int) ∣ 10 * gt t (j / k) (x / l) + gt u (j % k) (x % l) - (10 * gt t (j / k) (x / l) + gt u (j % k) (x % l))
    rw [Int.sub_self]
    exact Int.dvd_zero _
  · rw [Int.sub_self]
    exact Int.dvd_zero _
end Tf
end
section
set_option maxHeartbeats 1000000
namespace Tf
open PySem PySem.Spec PyProof.Rows L2 LamX NdefX
variable {P : Program} {w : World} {K : PySem.W.Frag} {mg : Str → Option Value} {base : Heap}
theorem tI_inj {a b : List Int} (h : tI a = tI b) : a = b := (List.map_inj_right fun x y z => PyData.int.inj z).mp (PyData.tuple.inj h)
theorem tT_inj {a b : List (List Int)} (h : tT a = tT b) : a = b := (List.map_inj_right fun x y z => tI_inj z).mp (PyData.tuple.inj h)
/-- two primes -/
structure Two (ps : List Nat) : Prop where
  len : ps.length = 2
  pr : ∀ q ∈ ps, q ∈ prN
theorem Two.pp {ps : List Nat} (h : Two ps) {p : Nat} (hp : p ∈ 0 :: ps) : PP p := by
  rcases List.mem_cons.mp hp with rfl | hp
  · exact .inl rfl
  · exact .inr (h.pr p hp)
theorem Two.bd {ps : List Nat} (h : Two ps) {p : Nat} (hp : p ∈ 0 :: ps) : p ≤ 97 := by
  rcases List.mem_cons.mp hp with rfl | hp
  · omega
  · exact (prN_bd p (h.pr p hp)).2
def G_right (s0 : Sl) (ss : List Sl) : Prop := ∃ (b : Nat) (aw ac : Addr) (ps : List Nat), s0 = .well b 63 aw ac ∧ ss = [.val (.list (ps.map nD))] ∧ Two ps ∧ b ≤ 5000
def R_right (s0 : Sl) (ss : List Sl) (r s1 : Sl) : Prop := ∃ (b b' : Nat) (aw ac : Addr), s0 = .well b 63 aw ac ∧ r = .val (.bool true) ∧ b' ≤ b + 1000 ∧ s1 = .well b' 63 aw ac
section
variable {X : Cx} {F : Fc} {env : List Sl} {pos : Pos} {b : Nat} {aw ac : Addr}
/-- a call of _law_small -/
theorem dr_small {y : Str} {p p2 : Pos} {j : Nat} (G : DefM X.prog X.w F.K X.mg X.base 2 "_law_small" ["_law_well"] [] G_small R_small) (i : Nat) (hi : env[i]? = some (.well b 63 aw ac)) (hb : b ≤ 10000)
    (hr : Room j X.A := by assumption) (hk : 2 ≤ j := by first | decide | omega) (hN : X.N[i]? = some y := by rfl) (hvis : Vis X.env.scope y := by first | exact Or.inl rfl | exact Or.inr (Or.inl rfl) | exact Or.inr (Or.inr rfl)) (hK : X.K = F.K := by rfl) (hg : Gl X "_law_small" := by rfl)
    (hdy : (y == ("__debug__" : Str)) = false := by decide) (hcy : (y == ("__classdict__" : Str)) = false := by decide)
    (he : starEach [.Name y p2] X.env = (false, eval (.Name y p2) X.env) :: starEach [] X.env := by rfl) (hpl : (backTo pos (starEach [] X.env)).any (·.1) = false := by rfl) :
    EF X F env (.Call (.Name "_law_small" p) [.Name y p2] [] pos) (DR tT (fun t => ∃ m n, Sm t m n) env i b 100 aw ac) :=
  ef_callM G i hi ⟨trivial, fun z => nomatch z⟩ eas_nil (fun s hs => nomatch hs) ⟨b, aw, ac, rfl, rfl, hb⟩ (.inl rfl) (fun r s1 ⟨b0, b', w0, c0, m, n, t, h1, h3, h4, h5, h6⟩ => by
    cases h1
    subst h3 h6
    exact ⟨_, rfl, t, b', rfl, ⟨m, n, h4⟩, h5, rfl⟩) trivial hr hk hN hvis hK hg (by decide) hdy hcy he hpl
/-- a call of both, of times -/
theorem ef_two {x y : Str} {g : Int → Int → Int} {e2 : Expr} {p p2 : Pos} {j : Nat} {TT : List NTab} {t u : List (List Int)} {m n k l : Nat} (G : DefM X.prog X.w F.K X.mg X.base 3 x ["one", "other"] TT G_two (R_two g)) (i : Nat) (hi : env[i]? = some (.val (tT t))) (h2 : EE X F env e2 (tT u)) (s1 : Sm t m n) (s2 : Sm u k l) (hT : TT = F.T)
    (hr : Room j X.A := by assumption) (hk : 3 ≤ j := by first | decide | omega) (hN : X.N[i]? = some y := by rfl) (hvis : Vis X.env.scope y := by first | exact Or.inl rfl | exact Or.inr (Or.inl rfl) | exact Or.inr (Or.inr rfl)) (hK : X.K = F.K := by rfl) (hg : Gl X x := by rfl) (hdb : (x == ("__debug__" : Str)) = false := by decide)
    (hdy : (y == ("__debug__" : Str)) = false := by decide) (hcy : (y == ("__classdict__" : Str)) = false := by decide)
    (he0 : starEach [e2] X.env = (false, eval e2 X.env) :: starEach [] X.env := by rfl) (he : starEach [.Name y p2, e2] X.env = (false, eval (.Name y p2) X.env) :: starEach [e2] X.env := by rfl) (hpl : (backTo pos (starEach [e2] X.env)).any (·.1) = false := by rfl) :
    EF X F env (.Call (.Name x p) [.Name y p2, e2] [] pos) (fun d env' => d = tT (putF g t u) ∧ env' = env) :=
  ef_callM G i hi ⟨trivial, fun z => nomatch z⟩ (eas_cons h2 eas_nil he0) (fun s hs => by obtain rfl := List.mem_singleton.mp hs; trivial) ⟨t, u, m, n, k, l, rfl, rfl, s1, s2⟩ (.inr hT) (fun r s3 ⟨t', u', h1, h3, h4, h5⟩ => by
    obtain rfl : t = t' := tT_inj (Sl.val.inj h1)
    simp only [List.cons.injEq, Sl.val.injEq, and_true] at h3
    obtain rfl : u = u' := tT_inj h3
    subst h4 h5
    exact ⟨_, rfl, rfl, set_same hi⟩) trivial hr hk hN hvis hK hg hdb hdy hcy he hpl
end
/-! ### _law_multiplied_right: slots 0 _law_well, 1 _law_primes_here, 2 _law_one, 3 _law_other, 4 _law_p, 5 _law_ranks, 6 _law_rows -/
theorem sc__law_multiplied_right : FnScope ["_law_well", "_law_primes_here", "_law_one", "_law_other", "_law_p", "_law_ranks", "_law_rows"] ["_law_well", "_law_primes_here"] (defScope (top 179)) := ⟨rfl, rfl, rfl, by decide +kernel, rfl, by decide +kernel, by decide +kernel⟩
theorem def_multiplied (T : Txt K mg) {TT : List NTab} (T__law_small : DefM P w K mg base 2 "_law_small" ["_law_well"] [] G_small R_small) (T_times : DefM P w K mg base 3 "times" ["one", "other"] TT G_two (R_two timesG)) (T_both : DefM P w K mg base 3 "both" ["one", "other"] TT G_two (R_two bothG)) (T__law_rank : Def P w K mg base 7 "_law_rank" ["_law_rows", "_law_p"] R_law_rank)
    (S : Std K mg "_law_multiplied_right" "_law_multiplied_right" 179) : DefM P w K mg base 8 "_law_multiplied_right" ["_law_well", "_law_primes_here"] TT G_right R_right :=
  defM_of S sc__law_multiplied_right (by rintro _ _ ⟨_, _, _, _, rfl, rfl, _⟩; rfl) (fun _ _ _ _ _ _ us hl => match us, hl with | [_, _], _ => rfl) fun f cdv A outer sh H E W s0 v0 ss hr nr ok0 hG => by
    obtain ⟨b, aw, ac, ps, rfl, rfl, hps, hb⟩ := hG
    have nd := sc__law_multiplied_right.nd
    refine ss_asgF 2 (dr_small T__law_small 0 rfl (by omega)) ?_
    rintro _ _ ⟨t, b1, rfl, ⟨m, n, h1⟩, hb1, rfl⟩
    refine ss_asgF 3 (dr_small T__law_small 0 rfl (by omega)) ?_
    rintro _ _ ⟨u, b2, rfl, ⟨k, l, h2⟩, hb2, rfl⟩
    have hpl := hps.len
    refine ss_forE (l := 0 :: ps) (en := nD) (fun _ => [(.well b2 63 aw ac), (.val (.list (ps.map nD))), (.val (tT t)), (.val (tT u)), .any, .any, .any]) (ei_list (ee_cat ((ee_lst (ea_cons ee_int ea_nil))).el ((ee_var 1)).el ((by simp; omega)))) (pg_name (i := 4) nd rfl (by first | exact Or.inl rfl | exact Or.inr rfl)) (fun x _ => (tg_name 4)) (by repeat' (first | exact True.intro | exact Or.inl rfl | exact Or.inr rfl | apply And.intro)) (fun pre p post hx => ?_) (ss_retM (s1 := .well b2 63 aw ac) ok0 ee_bl rfl ⟨rfl, rfl⟩ fun v H' h => ⟨_, _, ⟨b, b2, aw, ac, rfl, rfl, by omega, rfl⟩, h⟩)
    have hp : PP p := hps.pp (by rw [hx]; simp)
    have g1 := h1.good hp
    have g2 := h2.good hp
    have g3 := put_good (g := timesG) h1 h2 hp mul_low
    have g4 := put_good (g := bothG) h1 h2 hp both_low
    have r3 := rk_times h1 h2 hp
    have r4 := rk_both h1 h2 hp
    have l1 := (rk_le g1).1
    have l2 := (rk_le g2).1
    have m3 := h1.m3
    have m1 := h1.m1
    have hg : ∀ x ∈ [t, u, putF timesG t u, putF bothG t u], ∃ n, GoodT x n p := fun x hx => by
      simp only [List.mem_cons, List.mem_nil_iff, or_false] at hx
      rcases hx with rfl | rfl | rfl | rfl
      · exact ⟨_, g1⟩
      · exact ⟨_, g2⟩
      · exact ⟨_, g3⟩
      · exact ⟨_, g4⟩
    refine ss_lcI (l := [t, u, putF timesG t u, putF bothG t u]) (en := tT) (en2 := PyData.int) (h := fun x => (rk p x : Int)) (S := fun d env' => d = .list [tT t, tT u, tT (putF timesG t u), tT (putF bothG t u)] ∧ env' = [(.well b2 63 aw ac), (.val (.list (ps.map nD))), (.val (tT t)), (.val (tT u)), (.val (nD p)), .any, .any]) (own := [("_law_rows", 6)]) (g := gName 6) (js := [6]) 5 rfl nd (blkOk_by (by kernel_rfl)) ?_ (fun d env' h => ⟨h.2, h.1⟩) (by simp) (fun _ _ _ _ _ => (pg_name (i := 6) nd rfl (by first | exact Or.inl rfl | exact Or.inr rfl))) (fun x hx => tg_name 6) (by decide) (fun x hx _ _ _ _ _ => ?_) ?_
    · refine ef_lst (S1 := fun ds env' => ds = [tT t, tT u, tT (putF timesG t u), tT (putF bothG t u)] ∧ env' = [(.well b2 63 aw ac), (.val (.list (ps.map nD))), (.val (tT t)), (.val (tT u)), (.val (nD p)), .any, .any]) (efa_cons ((ee_var 2)).ef ?_) (by simp) (fun ds env' h => ⟨by rw [h.1]; rfl, by rw [h.1], h.2⟩)
      rintro _ _ ⟨rfl, rfl⟩
      refine efa_cons ((ee_var 3)).ef ?_
      rintro _ _ ⟨rfl, rfl⟩
      refine efa_cons (ef_two T_times 2 rfl (ee_var 3) h1 h2 rfl) ?_
      rintro _ _ ⟨rfl, rfl⟩
      refine efa_cons (ef_two T_both 2 rfl (ee_var 3) h1 h2 rfl) ?_
      rintro _ _ ⟨rfl, rfl⟩
      exact efa_nil ⟨rfl, rfl⟩
    · obtain ⟨nn, G⟩ := hg x hx
      exact (ee_callD T__law_rank (eas_cons (ee_var 6) (eas_cons (ee_var 4) eas_nil)) (⟨x, p, nn, rfl, G, rfl⟩))
    · refine ss_ifR (k := false) (((ew_or ((cd_noneInL).et ee_non (ee_var 5)) (fun hT => (ew_or (cd_neI.et (ee_ixL ((ee_var 5)).el ee_int rfl) (ee_mul (ee_ixL ((ee_var 5)).el ee_int rfl) (ee_ixL ((ee_var 5)).el ee_int rfl) (.inl ⟨by show _ < (rk p t : Int); omega, by show (rk p t : Int) < _; omega⟩))) (fun hT => (ew_or1 (cd_gt.et (ee_ixL ((ee_var 5)).el ee_int rfl) (ee_add (ee_ixL ((ee_var 5)).el ee_int rfl) (ee_ixL ((ee_var 5)).el ee_int rfl)))))))).et).eq ?_) (fun hk => by cases hk) fun _ => ss_end (by repeat' (first | exact True.intro | exact Or.inl rfl | exact Or.inr rfl | apply And.intro))
      show (false || (!decide ((rk p (putF timesG t u) : Int) = (rk p t : Int) * (rk p u : Int)) || decide ((rk p t : Int) + (rk p u : Int) < (rk p (putF bothG t u) : Int)))) = false
      rw [r3]
      have e1 : ((rk p t * rk p u : Nat) : Int) = (rk p t : Int) * (rk p u : Int) := by push_cast; rfl
      rw [e1, decide_eq_true rfl, decide_eq_false (show ¬ (rk p t : Int) + (rk p u : Int) < (rk p (putF bothG t u) : Int) by omega)]
      rfl
end Tf
end
section
set_option maxHeartbeats 1000000
namespace Tf
open PySem PySem.Spec PyProof.Rows L2 LamX NdefX
variable {P : Program} {w : World} {K : PySem.W.Frag} {mg : Str → Option Value} {base : Heap}
/-! ### the plain law: trees -/
def fullC (p : Nat) (a : Int) : Bool := !decide (a = 0) && (decide ((p : Int) = 0) || !decide (a % (p : Int) = 0))
theorem fullC_dvd (p : Nat) (a : Int) : fullC p a = !decide ((p : Int) ∣ a) := by
  unfold fullC
  by_cases h0 : a = 0
  · subst h0
    simp
  · by_cases hp : (p : Int) = 0
    · rw [hp]
      have : ¬ (0 : Int) ∣ a := fun z => h0 (Int.zero_dvd.mp z)
      simp [h0, this]
    · have e : ((p : Int) ∣ a) ↔ a % (p : Int) = 0 := Int.dvd_iff_emod_eq_zero
      by_cases hd : a % (p : Int) = 0
      · simp [h0, hp, hd, e.mpr hd]
        omega
      · have : ¬ (p : Int) ∣ a := fun z => hd (e.mp z)
        simp [h0, hp, hd, this]
theorem full_len (p : Nat) (es : List End) : ((es.map fun e => e.2.2).filter (fullC p)).length = (fullE (p : Int) es).length := by
  rw [List.filter_map, List.length_map]
  unfold fullE
  congr 1
  refine List.filter_congr fun e _ => ?_
  exact fullC_dvd p e.2.2
theorem low_mono : ∀ {T : Tree}, T.Low 10 → T.Low 1000
  | .leaf a, h => ⟨h.1, Int.lt_of_lt_of_le h.2 (by decide)⟩
  | .node _ _ t u, h => ⟨low_mono h.1, low_mono h.2⟩
/-- two trees that were drawn -/
structure Drawn (T : Tree) (m n : Nat) : Prop where
  ok : T.Ok m n
  dp : T.depth ≤ 3
  low : T.Low 10
  m0 : 1 ≤ m
  m3 : m ≤ 3
  n0 : 1 ≤ n
  n3 : n ≤ 3
def cellF (T o : Tree) (k l i j : Nat) : Int := 10 * T.ev (i / k) (j / l) + o.ev (i % k) (j % l)
def rowF (T o : Tree) (n k l i : Nat) : List Int := (List.range (n * l)).map (cellF T o k l i)
def tblF (T o : Tree) (m n k l : Nat) : List (List Int) := (List.range (m * k)).map (rowF T o n k l)
section
variable {T o : Tree} {m n k l p : Nat}
theorem cell_low (h1 : Drawn T m n) (h2 : Drawn o k l) (i j : Nat) : 0 ≤ cellF T o k l i j ∧ cellF T o k l i j ≤ 99 := by
  have a := Tree.ev_low (i / k) (j / l) h1.low
  have b := Tree.ev_low (i % k) (j % l) h2.low
  unfold cellF
  omega
theorem tbl_len : (tblF T o m n k l).length = m * k := by simp [tblF]
theorem row_len {i : Nat} : (rowF T o n k l i).length = n * l := by simp [rowF]
theorem tbl_get {i : Nat} (hi : i < m * k) : (tblF T o m n k l)[i]? = some (rowF T o n k l i) := by
  unfold tblF
  rw [List.getElem?_map, List.getElem?_range hi]
  rfl
theorem tbl_gt {i j : Nat} (hi : i < m * k) (hj : j < n * l) : gt (tblF T o m n k l) i j = cellF T o k l i j := by
  rw [gt_some (tbl_get hi)]
  refine gl_some ?_
  unfold rowF
  rw [List.getElem?_map, List.getElem?_range hj]
  rfl
theorem tbl_row {r : List Int} (h : r ∈ tblF T o m n k l) : ∃ i, i < m * k ∧ r = rowF T o n k l i := by
  obtain ⟨i, hi, rfl⟩ := List.mem_map.mp h
  exact ⟨i, List.mem_range.mp hi, rfl⟩
theorem szs (h1 : Drawn T m n) (h2 : Drawn o k l) : 1 ≤ m * k ∧ m * k ≤ 9 ∧ 1 ≤ n * l ∧ n * l ≤ 9 := by
  have x1 : m * k ≤ 3 * 3 := Nat.mul_le_mul h1.m3 h2.m3
  have x2 : 1 * 1 ≤ m * k := Nat.mul_le_mul h1.m0 h2.m0
  have x3 : n * l ≤ 3 * 3 := Nat.mul_le_mul h1.n3 h2.n3
  have x4 : 1 * 1 ≤ n * l := Nat.mul_le_mul h1.n0 h2.n0
  omega
theorem tbl_good (h1 : Drawn T m n) (h2 : Drawn o k l) (hp : PP p) : GoodT (tblF T o m n k l) (n * l) p := by
  obtain ⟨a, b, c, d⟩ := szs h1 h2
  have e := tbl_len (T := T) (o := o) (m := m) (n := n) (k := k) (l := l)
  refine ⟨⟨fun r hr => ?_, fun r hr x hx => ?_⟩, fun z => by rw [z] at e; simp at e; omega, by omega, by omega, by omega, by omega, hp.pr (by omega), hp.pp⟩
  · obtain ⟨i, _, rfl⟩ := tbl_row hr
    exact row_len
  · obtain ⟨i, _, rfl⟩ := tbl_row hr
    obtain ⟨j, _, rfl⟩ := List.mem_map.mp hx
    exact cell_low h1 h2 i j
theorem tbl_told (h1 : Drawn T m n) (h2 : Drawn o k l) : Told (tblF T o m n k l) (T.first m n k l o) (m * k) (n * l) := by
  obtain ⟨a, b, c, d⟩ := szs h1 h2
  obtain ⟨q1, q2⟩ := Tree.first_ok (m := m) (n := n) h2.ok T h1.ok
  have dp := Tree.first_depth m n k l o T
  have d1 := h1.dp
  have d2 := h2.dp
  exact ⟨q1, by omega, tbl_len, by omega, by omega, fun r hr => by
    obtain ⟨i, _, rfl⟩ := tbl_row hr
    exact row_len, fun i j hi hj => by rw [tbl_gt hi hj, q2 i j hi hj]; rfl⟩
theorem rk_tree (h1 : Drawn T m n) (h2 : Drawn o k l) (hp : PP p) : rk p (tblF T o m n k l) ≤ (fullE (p : Int) ((T.first m n k l o).ends (List.range (m * k)) (List.range (n * l)))).length := by
  have G := tbl_good h1 h2 hp
  have h := tbl_told h1 h2
  have r := rk_is G
  rw [tbl_len] at r
  obtain ⟨A, hA⟩ := gen_tree G.pr.hp h.ok h.ev
  exact r.le G.pr.hp hA
end
section
variable {X : Cx} {F : Fc} {env : List Sl} {pos : Pos} {b : Nat} {aw ac : Addr}
/-- a call of _law_tree -/
theorem dr_tree {a1 a2 a3 : Expr} {m n : Nat} {y : Str} {p p2 : Pos} {j : Nat} (G : DefM X.prog X.w F.K X.mg X.base 5 "_law_tree" ["_law_well", "_law_many", "_law_wide", "_law_deep"] [] (G_tree 3) (R_tree 3)) (i : Nat) (hi : env[i]? = some (.well b 63 aw ac)) (h1 : EE X F env a1 (.int (m : Int))) (h2 : EE X F env a2 (.int (n : Int))) (h3 : EE X F env a3 (.int 3)) (hm : 1 ≤ m ∧ m ≤ 3) (hn : 1 ≤ n ∧ n ≤ 3) (hb : b ≤ 10000)
    (hr : Room j X.A := by assumption) (hk : 5 ≤ j := by first | decide | omega) (hN : X.N[i]? = some y := by rfl) (hvis : Vis X.env.scope y := by first | exact Or.inl rfl | exact Or.inr (Or.inl rfl) | exact Or.inr (Or.inr rfl)) (hK : X.K = F.K := by rfl) (hg : Gl X "_law_tree" := by rfl)
    (hdy : (y == ("__debug__" : Str)) = false := by decide) (hcy : (y == ("__classdict__" : Str)) = false := by decide)
    (q1 : starEach [a1, a2, a3] X.env = (false, eval a1 X.env) :: starEach [a2, a3] X.env := by rfl) (q2 : starEach [a2, a3] X.env = (false, eval a2 X.env) :: starEach [a3] X.env := by rfl) (q3 : starEach [a3] X.env = (false, eval a3 X.env) :: starEach [] X.env := by rfl)
    (he : starEach [.Name y p2, a1, a2, a3] X.env = (false, eval (.Name y p2) X.env) :: starEach [a1, a2, a3] X.env := by rfl) (hpl : (backTo pos (starEach [a1, a2, a3] X.env)).any (·.1) = false := by rfl) :
    EF X F env (.Call (.Name "_law_tree" p) [.Name y p2, a1, a2, a3] [] pos) (DR trD (fun T => Drawn T m n) env i b 60 aw ac) :=
  ef_callM G i hi ⟨trivial, fun z => nomatch z⟩ (eas_cons h1 (eas_cons h2 (eas_cons h3 eas_nil q3) q2) q1) (fun s hs => by simp at hs; rcases hs with rfl | rfl | rfl <;> trivial) ⟨b, aw, ac, m, n, 3, rfl, rfl, rfl, hm.1, hm.2, hn.1, hn.2, by omega⟩ (.inl rfl) (fun r s1 ⟨b0, b', w0, c0, m3, n3, d3, T, g1, g2, g3, g4, g5, g6, g7, g8⟩ => by
    cases g1
    simp at g2
    obtain ⟨e1, e2, _⟩ := g2
    obtain rfl : m = m3 := by omega
    obtain rfl : n = n3 := by omega
    subst g3 g8
    exact ⟨_, rfl, T, b', rfl, ⟨g4, g5, g6, hm.1, hm.2, hn.1, hn.2⟩, by omega, rfl⟩) trivial hr hk hN hvis hK hg (by decide) hdy hcy he hpl
end
theorem pick4 {vs : List Int} (h : vs.length = 4) (h2 : ∀ v ∈ vs, ∃ u : Int, v = 1 + u ∧ 0 ≤ u ∧ u < 3) : ∃ m n k l : Nat, vs = [(m : Int), (n : Int), (k : Int), (l : Int)] ∧ (1 ≤ m ∧ m ≤ 3) ∧ (1 ≤ n ∧ n ≤ 3) ∧ (1 ≤ k ∧ k ≤ 3) ∧ (1 ≤ l ∧ l ≤ 3) := by
  match vs, h, h2 with
  | [a, b, c, d], _, h2 =>
    obtain ⟨_, e1, _, _⟩ := h2 a (by simp)
    obtain ⟨_, e2, _, _⟩ := h2 b (by simp)
    obtain ⟨_, e3, _, _⟩ := h2 c (by simp)
    obtain ⟨_, e4, _, _⟩ := h2 d (by simp)
    refine ⟨a.toNat, b.toNat, c.toNat, d.toNat, ?_, by omega, by omega, by omega, by omega⟩
    rw [Int.toNat_of_nonneg (by omega), Int.toNat_of_nonneg (by omega), Int.toNat_of_nonneg (by omega), Int.toNat_of_nonneg (by omega)]
/-! ### _law_trees_right: slots 0 _law_well, 1 _law_primes_here, 2 _law_sizes, 3 _law_turn, 4 _law_one, 5 _law_other, 6 _law_tree_here, 7 _law_rows, 8 _law_i, 9 _law_row, 10 _law_k, 11 _law_here, 12 _law_answers, 13 _law_end, 14 _law_p, 15 _law_rank_here, 16 _law_full, 17 _law_a -/
theorem sc__law_trees_right : FnScope ["_law_well", "_law_primes_here", "_law_sizes", "_law_turn", "_law_one", "_law_other", "_law_tree_here", "_law_rows", "_law_i", "_law_row", "_law_k", "_law_here", "_law_answers", "_law_end", "_law_p", "_law_rank_here", "_law_full", "_law_a"] ["_law_well", "_law_primes_here"] (defScope (top 180)) := ⟨rfl, rfl, rfl, by decide +kernel, rfl, by decide +kernel, by decide +kernel⟩
theorem def_trees (T : Txt K mg) {TT : List NTab} (T__law_draw : DefM P w K mg base 1 "_law_draw" ["_law_well", "_law_most"] [] G_draw R_draw) (T__law_tree : DefM P w K mg base 5 "_law_tree" ["_law_well", "_law_many", "_law_wide", "_law_deep"] [] (G_tree 3) (R_tree 3)) (T_both_trees : Def P w K mg base 13 "both_trees" ["one", "other", "sizes"] R_both_trees) (T__law_answer : Def P w K mg base 1 "_law_answer" ["_law_tree_here", "_law_i", "_law_k"] R_law_answer)
    (T_ends_of : Def P w K mg base 13 "ends_of" ["tree", "m", "n"] R_ends_of) (T_tells : Def P w K mg base 4 "tells" ["table", "tree"] R_tells) (T__law_rank : Def P w K mg base 7 "_law_rank" ["_law_rows", "_law_p"] R_law_rank)
    (S : Std K mg "_law_trees_right" "_law_trees_right" 180) : DefM P w K mg base 14 "_law_trees_right" ["_law_well", "_law_primes_here"] TT G_right R_right :=
  defM_of S sc__law_trees_right (by rintro _ _ ⟨_, _, _, _, rfl, rfl, _⟩; rfl) (fun _ _ _ _ _ _ us hl => match us, hl with | [_, _], _ => rfl) fun f cdv A outer sh H E W s0 v0 ss hr nr ok0 hG => by
    obtain ⟨b, aw, ac, ps, rfl, rfl, hps, hb⟩ := hG
    have nd := sc__law_trees_right.nd
    have hpl := hps.len
    refine ss_lcF 2 ⟨rfl, nd, blkOk_by (by kernel_rfl), ei_rgN (4) T.range ee_int (by first | rfl | omega | simp) (by omega), by omega, rfl, rfl, by decide, (fun _ _ _ _ _ => (pg_name (i := 3) nd rfl (by first | exact Or.inl rfl | exact Or.inr rfl))), (fun m1 c1 hm1 hc1 _ _ _ _ _ => (dr_addR ee_int (dr_draw T__law_draw 0 rfl ee_int (by omega) (by omega)))), by intro _; rfl⟩ ?_
    intro vs b1 hv1 hv2 hb1
    obtain ⟨m, n, k, l, rfl, hm, hn, hk, hl⟩ := pick4 hv1 hv2
    refine ss_asgF 4 (dr_tree T__law_tree 0 rfl (ee_ixL ((ee_var 2)).el ee_int rfl) (ee_ixL ((ee_var 2)).el ee_int rfl) ee_int hm hn (by omega)) ?_
    rintro _ _ ⟨T0, b2, rfl, h1, hb2, rfl⟩
    refine ss_asgF 5 (dr_tree T__law_tree 0 rfl (ee_ixL ((ee_var 2)).el ee_int rfl) (ee_ixL ((ee_var 2)).el ee_int rfl) ee_int hk hl (by omega)) ?_
    rintro _ _ ⟨o, b3, rfl, h2, hb3, rfl⟩
    have hlow : T0.Low 1000 := low_mono h1.low
    have d1 := h1.dp
    have d2 := h2.dp
    obtain ⟨z1, z2, z3, z4⟩ := szs h1 h2
    refine ss_asg 6 (ee_callD T_both_trees (eas_cons (ee_var 4) (eas_cons (ee_var 5) (eas_cons (ee_tupleL T.tuple ((ee_var 2)).el) eas_nil))) (⟨T0, o, k, l, m, n, rfl, ⟨h1.ok, by omega, by omega, by omega, by omega, by omega⟩, ⟨h2.ok, by omega, by omega, by omega, by omega, by omega⟩, hlow, rfl⟩)) ?_
    refine ss_new' 7 (en_lst ea_nil) ?_
    have em : ((m : Int) * (k : Int)).toNat = m * k := by rw [← Int.natCast_mul, Int.toNat_natCast]
    have en_ : ((n : Int) * (l : Int)).toNat = n * l := by rw [← Int.natCast_mul, Int.toNat_natCast]
    have ek : ((m : Int) * (k : Int)) = ((m * k : Nat) : Int) := by push_cast; rfl
    have el : ((n : Int) * (l : Int)) = ((n * l : Nat) : Int) := by push_cast; rfl
    refine ss_forE (l := List.range ((m : Int) * (k : Int)).toNat) (en := nD) (fun pre => [(.well b3 63 aw ac), (.val (.list (ps.map nD))), (.val (.list ([(m : Int), (n : Int), (k : Int), (l : Int)].map PyData.int))), .any, (.val (trD T0)), (.val (trD o)), (.val (trD (T0.first m n k l o))), (.lst ((pre.map (rowF T0 o n k l)).map tI)), .any, .any, .any, .any, .any, .any, .any, .any, .any, .any]) ((ei_range1 T.range (ee_mul (ee_ixL ((ee_var 2)).el ee_int rfl) (ee_ixL ((ee_var 2)).el ee_int rfl) (.inl ⟨by omega, by omega⟩)) ((by omega)) ((by omega))).eq (rgD_nat _)) (pg_name (i := 8) nd rfl (by first | exact Or.inl rfl | exact Or.inr rfl)) (fun x _ => (tg_name 8)) (by repeat' (first | exact True.intro | exact Or.inl rfl | exact Or.inr rfl | apply And.intro)) (fun pre i post hx => ?_) ?_
    · have hi : i < m * k := by
        have : i ∈ List.range ((m : Int) * (k : Int)).toNat := by rw [hx]; simp
        rw [em] at this
        exact List.mem_range.mp this
      have hpr : pre.length < m * k := by
        have := congrArg List.length hx
        rw [em] at this
        simp at this
        omega
      refine ss_new' 9 (en_lst ea_nil) ?_
      refine ss_forE (l := List.range ((n : Int) * (l : Int)).toNat) (en := nD) (fun pre2 => [(.well b3 63 aw ac), (.val (.list (ps.map nD))), (.val (.list ([(m : Int), (n : Int), (k : Int), (l : Int)].map PyData.int))), .any, (.val (trD T0)), (.val (trD o)), (.val (trD (T0.first m n k l o))), (.lst ((pre.map (rowF T0 o n k l)).map tI)), (.val (nD i)), (.lst ((pre2.map (cellF T0 o k l i)).map PyData.int)), .any, .any, .any, .any, .any, .any, .any, .any]) ((ei_range1 T.range (ee_mul (ee_ixL ((ee_var 2)).el ee_int rfl) (ee_ixL ((ee_var 2)).el ee_int rfl) (.inl ⟨by omega, by omega⟩)) ((by omega)) ((by omega))).eq (rgD_nat _)) (pg_name (i := 10) nd rfl (by first | exact Or.inl rfl | exact Or.inr rfl)) (fun x _ => (tg_name 10)) (by repeat' (first | exact True.intro | exact Or.inl rfl | exact Or.inr rfl | apply And.intro)) (fun pre2 j post2 hx2 => ?_) ?_
      · have hj : j < n * l := by
          have : j ∈ List.range ((n : Int) * (l : Int)).toNat := by rw [hx2]; simp
          rw [en_] at this
          exact List.mem_range.mp this
        have hpr2 : pre2.length < n * l := by
          have := congrArg List.length hx2
          rw [en_] at this
          simp at this
          omega
        have q1 := div_lt' hi
        have q2 := div_lt' hj
        have q3 := mod_lt' hi
        have q4 := mod_lt' hj
        have e1 := Tree.ev_low (i / k) (j / l) h1.low
        refine ss_asg 11 (ee_callD T__law_answer (eas_cons (ee_var 4) (eas_cons (ee_div (ee_var 8) (ee_ixL ((ee_var 2)).el ee_int rfl) (⟨by omega, by omega⟩)) (eas_cons (ee_div (ee_var 10) (ee_ixL ((ee_var 2)).el ee_int rfl) (⟨by omega, by omega⟩)) eas_nil))) (⟨T0, m, n, i / k, j / l, by push_cast; rfl, h1.ok, q1, q2, rfl⟩)) ?_
        refine ss_append 9 (d := .int (cellF T0 o k l i j)) ((ee_add (ee_mul ee_int (ee_var 11) (.inl ⟨by omega, by omega⟩)) (ee_callD T__law_answer (eas_cons (ee_var 5) (eas_cons (ee_mod (ee_var 8) (ee_ixL ((ee_var 2)).el ee_int rfl) ((by omega))) (eas_cons (ee_mod (ee_var 10) (ee_ixL ((ee_var 2)).el ee_int rfl) ((by omega))) eas_nil))) (⟨o, k, l, i % k, j % l, by push_cast; rfl, h2.ok, q3, q4, rfl⟩)))) ?_ (ss_end ?_)
        · rw [List.length_map, List.length_map]
          omega
        · rw [show ((pre2 ++ [j]).map (cellF T0 o k l i)).map PyData.int = (pre2.map (cellF T0 o k l i)).map PyData.int ++ [.int (cellF T0 o k l i j)] by simp]
          exact (by repeat' (first | exact True.intro | exact Or.inl rfl | exact Or.inr rfl | apply And.intro))
      · rw [en_]
        refine ss_append 7 (d := tI (rowF T0 o n k l i)) (ee_tupleL T.tuple (el_var 9)) ?_ (ss_end ?_)
        · rw [List.length_map, List.length_map]
          omega
        · rw [show ((pre ++ [i]).map (rowF T0 o n k l)).map tI = (pre.map (rowF T0 o n k l)).map tI ++ [tI (rowF T0 o n k l i)] by simp]
          exact (by repeat' (first | exact True.intro | exact Or.inl rfl | exact Or.inr rfl | apply And.intro))
    · rw [em, show (List.range (m * k)).map (rowF T0 o n k l) = tblF T0 o m n k l from rfl]
      have htl := tbl_told h1 h2
      have dp := Tree.first_depth m n k l o T0
      have r0 : atI ((tblF T0 o m n k l).map tI) 0 = some (tI (rowF T0 o n k l 0)) := atMi (k := 0) rfl (tbl_get (by omega))
      have hes : ((T0.first m n k l o).ends (List.range (m * k)) (List.range (n * l))).length ≤ 100000 := by
        have h1 := ends_len (T0.first m n k l o) (List.range (m * k)) (List.range (n * l))
        have h2 : 2 ^ (T0.first m n k l o).depth ≤ 2 ^ 6 := Nat.pow_le_pow_right (by omega) (by omega)
        omega
      refine (ss_lcM (en2 := PyData.int) 12 (l := (T0.first m n k l o).ends (List.range (m * k)) (List.range (n * l))) (en := eD) (h := fun e => e.2.2) (own := [("_law_end", 13)]) (g := (gName 13)) (js := [13]) rfl nd (blkOk_by (by kernel_rfl)) (ei_tup (ee_callD T_ends_of (eas_cons (ee_var 6) (eas_cons (ee_lenL T.len (el_var 7)) (eas_cons (ee_lenT T.len (ee_ixL (el_var 7) ee_int (r0))) eas_nil))) (⟨T0.first m n k l o, m * k, n * l, by rw [List.length_map, List.length_map, tbl_len, row_len], htl.ok, by omega, by omega, by omega, rfl⟩))).m (hes) (fun _ _ _ _ _ => (pg_name (i := 13) nd rfl (by first | exact Or.inl rfl | exact Or.inr rfl))) (fun x hx => (tg_name 13)) (by decide) (fun x hx _ _ _ _ _ => (ee_ixT (ee_var 13) ee_int ((rfl : atI [tN x.1, tN x.2.1, .int x.2.2] 2 = some (.int x.2.2)))))) ?_
      refine ss_ifR (k := false) (((cd_notB.et (ee_callD T_tells (eas_cons (ee_tupleL T.tuple (el_var 7)) (eas_cons (ee_var 6) eas_nil)) (⟨tblF T0 o m n k l, T0.first m n k l o, m * k, n * l, rfl, htl, rfl⟩)) ee_bl)).eq (by decide)) (fun hk => by cases hk) fun _ => ?_
      refine ss_forE (l := 0 :: ps) (en := nD) (fun _ => [(.well b3 63 aw ac), (.val (.list (ps.map nD))), .any, .any, .any, .any, .any, (.lst ((tblF T0 o m n k l).map tI)), .any, .any, .any, .any, (.val (.list ((((T0.first m n k l o).ends (List.range (m * k)) (List.range (n * l))).map fun e => e.2.2).map PyData.int))), .any, .any, .any, .any, .any]) (ei_list (ee_cat ((ee_lst (ea_cons ee_int ea_nil))).el ((ee_var 1)).el ((by simp; omega)))) (pg_name (i := 14) nd rfl (by first | exact Or.inl rfl | exact Or.inr rfl)) (fun x _ => (tg_name 14)) (by repeat' (first | exact True.intro | exact Or.inl rfl | exact Or.inr rfl | apply And.intro)) (fun pre p post hx => ?_) (ss_retM (s1 := .well b3 63 aw ac) ok0 ee_bl rfl ⟨rfl, rfl⟩ fun v H' h => ⟨_, _, ⟨b, b3, aw, ac, rfl, rfl, by omega, rfl⟩, h⟩)
      have hp : PP p := hps.pp (by rw [hx]; simp)
      have G := tbl_good h1 h2 hp
      have hle := rk_tree h1 h2 hp
      rw [← full_len] at hle
      have ha : (((T0.first m n k l o).ends (List.range (m * k)) (List.range (n * l))).map fun e => e.2.2).length ≤ 100000 := by rw [List.length_map]; exact hes
      generalize (((T0.first m n k l o).ends (List.range (m * k)) (List.range (n * l))).map fun e => e.2.2) = ans at hle ha ⊢
      refine ss_asg 15 (ee_callD T__law_rank (eas_cons (ee_tupleL T.tuple (el_var 7)) (eas_cons (ee_var 14) eas_nil)) (⟨tblF T0 o m n k l, p, n * l, rfl, G, rfl⟩)) ?_
      refine (ss_lcGM (en2 := PyData.int) 16 (l := ans) (en := PyData.int) (c := fullC p) (h := fun a => a) (own := [("_law_a", 17)]) (g := (gName 17)) (js := [17]) rfl nd (blkOk_by (by kernel_rfl)) (ei_list (ee_var 12)).m (ha) (fun _ _ _ _ _ => (pg_name (i := 17) nd rfl (by first | exact Or.inl rfl | exact Or.inr rfl))) (fun x hx => (tg_name 17)) (by decide) (fun x hx _ _ _ _ _ => ets_one (ew_and (cd_neI.et (ee_var 17) ee_int) (fun hT => (ew_and1 (ew_or (cd_eqI.et (ee_var 14) ee_int) (fun hT => (ew_or1 (cd_neI.et (ee_mod (ee_var 17) (ee_var 14) ((by have := of_decide_eq_false hT; omega))) ee_int)))).et))).et) (fun x hx hc _ _ _ _ _ => (ee_var 17))) ?_
      refine ss_ifR (k := false) (((ew_or (cd_isN.et (ee_var 15) ee_non) (fun hT => (ew_or1 (cd_gt.et (ee_var 15) (ee_lenL T.len ((ee_var 16)).el))))).et).eq ?_) (fun hk => by cases hk) fun _ => ss_end (by repeat' (first | exact True.intro | exact Or.inl rfl | exact Or.inr rfl | apply And.intro))
      rw [List.length_map, List.length_map, decide_eq_false (show ¬ (((ans.filter (fullC p)).length : Nat) : Int) < ((rk p (tblF T0 o m n k l) : Nat) : Int) by omega)]
      rfl
end Tf
end
section
set_option maxHeartbeats 1000000
namespace Tf
open PySem PySem.Spec PyProof.Rows L2 LamX NdefX
variable {P : Program} {w : World} {K : PySem.W.Frag} {mg : Str → Option Value} {base : Heap}
/-! ### the plain law: factors put together -/
def agR (q n : Nat) (rt : List (List Int)) (s : List Int) : List Int := (List.range n).map fun (k : Nat) => ((s.zip rt).map fun y => y.1 * gl y.2 k).sum % (q : Int)
abbrev lfO (q : Nat) (t : List (List Int)) : List (List Int) := exF q (sumsF (rankedF q t))
abbrev rtO (q : Nat) (t : List (List Int)) : List (List Int) := rtF q t (rankedF q t).rows
structure FacOk (t : List (List Int)) (n q : Nat) : Prop where
  ll : (lfO q t).length = t.length
  rl : ∀ r ∈ rtO q t, r.length = n
  rn : (rtO q t).length = rk q t
  ls : ∀ s ∈ lfO q t, s.length = rk q t ∧ ∀ x ∈ s, 0 ≤ x ∧ x < (q : Int)
  good : GoodT ((lfO q t).map (agR q n (rtO q t))) n q
  same : rk q ((lfO q t).map (agR q n (rtO q t))) = rk q t
theorem fac_ok {t : List (List Int)} {n q : Nat} (hq : q ∈ prN) (G : GoodT t n q) : FacOk t n q := by
  have hb := prN_bd q hq
  have Q := good_paper G
  have m1 := G.m1
  have n1 := G.n1
  have fo := fun i x hi hx => factors_ok hq rfl Q (i := i) (x := x) hi hx
  have el : (exF q (sumsF (rankedF q t))).length = t.length := by rw [exF_len, Q.ls]
  have rl : ∀ r ∈ rtF q t (rankedF q t).rows, r.length = n := fun r hr => by
    obtain ⟨i, hi, rfl⟩ := List.mem_map.mp hr
    obtain ⟨a, ha, rfl⟩ := gn_mem hi
    rw [List.length_map, List.getD_eq_getElem?_getD, List.getElem?_eq_getElem (Q.rl a ha)]
    exact G.tab.len _ (List.getElem_mem _)
  have rlen : (rtF q t (rankedF q t).rows).length = (rankedF q t).rows.length := by simp [rtF]
  have exl : ∀ s ∈ exF q (sumsF (rankedF q t)), s.length = (rankedF q t).rows.length ∧ ∀ x ∈ s, 0 ≤ x ∧ x < (q : Int) := fun s hs => by
    obtain ⟨f, hf, rfl⟩ := List.mem_map.mp hs
    obtain ⟨i, hi⟩ := List.mem_iff_getElem?.mp hf
    refine ⟨by rw [List.length_map]; exact (Q.sm i f hi).2.1, fun x hx => ?_⟩
    obtain ⟨y, _, rfl⟩ := List.mem_map.mp hx
    exact ⟨Int.emod_nonneg _ (by omega), Int.emod_lt_of_pos _ (by omega)⟩
  have tlen : ((lfO q t).map (agR q n (rtO q t))).length = t.length := by rw [List.length_map]; exact el
  have good : GoodT ((lfO q t).map (agR q n (rtO q t))) n q := by
    refine ⟨⟨fun r hr => ?_, fun r hr x hx => ?_⟩, fun z => ?_, G.n0, by omega, n1, by rw [tlen]; exact G.h12, by rw [tlen]; exact G.pr, G.pp⟩
    · obtain ⟨s, _, rfl⟩ := List.mem_map.mp hr
      unfold agR
      rw [List.length_map, List.length_range]
    · obtain ⟨s, _, rfl⟩ := List.mem_map.mp hr
      obtain ⟨k, _, rfl⟩ := List.mem_map.mp hx
      have h1 := Int.emod_nonneg ((s.zip (rtO q t)).map fun y => y.1 * gl y.2 k).sum (b := (q : Int)) (by omega)
      have h2 := Int.emod_lt_of_pos ((s.zip (rtO q t)).map fun y => y.1 * gl y.2 k).sum (b := (q : Int)) (by omega)
      omega
    · rw [z] at tlen
      exact G.ne (List.eq_nil_of_length_eq_zero tlen.symm)
  refine ⟨el, rl, rlen, exl, good, ?_⟩
  have r1 := rk_is G
  have r2 := rk_is good
  rw [tlen] at r2
  refine r2.uniq G.pr.hp (r1.congr fun i x hi hx => ?_)
  have hil : i < (lfO q t).length := by rw [el]; exact hi
  have gi : ((lfO q t).map (agR q n (rtO q t)))[i]? = some (agR q n (rtO q t) (lfO q t)[i]) := by rw [List.getElem?_map, List.getElem?_eq_getElem hil]; rfl
  rw [gt_some gi]
  have gx : gl (agR q n (rtO q t) (lfO q t)[i]) x = (((lfO q t)[i].zip (rtO q t)).map fun y => y.1 * gl y.2 x).sum % (q : Int) := gl_some (by unfold agR; rw [List.getElem?_map, List.getElem?_range hx]; rfl)
  obtain ⟨e1, e2⟩ := exl _ (List.getElem_mem hil)
  rw [gx, sum_zip x (e1.trans rlen.symm)]
  have h1 := fo i x hi hx
  rw [← rlen] at h1
  have h2 : sm (rtO q t).length (fun j => gt (lfO q t) i j * gt (rtO q t) j x) = sm (rtO q t).length (fun j => gl (lfO q t)[i] j * gt (rtO q t) j x) := sm_congr fun j _ => by rw [gt_some (List.getElem?_eq_getElem hil)]
  have h1 : (q : Int) ∣ sm (rtO q t).length (fun j => gt (lfO q t) i j * gt (rtO q t) j x) - gt t i x := h1
  rw [h2] at h1
  generalize sm (rtO q t).length (fun j => gl (lfO q t)[i] j * gt (rtO q t) j x) = z at h1
  exact dvd_sub_trans (dvd_sub' h1) (dvd_sub_mod (q : Int) z)
theorem TabR.good {m n q : Nat} {t : List (List Int)} (h : TabR m n t) (hq : q ∈ prN) (h1 : 1 ≤ m) (h2 : m ≤ 12) (h3 : 1 ≤ n) (h4 : n ≤ 12) : GoodT t n q := by
  have hl := h.len
  exact ⟨⟨h.row, h.low⟩, fun z => by rw [z] at hl; simp at hl; omega, by omega, by omega, by omega, by omega, pr_nat hq _, pp_nat hq⟩
section
variable {X : Cx} {F : Fc} {env : List Sl} {pos : Pos} {b : Nat} {aw ac : Addr}
/-- a call of _law_table -/
theorem dr_table {a1 : Expr} {q : Nat} {y : Str} {p p2 : Pos} {j : Nat} (G : DefM X.prog X.w F.K X.mg X.base 3 "_law_table" ["_law_well", "_law_p"] [] G_table R_table) (i : Nat) (hi : env[i]? = some (.well b 63 aw ac)) (h1 : EE X F env a1 (.int (q : Int))) (hq : q ∈ prN) (hb : b ≤ 10000)
    (hr : Room j X.A := by assumption) (hk : 3 ≤ j := by first | decide | omega) (hN : X.N[i]? = some y := by rfl) (hvis : Vis X.env.scope y := by first | exact Or.inl rfl | exact Or.inr (Or.inl rfl) | exact Or.inr (Or.inr rfl)) (hK : X.K = F.K := by rfl) (hg : Gl X "_law_table" := by rfl)
    (hdy : (y == ("__debug__" : Str)) = false := by decide) (hcy : (y == ("__classdict__" : Str)) = false := by decide)
    (q1 : starEach [a1] X.env = (false, eval a1 X.env) :: starEach [] X.env := by rfl)
    (he : starEach [.Name y p2, a1] X.env = (false, eval (.Name y p2) X.env) :: starEach [a1] X.env := by rfl) (hpl : (backTo pos (starEach [a1] X.env)).any (·.1) = false := by rfl) :
    EF X F env (.Call (.Name "_law_table" p) [.Name y p2, a1] [] pos) (DR tT (fun t => ∃ m n, TabR m n t ∧ 1 ≤ m ∧ m ≤ 12 ∧ 1 ≤ n ∧ n ≤ 12) env i b 500 aw ac) :=
  ef_callM G i hi ⟨trivial, fun z => nomatch z⟩ (eas_cons h1 eas_nil q1) (fun s hs => by obtain rfl := List.mem_singleton.mp hs; trivial) ⟨b, aw, ac, q, rfl, rfl, hq, hb⟩ (.inl rfl) (fun r s1 ⟨b0, b', w0, c0, m, n, t, g1, g3, g4, g5, g6, g7, g8, g9, g10⟩ => by
    cases g1
    subst g3 g10
    exact ⟨_, rfl, t, b', rfl, ⟨m, n, g4, g5, g6, g7, g8⟩, g9, rfl⟩) trivial hr hk hN hvis hK hg (by decide) hdy hcy he hpl
end
theorem Two.two {ps : List Nat} (h : Two ps) : ∃ q0 q1, ps = [q0, q1] ∧ q0 ∈ prN ∧ q1 ∈ prN := by
  match ps, h.len, h.pr with
  | [a, b], _, h => exact ⟨a, b, rfl, h a (by simp), h b (by simp)⟩
/-! ### _law_factors_right: slots 0 _law_well, 1 _law_primes_here, 2 _law_rows, 3 _law_p, 4 _law_left, 5 _law_right, 6 _law_again_here, 7 _law_some, 8 _law_sums, 9 _law_a, 10 _law_one, 11 _law_k -/
theorem sc__law_factors_right : FnScope ["_law_well", "_law_primes_here", "_law_rows", "_law_p", "_law_left", "_law_right", "_law_again_here", "_law_some", "_law_sums", "_law_a", "_law_one", "_law_k"] ["_law_well", "_law_primes_here"] (defScope (top 181)) := ⟨rfl, rfl, rfl, by decide +kernel, rfl, by decide +kernel, by decide +kernel⟩
theorem def_factors_right (T : Txt K mg) {TT : List NTab} (T__law_table : DefM P w K mg base 3 "_law_table" ["_law_well", "_law_p"] [] G_table R_table) (T_factors : Def P w K mg base 5 "factors" ["table", "p"] R_factors) (T__law_rank : Def P w K mg base 7 "_law_rank" ["_law_rows", "_law_p"] R_law_rank)
    (S : Std K mg "_law_factors_right" "_law_factors_right" 181) : DefM P w K mg base 8 "_law_factors_right" ["_law_well", "_law_primes_here"] TT G_right R_right :=
  defM_of S sc__law_factors_right (by rintro _ _ ⟨_, _, _, _, rfl, rfl, _⟩; rfl) (fun _ _ _ _ _ _ us hl => match us, hl with | [_, _], _ => rfl) fun f cdv A outer sh H E W s0 v0 ss hr nr ok0 hG => by
    obtain ⟨b, aw, ac, ps, rfl, rfl, hps, hb⟩ := hG
    have nd := sc__law_factors_right.nd
    obtain ⟨q0, q1, rfl, hq0, hq1⟩ := hps.two
    refine ss_asgF 2 (dr_table T__law_table 0 rfl (ee_ixL ((ee_var 1)).el ee_int ((rfl : atI ([q0, q1].map nD) 0 = some (.int (q0 : Int))))) hq0 (by omega)) ?_
    rintro _ _ ⟨t, b1, rfl, ⟨m, n, ht, hm1, hm2, hn1, hn2⟩, hb1, rfl⟩
    refine ss_forE (l := [q0, q1]) (en := nD) (fun _ => [(.well b1 63 aw ac), (.val (.list ([q0, q1].map nD))), (.val (tT t)), .any, .any, .any, .any, .any, .any, .any, .any, .any]) (ei_list (ee_var 1)) (pg_name (i := 3) nd rfl (by first | exact Or.inl rfl | exact Or.inr rfl)) (fun x _ => (tg_name 3)) (by repeat' (first | exact True.intro | exact Or.inl rfl | exact Or.inr rfl | apply And.intro)) (fun pre q post hx => ?_) (ss_retM (s1 := .well b1 63 aw ac) ok0 ee_bl rfl ⟨rfl, rfl⟩ fun v H' h => ⟨_, _, ⟨b, b1, aw, ac, rfl, rfl, by omega, rfl⟩, h⟩)
    have hq : q ∈ prN := hps.pr q (by rw [hx]; simp)
    have hqb := prN_bd q hq
    have G := ht.good hq hm1 hm2 hn1 hn2
    have FO := fac_ok hq G
    have tl := ht.len
    have ll := FO.ll
    have rl := FO.rl
    have rn := FO.rn
    have ls := FO.ls
    have gd := FO.good
    have sm_ := FO.same
    have kl := (rk_le G).1
    obtain ⟨r0, k0, k1, _, _⟩ := G.tab.get (i := 0) (by omega)
    have a0 : atI (t.map tI) 0 = some (tI r0) := atMi (k := 0) rfl k0
    refine ss_unpack (d := .tuple [tT (lfO q t), tT (rtO q t)]) ((ee_callD T_factors (eas_cons (ee_var 2) (eas_cons (ee_var 3) eas_nil)) (⟨t, q, n, rfl, hq, G, rfl⟩))) (pg_tup rfl (pgs_cons (pg_name (i := 4) nd rfl (by first | exact Or.inl rfl | exact Or.inr rfl)) (pgs_cons (pg_name (i := 5) nd rfl (by first | exact Or.inl rfl | exact Or.inr rfl)) pgs_nil))) (tg_two 4 5) ?_
    generalize lfO q t = lf at ll ls gd sm_ ⊢
    generalize rtO q t = rt at rl rn gd sm_ ⊢
    refine ss_new' 6 (en_lst ea_nil) ?_
    refine ss_forE (l := lf) (en := tI) (fun pre => [(.well b1 63 aw ac), (.val (.list ([q0, q1].map nD))), (.val (tT t)), (.val (nD q)), (.val (tT lf)), (.val (tT rt)), (.lst ((pre.map (agR q n rt)).map tI)), .any, .any, .any, .any, .any]) (ei_tup (ee_var 4)) (pg_name (i := 7) nd rfl (by first | exact Or.inl rfl | exact Or.inr rfl)) (fun x _ => (tg_name 7)) (by repeat' (first | exact True.intro | exact Or.inl rfl | exact Or.inr rfl | apply And.intro)) (fun pre s post hs => ?_) ?_
    · have hpl : pre.length < lf.length := by rw [hs]; simp
      obtain ⟨e1, e2⟩ := ls s (by rw [hs]; simp)
      refine (ss_lcM (en2 := PyData.int) 8 (l := List.range ((((r0.map PyData.int).length : Nat) : Int)).toNat) (en := nD) (h := fun (k : Nat) => ((s.zip rt).map fun y => y.1 * gl y.2 k).sum % (q : Int)) (own := [("_law_k", 11)]) (g := (gName 11)) (js := [11]) rfl nd (blkOk_by (by kernel_rfl)) ((ei_range1 T.range (ee_lenT T.len (ee_ixT (ee_var 2) ee_int (a0))) (by first | assumption | omega | decide | (simp; omega) | (simp; done)) (by first | assumption | omega | decide | (simp; omega) | (simp; done))).eq (rgD_nat _)).m ((by simp; omega)) (fun _ _ _ _ _ => (pg_name (i := 11) nd rfl (by first | exact Or.inl rfl | exact Or.inr rfl))) (fun x hx => (tg_name 11)) (by decide) (fun x hx _ _ _ _ _ => (ee_mod (ee_sum T.sum rfl ((ee_lcM (en2 := PyData.int)  (l := s.zip rt) (en := fun y => .tuple [.int y.1, tI y.2]) (h := fun y => y.1 * gl y.2 x) (own := [("_law_a", 9), ("_law_one", 10)]) (g := (gTup K 2 (gCons (gName 9) (gCons (gName 10) gNil)))) (js := [9, 10]) rfl nd (blkOk_by (by kernel_rfl)) ((ei_zipT T.zip (ee_var 7) (ee_var 5)).eq (zipD_map _ _ _ _)).m ((by simp; omega)) (fun _ _ _ _ _ => (pg_tup rfl (pgs_cons (pg_name (i := 9) nd rfl (by first | exact Or.inl rfl | exact Or.inr rfl)) (pgs_cons (pg_name (i := 10) nd rfl (by first | exact Or.inl rfl | exact Or.inr rfl)) pgs_nil)))) (fun y hy => (tg_two 9 10)) (by decide) (fun y hy _ _ _ _ _ => (ee_mul (ee_var 9) (ee_ixT (ee_var 10) (ee_var 11) ((show atI (y.2.map PyData.int) (x : Int) = some (.int (gl y.2 x)) from at_gl (by rw [rl _ (List.of_mem_zip hy).2]; have := List.mem_range.mp hx; rw [List.length_map] at this; omega)))) (.inl ⟨by have := e2 _ (List.of_mem_zip hy).1; omega, by have := e2 _ (List.of_mem_zip hy).1; omega⟩))))).el) (ee_var 3) ((by omega))))) ?_
      have eA : ((List.range ((((r0.map PyData.int).length : Nat) : Int)).toNat).map fun (k : Nat) => ((s.zip rt).map fun y => y.1 * gl y.2 k).sum % (q : Int)) = agR q n rt s := by rw [Int.toNat_natCast, List.length_map, k1]; rfl
      rw [eA]
      refine ss_append 6 (d := tI (agR q n rt s)) (ee_tupleL T.tuple ((ee_var 8)).el) ?_ (ss_end ?_)
      · rw [List.length_map, List.length_map]
        omega
      · rw [show ((pre ++ [s]).map (agR q n rt)).map tI = (pre.map (agR q n rt)).map tI ++ [tI (agR q n rt s)] by simp]
        exact (by repeat' (first | exact True.intro | exact Or.inl rfl | exact Or.inr rfl | apply And.intro))
    · refine ss_ifR (k := false) (((ew_or (cd_neI.et (ee_callD T__law_rank (eas_cons (ee_var 2) (eas_cons (ee_var 3) eas_nil)) (⟨t, q, n, rfl, G, rfl⟩)) (ee_lenT T.len (ee_var 5))) (fun hT => (ew_or1 (cd_neI.et (ee_callD T__law_rank (eas_cons (ee_tupleL T.tuple (el_var 6)) (eas_cons (ee_var 3) eas_nil)) (⟨lf.map (agR q n rt), q, n, rfl, gd, rfl⟩)) (ee_lenT T.len (ee_var 5)))))).et).eq ?_) (fun hk => by cases hk) fun _ => ss_end (by repeat' (first | exact True.intro | exact Or.inl rfl | exact Or.inr rfl | apply And.intro))
      show (!decide ((rk q t : Int) = ((rt.map tI).length : Int)) || !decide ((rk q (lf.map (agR q n rt)) : Int) = ((rt.map tI).length : Int))) = false
      rw [sm_, List.length_map, rn]
      simp
end Tf
end
section
set_option maxHeartbeats 1000000
namespace Tf
open PySem PySem.Spec PyProof.Rows L2 LamX NdefX
variable {P : Program} {w : World} {K : PySem.W.Frag} {mg : Str → Option Value} {base : Heap}
section
variable {X : Cx} {F : Fc} {env : List Sl} {pos : Pos} {b : Nat} {aw ac : Addr}
/-- a call of _law_question -/
theorem dr_question {a1 : Expr} {n : Nat} {y : Str} {p p2 : Pos} {j : Nat} (G : DefM X.prog X.w F.K X.mg X.base 2 "_law_question" ["_law_well", "_law_n"] [] G_question R_question) (i : Nat) (hi : env[i]? = some (.well b 63 aw ac)) (h1 : EE X F env a1 (.int (n : Int))) (hn : 1 ≤ n ∧ n ≤ 6) (hb : b ≤ 10000)
    (hr : Room j X.A := by assumption) (hk : 2 ≤ j := by first | decide | omega) (hN : X.N[i]? = some y := by rfl) (hvis : Vis X.env.scope y := by first | exact Or.inl rfl | exact Or.inr (Or.inl rfl) | exact Or.inr (Or.inr rfl)) (hK : X.K = F.K := by rfl) (hg : Gl X "_law_question" := by rfl)
    (hdy : (y == ("__debug__" : Str)) = false := by decide) (hcy : (y == ("__classdict__" : Str)) = false := by decide)
    (q1 : starEach [a1] X.env = (false, eval a1 X.env) :: starEach [] X.env := by rfl)
    (he : starEach [.Name y p2, a1] X.env = (false, eval (.Name y p2) X.env) :: starEach [a1] X.env := by rfl) (hpl : (backTo pos (starEach [a1] X.env)).any (·.1) = false := by rfl) :
    EF X F env (.Call (.Name "_law_question" p) [.Name y p2, a1] [] pos) (DR (fun l => .str (tx l)) (fun l => Qs n l) env i b 100 aw ac) :=
  ef_callM G i hi ⟨trivial, fun z => nomatch z⟩ (eas_cons h1 eas_nil q1) (fun s hs => by obtain rfl := List.mem_singleton.mp hs; trivial) ⟨b, aw, ac, n, rfl, rfl, hn.1, hn.2, hb⟩ (.inl rfl) (fun r s1 ⟨b0, b', w0, c0, n0, l, g1, g2, g3, g4, g5, g6, g7⟩ => by
    cases g1
    simp at g2
    obtain rfl : n = n0 := by omega
    subst g3 g7
    exact ⟨_, rfl, l, b', rfl, ⟨hn.1, hn.2, g4, g5⟩, g6, rfl⟩) trivial hr hk hN hvis hK hg (by decide) hdy hcy he hpl
end
/-! ### the plain law: cuts -/
abbrev rkL (l : List Int) (n q : Nat) : List Int := (List.range (n + 1)).map fun k => (rk q (cutF l n k) : Int)
abbrev wdL (l : List Int) (n : Nat) : List Int := (List.range (n + 1)).map fun k => ((fpT l n k).length : Int)
theorem cut_rk {l : List Int} {n k q : Nat} (Q : Qs n l) (hk : k ≤ n) (hq : q ∈ prN) : rk q (cutF l n k) ≤ (fpT l n k).length := by
  have G := cut_good Q hk hq
  obtain ⟨A, hA⟩ := gen_fp (p := (q : Int)) (n := 2 ^ (n - k)) (t := cutF l n k) G.pr.hp
  exact (rk_is G).le G.pr.hp hA
theorem zip_wd {l : List Int} {n q : Nat} {y : Int × Int} (Q : Qs n l) (hq : q ∈ prN) (h : y ∈ (rkL l n q).zip (wdL l n)) : decide (y.2 < y.1) = false := by
  obtain ⟨i, hi⟩ := List.mem_iff_getElem?.mp h
  obtain ⟨g1, g2⟩ := List.getElem?_zip_eq_some.mp hi
  have hl := (List.getElem?_eq_some_iff.mp g1).1
  rw [List.length_map, List.length_range] at hl
  rw [List.getElem?_map, range_get hl] at g1 g2
  have e1 : y.1 = (rk q (cutF l n i) : Int) := (Option.some.inj g1).symm
  have e2 : y.2 = ((fpT l n i).length : Int) := (Option.some.inj g2).symm
  have := cut_rk Q (k := i) (by omega) hq
  rw [e1, e2]
  exact decide_eq_false (by omega)
theorem sizes_eq (l : List Int) (n q : Nat) : PyData.tuple ((((List.range n).map fun k => (smL l n q k 0, PyData.tuple (smL l n q k 1))).map fun x => PyData.int (x.1.length : Int)) ++ [.int ((smE l n q).length : Int)]) = tI (rkL l n q) := by
  show PyData.tuple _ = PyData.tuple (((List.range (n + 1)).map fun k => (rk q (cutF l n k) : Int)).map PyData.int)
  rw [List.range_succ, List.map_append, List.map_append, List.map_map, List.map_map]
  refine congrArg PyData.tuple (congr (congrArg HAppend.hAppend ?_) ?_)
  · refine List.map_congr_left fun k _ => ?_
    show PyData.int ((smL l n q k 0).length : Int) = PyData.int (rk q (cutF l n k) : Int)
    unfold smL
    rw [List.length_map]
    rfl
  · show [PyData.int ((smE l n q).length : Int)] = [PyData.int (rk q (cutF l n n) : Int)]
    unfold smE
    rw [List.length_map]
    rfl
theorem sizes_eq' (l : List Int) (n q : Nat) : PyData.tuple ((((List.range n).map fun k => (smL l n q k 0, PyData.tuple (smL l n q k 1))).map fun x => PyData.int (x.1.length : Int)) ++ [.int ((smE l n q).length : Int)]) = tI (rkL l n q) := sizes_eq l n q
/-! ### _law_cuts_right: slots 0 _law_well, 1 _law_p, 2 _law_n, 3 _law_question_here, 4 _law_layers, 5 _law_ends, 6 _law_wide, 7 _law_layer, 8 _law_pieces, 9 _law_k, 10 _law_rows, 11 _law_ranks, 12 _law_rank_here, 13 _law_size -/
theorem sc__law_cuts_right : FnScope ["_law_well", "_law_p", "_law_n", "_law_question_here", "_law_layers", "_law_ends", "_law_wide", "_law_layer", "_law_pieces", "_law_k", "_law_rows", "_law_ranks", "_law_rank_here", "_law_size"] ["_law_well", "_law_p"] (defScope (top 183)) := ⟨rfl, rfl, rfl, by decide +kernel, rfl, by decide +kernel, by decide +kernel⟩
def G_cuts (s0 : Sl) (ss : List Sl) : Prop := ∃ (b : Nat) (aw ac : Addr) (q : Nat), s0 = .well b 63 aw ac ∧ ss = [.val (.int q)] ∧ q ∈ prN ∧ b ≤ 5000
theorem def_cuts (T : Txt K mg) {TT : List NTab} (T__law_draw : DefM P w K mg base 1 "_law_draw" ["_law_well", "_law_most"] [] G_draw R_draw) (T__law_question : DefM P w K mg base 2 "_law_question" ["_law_well", "_law_n"] [] G_question R_question) (T_machine_of : Def P w K mg base 4 "machine_of" ["question"] R_machine_of) (T_cut : Def P w K mg base 1 "cut" ["question", "k"] R_cut)
    (T__law_again : Def P w K mg base 6 "_law_again" ["_law_rows", "_law_p"] R_law_again) (T__law_rank : Def P w K mg base 7 "_law_rank" ["_law_rows", "_law_p"] R_law_rank) (T_summing_of : Def P w K mg base 5 "summing_of" ["question", "p"] R_summing_of) (T_sizes_of : Def P w K mg base 1 "sizes_of" ["machine"] R_sizes_of)
    (S : Std K mg "_law_cuts_right" "_law_cuts_right" 183) : DefM P w K mg base 8 "_law_cuts_right" ["_law_well", "_law_p"] TT G_cuts R_right :=
  defM_of S sc__law_cuts_right (by rintro _ _ ⟨_, _, _, _, rfl, rfl, _⟩; rfl) (fun _ _ _ _ _ _ us hl => match us, hl with | [_, _], _ => rfl) fun f cdv A outer sh H E W s0 v0 ss hr nr ok0 hG => by
    obtain ⟨b, aw, ac, q, rfl, rfl, hq, hb⟩ := hG
    have nd := sc__law_cuts_right.nd
    refine ss_asgF 2 (dr_addR ee_int (dr_draw T__law_draw 0 rfl ee_int (by omega) (by omega))) ?_
    rintro _ _ ⟨n, b1, rfl, hn, hb1, rfl⟩
    obtain ⟨n, rfl⟩ : ∃ z : Nat, n = (z : Int) := ⟨n.toNat, by omega⟩
    have hn : 1 ≤ n ∧ n ≤ 6 := by omega
    refine ss_asgF 3 (dr_tupR rfl (ee_var 2) (dr_question T__law_question 0 rfl (ee_var 2) hn (by omega))) ?_
    rintro _ _ ⟨l, b2, rfl, Q, hb2, rfl⟩
    refine ss_unpack (d := mcD l n) (ee_callD T_machine_of (eas_cons (ee_var 3) eas_nil) (⟨n, l, rfl, Q, rfl⟩)) (pg_tup rfl (pgs_cons (pg_name (i := 4) nd rfl (by first | exact Or.inl rfl | exact Or.inr rfl)) (pgs_cons (pg_name (i := 5) nd rfl (by first | exact Or.inl rfl | exact Or.inr rfl)) pgs_nil))) (tg_two 4 5) ?_
    refine ss_asg 6 (d := lI (wdL l n)) (((ee_cat ((ee_lcM (en2 := PyData.int)  (l := List.range n) (en := layD l n) (h := fun (k : Nat) => ((((fpT l n k).map fun i => PyData.tuple [nD (gn (numF (cutF l n (k + 1))) (2 * i)), nD (gn (numF (cutF l n (k + 1))) (2 * i + 1))]).length : Nat) : Int)) (own := [("_law_layer", 7)]) (g := (gName 7)) (js := [7]) rfl nd (blkOk_by (by kernel_rfl)) (ei_tup (ee_var 4)).m ((by simp; omega)) (fun _ _ _ _ _ => (pg_name (i := 7) nd rfl (by first | exact Or.inl rfl | exact Or.inr rfl))) (fun x hx => (tg_name 7)) (by decide) (fun x hx _ _ _ _ _ => (ee_lenT T.len (ee_var 7))))).el ((ee_lst (ea_cons (ee_lenT T.len (ee_var 5)) ea_nil))).el ((by simp; omega)))).eq ?_) ?_
    · show PyData.list _ = PyData.list (((List.range (n + 1)).map fun k => ((fpT l n k).length : Int)).map PyData.int)
      rw [List.range_succ, List.map_append, List.map_append]
      refine congrArg PyData.list (congr (congrArg HAppend.hAppend ?_) ?_)
      · rw [List.map_map, List.map_map]
        refine List.map_congr_left fun k _ => ?_
        exact congrArg (fun z : Nat => PyData.int (z : Int)) (List.length_map _)
      · show [PyData.int _] = [PyData.int ((fpT l n n).length : Int)]
        rw [List.length_map, List.length_map]
    have en1 : ((n : Int) + 1).toNat = n + 1 := by omega
    refine (ss_lc 8 (l := List.range ((n : Int) + 1).toNat) (en := nD) (h := fun k => tT (cutF l n k)) (own := [("_law_k", 9)]) (g := (gName 9)) (js := [9]) rfl nd (blkOk_by (by kernel_rfl)) ((ei_range1 T.range (ee_add (ee_var 2) ee_int) (by first | assumption | omega | decide | (simp; omega) | (simp; done)) (by first | assumption | omega | decide | (simp; omega) | (simp; done))).eq (rgD_nat _)).m ((by rw [List.length_range]; omega)) (fun _ _ _ _ _ => (pg_name (i := 9) nd rfl (by first | exact Or.inl rfl | exact Or.inr rfl))) (fun x hx => (tg_name 9)) (by decide) (fun x hx _ _ _ _ _ => (ee_callD T_cut (eas_cons (ee_var 3) (eas_cons (ee_var 9) eas_nil)) (⟨n, x, l, rfl, Q, by have := List.mem_range.mp hx; omega, rfl⟩)))) ?_
    rw [en1]
    have hsz : (List.range (n + 1)).length ≤ 100000 := by rw [List.length_range]; omega
    have hx1 : ∀ x, x ∈ List.range (n + 1) → x ≤ n := fun x hx => by have := List.mem_range.mp hx; omega
    refine ss_ifR (k := false) ((((cd_neD ((show SeqAt.shaped (.list ((((List.range (n + 1)).filter fun _ => !true).map fun _ => (1 : Int)).map PyData.int)) = true from (sh_lI _).ok)) (sh_nilL.ok) (hu_of64 hr)).et (ee_lcGM (en2 := PyData.int)  (l := List.range (n + 1)) (en := fun k => tT (cutF l n k)) (h := fun _ => (1 : Int)) (c := fun _ => !true) (own := [("_law_rows", 10)]) (g := (gName 10)) (js := [10]) rfl nd (blkOk_by (by kernel_rfl)) (ei_list (ee_var 8)).m (hsz) (fun _ _ _ _ _ => (pg_name (i := 10) nd rfl (by first | exact Or.inl rfl | exact Or.inr rfl))) (fun x hx => (tg_name 10)) (by decide) (fun x hx _ _ _ _ _ => ets_one (et_not (et_val (ee_callD T__law_again (eas_cons (ee_var 10) (eas_cons (ee_var 1) eas_nil)) (⟨cutF l n x, q, _, rfl, hq, cut_good Q (hx1 x hx) hq, rfl⟩))))) (fun x hx hc _ _ _ _ _ => ee_int)) (ee_lst ea_nil))).eq ?_) (fun hk => by cases hk) fun _ => ?_
    · rw [show PyData.eqv (.list ((((List.range (n + 1)).filter fun _ => !true).map fun _ => (1 : Int)).map PyData.int)) (.list []) = _ from eqv_nilL _, List.isEmpty_map, List.isEmpty_map, List.filter_eq_nil_iff.mpr (fun _ _ => by decide)]
      rfl
    refine (ss_lcM (en2 := PyData.int) 11 (l := List.range (n + 1)) (en := fun k => tT (cutF l n k)) (h := fun k => (rk q (cutF l n k) : Int)) (own := [("_law_rows", 10)]) (g := (gName 10)) (js := [10]) rfl nd (blkOk_by (by kernel_rfl)) (ei_list (ee_var 8)).m (hsz) (fun _ _ _ _ _ => (pg_name (i := 10) nd rfl (by first | exact Or.inl rfl | exact Or.inr rfl))) (fun x hx => (tg_name 10)) (by decide) (fun x hx _ _ _ _ _ => (ee_callD T__law_rank (eas_cons (ee_var 10) (eas_cons (ee_var 1) eas_nil)) (⟨cutF l n x, q, _, rfl, cut_good Q (hx1 x hx) hq, rfl⟩)))) ?_
    refine ss_ifR (k := false) (((ew_or ((cd_noneInL).et ee_non (ee_var 11)) (fun hT => (ew_or1 ((cd_neD ((show SeqAt.shaped (.list (((((rkL l n q).zip (wdL l n)).filter fun y => decide (y.2 < y.1)).map fun _ => (1 : Int)).map PyData.int)) = true from (sh_lI _).ok)) (sh_nilL.ok) (hu_of64 hr)).et (ee_lcGM (en2 := PyData.int)  (l := (rkL l n q).zip (wdL l n)) (en := fun y => .tuple [.int y.1, .int y.2]) (h := fun _ => (1 : Int)) (c := fun y => decide (y.2 < y.1)) (own := [("_law_rank_here", 12), ("_law_size", 13)]) (g := (gTup K 2 (gCons (gName 12) (gCons (gName 13) gNil)))) (js := [12, 13]) rfl nd (blkOk_by (by kernel_rfl)) ((ei_zipL T.zip (ee_var 11) (ee_var 6)).eq (zipD_map _ _ _ _)).m ((by simp; omega)) (fun _ _ _ _ _ => (pg_tup rfl (pgs_cons (pg_name (i := 12) nd rfl (by first | exact Or.inl rfl | exact Or.inr rfl)) (pgs_cons (pg_name (i := 13) nd rfl (by first | exact Or.inl rfl | exact Or.inr rfl)) pgs_nil)))) (fun x hx => (tg_two 12 13)) (by decide) (fun x hx _ _ _ _ _ => ets_one (cd_gt.et (ee_var 12) (ee_var 13))) (fun x hx hc _ _ _ _ _ => ee_int)) (ee_lst ea_nil))))).et).eq ?_) (fun hk => by cases hk) fun _ => ?_
    · rw [show PyData.eqv (.list (((((rkL l n q).zip (wdL l n)).filter fun y => decide (y.2 < y.1)).map fun _ => (1 : Int)).map PyData.int)) (.list []) = _ from eqv_nilL _, List.isEmpty_map, List.isEmpty_map, List.filter_eq_nil_iff.mpr (fun y hy => by rw [zip_wd Q hq hy]; exact Bool.false_ne_true)]
      rfl
    refine ss_retM (s1 := .well b2 63 aw ac) ok0 ((((cd_eqD ((show SeqAt.shaped (tI (rkL l n q)) = true from (sh_tI _).ok)) ((show SeqAt.shaped (tI (rkL l n q)) = true from (sh_tI _).ok)) (hu_of64 hr)).ee (ee_tupleL T.tuple ((ee_var 11)).el) (ee_callD T_sizes_of (eas_cons (ee_callD T_summing_of (eas_cons (ee_var 3) (eas_cons (ee_var 1) eas_nil)) (⟨n, l, q, rfl, Q, hq, rfl⟩)) eas_nil) (⟨_, (List.range n).map fun k => (smL l n q k 0, PyData.tuple (smL l n q k 1)), smE l n q, rfl, by rw [List.length_map, List.length_range]; omega, (sizes_eq' l n q).symm⟩)))).eq (d1 := .bool true) ?_) rfl ⟨rfl, rfl⟩ fun v H' h => ⟨_, _, ⟨b, b2, aw, ac, rfl, rfl, by omega, rfl⟩, h⟩
    rw [show PyData.eqv (tI (rkL l n q)) (tI (rkL l n q)) = _ from eqv_tI _ _]
    simp
end Tf
end
section
set_option maxHeartbeats 1000000
namespace Tf
open PySem PySem.Spec PyProof.Rows L2 LamX NdefX
variable {P : Program} {w : World} {K : PySem.W.Frag} {mg : Str → Option Value} {base : Heap}
/-! ### _law_deck: slots 0 _law_script, 1 _law_cells, 2 _law_seed, 3 _law_k, 4 _law_cell -/
theorem sc__law_deck : FnScope ["_law_script", "_law_cells", "_law_seed", "_law_k", "_law_cell"] ["_law_script"] (defScope (top 168)) := ⟨rfl, rfl, rfl, by decide +kernel, rfl, by decide +kernel, by decide +kernel⟩
theorem zip_sum (l : List Int) : ∃ z : Int, (l.zipIdx.map fun y => y.1 % 1000003 * ((y.2 : Int) + 1)).sum = z := ⟨_, rfl⟩
theorem def_law_deck (T : Txt K mg) (S : Std K mg "_law_deck" "_law_deck" 168) : DefDeck P w K mg base 1 "_law_deck" ["_law_script"] :=
  deck_of S sc__law_deck (fun _ _ _ _ _ _ us hl => match us, hl with | [_], _ => rfl) fun f cdv A outer sh H E W v0 ns hr ok0 => by
    have nd := sc__law_deck.nd
    refine ss_asg 1 (d := lI (ns.take 63)) ((ee_listL T.list (ee_scr 0 eo_none (eo_some ee_int)).el).eq ?_) ?_
    · show PyData.list (cutD (ns.map PyData.int) none (some ((63 : Nat) : Int))) = _
      rw [cut_map, cut_to]
    have hl : (ns.take 63).length ≤ 63 := by rw [List.length_take]; omega
    generalize ns.take 63 = cs at hl ⊢
    refine ss_asg 2 (ee_add ee_int (ee_mod (ee_sum T.sum rfl ((ee_lcM (en2 := PyData.int)  (l := cs.zipIdx) (en := fun y => .tuple [.int (y.2 : Int), .int y.1]) (h := fun y => y.1 % 1000003 * ((y.2 : Int) + 1)) (own := [("_law_k", 3), ("_law_cell", 4)]) (g := (gTup K 2 (gCons (gName 3) (gCons (gName 4) gNil)))) (js := [3, 4]) rfl nd (blkOk_by (by kernel_rfl)) ((ei_enum T.enumerate (ee_var 1)).eq ((enD_map _ _))).m ((by simp; omega)) (fun _ _ _ _ _ => (pg_tup rfl (pgs_cons (pg_name (i := 3) nd rfl (by first | exact Or.inl rfl | exact Or.inr rfl)) (pgs_cons (pg_name (i := 4) nd rfl (by first | exact Or.inl rfl | exact Or.inr rfl)) pgs_nil)))) (fun x hx => (tg_two 3 4)) (by decide) (fun x hx _ _ _ _ _ => (ee_mul (ee_mod (ee_var 4) ee_int ((by omega))) (ee_add (ee_var 3) ee_int) (.inl ⟨by omega, by omega⟩))))).el) ee_int ((by omega)))) ?_
    generalize (cs.zipIdx.map fun y => y.1 % 1000003 * ((y.2 : Int) + 1)).sum = z
    exact ss_retDeck ((ee_var 1)).el (ee_var 2) ee_int hl (by omega) (by omega) fun v H' h => h
section
variable {X : Cx} {F : Fc} {env : List Sl} {pos : Pos} {b : Nat} {aw ac : Addr}
/-- the law's parts -/
theorem dr_right {a1 : Expr} {ps : List Nat} {x y : Str} {p p2 : Pos} {j k : Nat} {TT : List NTab} (G : DefM X.prog X.w F.K X.mg X.base k x ["_law_well", "_law_primes_here"] TT G_right R_right) (i : Nat) (hi : env[i]? = some (.well b 63 aw ac)) (h1 : EE X F env a1 (.list (ps.map nD))) (hps : Two ps) (hb : b ≤ 5000) (hT : TT = F.T)
    (hr : Room j X.A := by assumption) (hk : k ≤ j := by first | decide | omega) (hN : X.N[i]? = some y := by rfl) (hvis : Vis X.env.scope y := by first | exact Or.inl rfl | exact Or.inr (Or.inl rfl) | exact Or.inr (Or.inr rfl)) (hK : X.K = F.K := by rfl) (hg : Gl X x := by rfl) (hdb : (x == ("__debug__" : Str)) = false := by decide)
    (hdy : (y == ("__debug__" : Str)) = false := by decide) (hcy : (y == ("__classdict__" : Str)) = false := by decide)
    (q1 : starEach [a1] X.env = (false, eval a1 X.env) :: starEach [] X.env := by rfl)
    (he : starEach [.Name y p2, a1] X.env = (false, eval (.Name y p2) X.env) :: starEach [a1] X.env := by rfl) (hpl : (backTo pos (starEach [a1] X.env)).any (·.1) = false := by rfl) :
    EF X F env (.Call (.Name x p) [.Name y p2, a1] [] pos) (DR PyData.bool (fun v => v = true) env i b 1000 aw ac) :=
  ef_callM G i hi ⟨trivial, fun z => nomatch z⟩ (eas_cons h1 eas_nil q1) (fun s hs => by obtain rfl := List.mem_singleton.mp hs; trivial) ⟨b, aw, ac, ps, rfl, rfl, hps, hb⟩ (.inr hT) (fun r s1 ⟨b0, b', w0, c0, g1, g2, g3, g4⟩ => by
    cases g1
    subst g2 g4
    exact ⟨_, rfl, true, b', rfl, rfl, g3, rfl⟩) trivial hr hk hN hvis hK hg hdb hdy hcy he hpl
theorem dr_cuts {a1 : Expr} {q : Nat} {y : Str} {p p2 : Pos} {j k : Nat} {TT : List NTab} (G : DefM X.prog X.w F.K X.mg X.base k "_law_cuts_right" ["_law_well", "_law_p"] TT G_cuts R_right) (i : Nat) (hi : env[i]? = some (.well b 63 aw ac)) (h1 : EE X F env a1 (.int (q : Int))) (hq : q ∈ prN) (hb : b ≤ 5000) (hT : TT = F.T)
    (hr : Room j X.A := by assumption) (hk : k ≤ j := by first | decide | omega) (hN : X.N[i]? = some y := by rfl) (hvis : Vis X.env.scope y := by first | exact Or.inl rfl | exact Or.inr (Or.inl rfl) | exact Or.inr (Or.inr rfl)) (hK : X.K = F.K := by rfl) (hg : Gl X "_law_cuts_right" := by rfl)
    (hdy : (y == ("__debug__" : Str)) = false := by decide) (hcy : (y == ("__classdict__" : Str)) = false := by decide)
    (q1 : starEach [a1] X.env = (false, eval a1 X.env) :: starEach [] X.env := by rfl)
    (he : starEach [.Name y p2, a1] X.env = (false, eval (.Name y p2) X.env) :: starEach [a1] X.env := by rfl) (hpl : (backTo pos (starEach [a1] X.env)).any (·.1) = false := by rfl) :
    EF X F env (.Call (.Name "_law_cuts_right" p) [.Name y p2, a1] [] pos) (DR PyData.bool (fun v => v = true) env i b 1000 aw ac) :=
  ef_callM G i hi ⟨trivial, fun z => nomatch z⟩ (eas_cons h1 eas_nil q1) (fun s hs => by obtain rfl := List.mem_singleton.mp hs; trivial) ⟨b, aw, ac, q, rfl, rfl, hq, hb⟩ (.inr hT) (fun r s1 ⟨b0, b', w0, c0, g1, g2, g3, g4⟩ => by
    cases g1
    subst g2 g4
    exact ⟨_, rfl, true, b', rfl, rfl, g3, rfl⟩) trivial hr hk hN hvis hK hg (by decide) hdy hcy he hpl
end
theorem pick_prime (v : Int) (h : 0 ≤ v ∧ v < 25) : ∃ u, atI (primesL.map PyData.int) v = some (nD u) ∧ u ∈ prN := by
  have hl : prN.length = 25 := by decide +kernel
  have h3 : v.toNat < prN.length := by omega
  refine ⟨prN[v.toNat], ?_, List.getElem_mem h3⟩
  rw [primes_eq, List.map_map]
  exact atMi (en := nD) (k := v.toNat) (by omega) (List.getElem?_eq_getElem h3)
/-! ### law: slots 0 _law_script, 1 _law_well, 2 _law_primes_here, 3 _law_turn -/
theorem sc_law : FnScope ["_law_script", "_law_well", "_law_primes_here", "_law_turn"] ["_law_script"] (defScope (top 184)) := ⟨rfl, rfl, rfl, by decide +kernel, rfl, by decide +kernel, by decide +kernel⟩
def G_law (s0 : Sl) (ss : List Sl) : Prop := ∃ ns : List Int, s0 = .scr ns ∧ ss = []
def R_law (_ : Sl) (_ : List Sl) (r _ : Sl) : Prop := r = .val (.bool true)
theorem fn_law {f : Addr} {fd : FuncData} (G : FunD K "law" "law" (defArgs (top 184)) (defBody (top 184)) (defScope (top 184)) [] [] f fd) (T : Txt K mg) {TT : List NTab} (T__law_deck : DefDeck P w K mg base 1 "_law_deck" ["_law_script"]) (T__law_primes : Def P w K mg base 1 "_law_primes" [] R_law_primes) (T__law_draw : DefM P w K mg base 1 "_law_draw" ["_law_well", "_law_most"] [] G_draw R_draw)
    (T1 : DefM P w K mg base 8 "_law_multiplied_right" ["_law_well", "_law_primes_here"] TT G_right R_right) (T2 : DefM P w K mg base 14 "_law_trees_right" ["_law_well", "_law_primes_here"] TT G_right R_right) (T3 : DefM P w K mg base 8 "_law_factors_right" ["_law_well", "_law_primes_here"] TT G_right R_right) (T4 : DefM P w K mg base 8 "_law_cuts_right" ["_law_well", "_law_p"] TT G_cuts R_right) :
    FnOk P w K mg base CX0 15 f fd ["_law_script"] (spM K TT G_law R_law) :=
  fn_M G sc_law (by rintro _ _ ⟨_, rfl, rfl⟩; rfl) fun cdv A outer sh H E W s0 v0 ss hr nr ok0 hG => by
    obtain ⟨ns, rfl, rfl⟩ := hG
    have nd := sc_law.nd
    refine ss_deck 1 0 T__law_deck rfl fun aw ac => ?_
    refine ss_lcF 2 ⟨rfl, nd, blkOk_by (by kernel_rfl), ei_rgN (2) T.range ee_int (by first | rfl | omega | simp) (by omega), by omega, rfl, rfl, by decide, (fun _ _ _ _ _ => (pg_name (i := 3) nd rfl (by first | exact Or.inl rfl | exact Or.inr rfl))), (fun m1 c1 hm1 hc1 _ _ _ _ _ => (dr_ixV (f := nD) (q := fun q => q ∈ prN) (ee_callD0 T__law_primes ⟨rfl, rfl⟩) (dr_draw T__law_draw 1 rfl ee_int (by omega) (by omega)) pick_prime)), by intro _; rfl⟩ ?_
    intro ps b1 hp1 hp2 hb1
    have hps : Two ps := ⟨hp1, hp2⟩
    obtain ⟨q0, q1, hqq, hq0, hq1⟩ := hps.two
    refine ss_ifFR (T := fun c env' => c = false ∧ ∃ b', b' ≤ b1 + 2000 ∧ env' = [(.scr ns), (.well b' 63 aw ac), (.val (.list (ps.map nD))), .any]) (EFW.ft (fw_or (T1 := fun c env' => c = false ∧ ∃ b', b' ≤ b1 + 1000 ∧ env' = [(.scr ns), (.well b' 63 aw ac), (.val (.list (ps.map nD))), .any]) (ft_not (ft_val (dr_right T1 1 rfl (ee_var 2) hps (by omega) rfl) ?_)) (fun env' h => nomatch h.1) ?_)) (fun env' h => nomatch h.1) ?_
    · rintro d env' ⟨v, b', rfl, rfl, hb', rfl⟩
      exact ⟨true, rfl, rfl, b', hb', rfl⟩
    · rintro _ ⟨_, b2, hb2, rfl⟩
      refine fw_or1 (ft_not (ft_val (dr_right T2 1 rfl (ee_var 2) hps (by omega) rfl) ?_))
      rintro d env' ⟨v, b', rfl, rfl, hb', rfl⟩
      exact ⟨true, rfl, rfl, b', by omega, rfl⟩
    · rintro _ ⟨_, b2, hb2, rfl⟩
      refine ss_retMF ok0 (ef_and (S := fun d env' => d = .bool true ∧ ∃ b', env' = [(.scr ns), (.well b' 63 aw ac), (.val (.list (ps.map nD))), .any]) (S1 := fun d env' => d = .bool true ∧ ∃ b', b' ≤ b1 + 3000 ∧ env' = [(.scr ns), (.well b' 63 aw ac), (.val (.list (ps.map nD))), .any]) ((dr_right T3 1 rfl (ee_var 2) hps (by omega) rfl).imp ?_) fun d env' h => ⟨h.1, ?_⟩) ?_
      · rintro d env' ⟨v, b', rfl, rfl, hb', rfl⟩
        exact ⟨rfl, b', by omega, rfl⟩
      · obtain ⟨_, b3, hb3, rfl⟩ := h
        refine ef_one ((dr_cuts (q := q0) T4 1 rfl (ee_ixL ((ee_var 2)).el ee_int ((by rw [hqq]; rfl))) hq0 (by omega) rfl).imp ?_)
        rintro d env' ⟨v, b', rfl, rfl, hb', rfl⟩
        exact ⟨rfl, b', rfl⟩
      · rintro d env' ⟨rfl, b', rfl⟩
        exact ⟨.scr ns, rfl, rfl, fun v H' h => ⟨_, _, rfl, h⟩⟩
end Tf
end
section
set_option maxHeartbeats 2000000
namespace Tf
open PySem PySem.Spec PyProof.Rows L2 LamX NdefX TfH
/-! The join: what the head leaves, each def in turn, the law. -/
section
variable {w : World} {K : PySem.W.Frag} {h : Heap} {mg : Str → Option Value}
theorem glo_at (KX : K.In h) (G : h.Ns mainGlobals mg) (c : He.SaysX fa fn ts tf exB w h K) {x : Str} (hx : He.Fa.glo x ∈ fa) : mg x = some (.ref (He.ga K x)) := He.glo_ok KX G (c.t.d.facts hx)
theorem std_at (KX : K.In h) (G : h.Ns mainGlobals mg) (c : He.SaysX fa fn ts tf exB w h K) {x y : Str} {i : Nat} (k : Nat) (hk : fn[k]? = some ⟨(x, none), y, y, defArgs (top i), defBody (top i), defScope (top i), [], []⟩) (hx : He.Fa.glo x ∈ fa) : Std K mg x y i := by
  obtain ⟨fd, F⟩ := c.t.d.def_ k hk
  exact ⟨_, fd, glo_at KX G c hx, F⟩
theorem stdC_at (KX : K.In h) (G : h.Ns mainGlobals mg) (c : He.SaysX fa fn ts tf exB w h K) {x : Str} {i : Nat} (k : Nat) (hk : fn[k]? = some ⟨(x, none), x, x, defArgs (top i), defBody (top i), defScope (top i), [], []⟩) (hx : He.Fa.glo x ∈ fa) : StdC K mg x x i (He.cT K (x, none)).1 := by
  obtain ⟨fd, F⟩ := c.t.d.def_ k hk
  have F : FunD K x x (defArgs (top i)) (defBody (top i)) (defScope (top i)) [] [] (He.fAd K (x, none)) fd := F
  refine ⟨_, fd, glo_at KX G c hx, F, ?_⟩
  obtain ⟨oc, od, dV, kV, doc, pm, an, cdv, ct, osl, rfl, lk, hcd, _, _⟩ := F.ex
  obtain ⟨cc, hcc⟩ := He.codeIn_ref hcd
  subst hcc
  exact congrArg Value.ref (He.codeOf_eq (c := cc) lk rfl).symm
theorem gd_at (KX : K.In h) (G : h.Ns mainGlobals mg) (c : He.SaysX fa fn ts tf exB w h K) {x : Str} {ns : List Int} {vs : List He.Dv} (hx : He.Fa.glo x ∈ fa) (ht : He.tupB K x vs = true) (hv : vs.map (He.Dv.v K) = ns.map V.int) : Gd K mg x (tI ns) :=
  ⟨_, glo_at KX G c hx, fun H => .tup (by have := He.tupB_ok ht H; rw [hv] at this; exact this) (dpa_of_ints ns)⟩
theorem ex_at (c : He.SaysX fa fn ts tf exB w h K) : He.tupB K "MANY_WORDS" [.int 1, .int 2, .int 4, .int 8, .int 16, .int 32, .int 64] = true ∧ He.tupB K "PRIMES" [.int 2, .int 3, .int 5, .int 7, .int 11, .int 13, .int 17, .int 19, .int 23, .int 29, .int 31, .int 37, .int 41, .int 43, .int 47, .int 53, .int 59, .int 61, .int 67, .int 71, .int 73, .int 79, .int 83, .int 89, .int 97] = true ∧
    (∃ t, PySem.W.nsIn K (He.ga K "PARTS") "rank" = some (some (.int 4 t))) ∧ PySem.W.nsIn K (He.ga K "SHOWN") "rank" = some (some (.ref (He.ga K "rank_shown"))) ∧ (He.cT K ("both", none)).2 ≠ (He.cT K ("times", none)).2 := by
  have m := c.more
  unfold exB at m
  obtain ⟨h1, m⟩ := He.ba m
  obtain ⟨h2, m⟩ := He.ba m
  obtain ⟨h3, m⟩ := He.ba m
  obtain ⟨h4, m⟩ := He.ba m
  refine ⟨h1, h2, ?_, ?_, ?_⟩
  · split at h3
    · next i t e =>
      obtain rfl := of_decide_eq_true h3
      exact ⟨t, e⟩
    · cases h3
  · split at h4
    · next f e =>
      obtain rfl := of_decide_eq_true h4
      exact e
    · cases h4
  · simpa using m
end

section
variable {P : Program} {w : World} {K : PySem.W.Frag} {h : Heap} {mg : Str → Option Value}
theorem txt_at (KX : K.In h) (G : h.Ns mainGlobals mg) (c : He.SaysX fa fn ts tf exB w h K) : Txt K mg :=
  ⟨He.free_ok KX G (c.t.d.facts (f := .free "len") (List.mem_of_getElem? (i := 66) rfl)), He.free_ok KX G (c.t.d.facts (f := .free "list") (List.mem_of_getElem? (i := 67) rfl)), He.free_ok KX G (c.t.d.facts (f := .free "tuple") (List.mem_of_getElem? (i := 68) rfl)), He.free_ok KX G (c.t.d.facts (f := .free "sum") (List.mem_of_getElem? (i := 69) rfl)), He.free_ok KX G (c.t.d.facts (f := .free "all") (List.mem_of_getElem? (i := 70) rfl)), He.free_ok KX G (c.t.d.facts (f := .free "isinstance") (List.mem_of_getElem? (i := 71) rfl)), He.free_ok KX G (c.t.d.facts (f := .free "int") (List.mem_of_getElem? (i := 72) rfl)), He.free_ok KX G (c.t.d.facts (f := .free "bool") (List.mem_of_getElem? (i := 73) rfl)), He.free_ok KX G (c.t.d.facts (f := .free "str") (List.mem_of_getElem? (i := 74) rfl)), He.free_ok KX G (c.t.d.facts (f := .free "range") (List.mem_of_getElem? (i := 75) rfl)), He.free_ok KX G (c.t.d.facts (f := .free "enumerate") (List.mem_of_getElem? (i := 76) rfl)), He.free_ok KX G (c.t.d.facts (f := .free "zip") (List.mem_of_getElem? (i := 77) rfl)), He.free_ok KX G (c.t.d.facts (f := .free "sorted") (List.mem_of_getElem? (i := 78) rfl)), He.free_ok KX G (c.t.d.facts (f := .free "abs") (List.mem_of_getElem? (i := 79) rfl)), He.free_ok KX G (c.t.d.facts (f := .free "min") (List.mem_of_getElem? (i := 80) rfl))⟩
/-- the code tables of both and times -/
def TTof (K : PySem.W.Frag) : List NTab := [((He.cT K ("both", none)).2, nmBoth), ((He.cT K ("times", none)).2, nmTimes)]
set_option maxHeartbeats 4000000 in
theorem law_at (KX : K.In h) (G : h.Ns mainGlobals mg) (c : He.SaysX fa fn ts tf exB w h K) {base : Heap} (TB : ∀ p ∈ tf.map (He.cT K), TabB base mg p.1 p.2) {fd : FuncData} (F : FunD K "law" "law" (defArgs (top 184)) (defBody (top 184)) (defScope (top 184)) [] [] (He.ga K "law") fd) : FnOk P w K mg base CX0 15 (He.ga K "law") fd ["_law_script"] (spM K (TTof K) G_law R_law) := by
  have T := txt_at KX G c
  obtain ⟨x1, x2, ⟨t4, x3⟩, x4, x5⟩ := ex_at c
  have gM : Gd K mg "MANY_WORDS" (tI manyL) := gd_at KX G c (List.mem_of_getElem? (i := 62) rfl) x1 rfl
  have gP : Gd K mg "PRIMES" (tI primesL) := gd_at KX G c (List.mem_of_getElem? (i := 63) rfl) x2 rfl
  have gI : ∃ t, mg "MOST_ANSWER_tables" = some (.int 99 t) := He.int_ok KX G (c.t.d.facts (List.mem_of_getElem? (i := 81) rfl))
  have g4 : ∃ t, Gk K w mg "PARTS" "rank" (.int 4 t) := by
    obtain ⟨es, n, kd⟩ := c.t.tab 0 rfl
    exact ⟨t4, _, es, n, glo_at KX G c (List.mem_of_getElem? (i := 64) rfl), kd, x3⟩
  have gSh : Gk K w mg "SHOWN" "rank" (.ref (He.ga K "rank_shown")) := by
    obtain ⟨es, n, kd⟩ := c.t.tab 1 rfl
    exact ⟨_, es, n, glo_at KX G c (List.mem_of_getElem? (i := 65) rfl), kd, x4⟩
  have TB_both : TabB base mg (He.cT K ("both", none)).1 (He.cT K ("both", none)).2 := TB _ (List.mem_map.mpr ⟨_, List.mem_of_getElem? (i := 0) rfl, rfl⟩)
  have TB_times : TabB base mg (He.cT K ("times", none)).1 (He.cT K ("times", none)).2 := TB _ (List.mem_map.mpr ⟨_, List.mem_of_getElem? (i := 1) rfl, rfl⟩)
  generalize hTT : TTof K = TT
  have hm_both : ((He.cT K ("both", none)).2, nmBoth) ∈ TT := by rw [← hTT]; exact List.mem_cons_self
  have hm_times : ((He.cT K ("times", none)).2, nmTimes) ∈ TT := by rw [← hTT]; exact List.mem_cons_of_mem _ List.mem_cons_self
  have hu_both : ∀ p ∈ TT, p.1 = (He.cT K ("both", none)).2 → p.2 = nmBoth := by
    rw [← hTT]
    intro p hp e
    rcases List.mem_cons.mp hp with rfl | hp
    · rfl
    · obtain rfl := List.mem_singleton.mp hp
      exact absurd e.symm x5
  have hu_times : ∀ p ∈ TT, p.1 = (He.cT K ("times", none)).2 → p.2 = nmTimes := by
    rw [← hTT]
    intro p hp e
    rcases List.mem_cons.mp hp with rfl | hp
    · exact absurd e x5
    · obtain rfl := List.mem_singleton.mp hp
      rfl
  have T_is_whole_tables := def_is_whole (P := P) (w := w) (base := base) T (std_at KX G c 60 rfl (List.mem_of_getElem? (i := 60) rfl))
  have T_is_answer := def_is_answer (P := P) (w := w) (base := base) T gI T_is_whole_tables (std_at KX G c 14 rfl (List.mem_of_getElem? (i := 14) rfl))
  have T_are_answers := def_are_answers (P := P) (w := w) (base := base) T T_is_answer (std_at KX G c 15 rfl (List.mem_of_getElem? (i := 15) rfl))
  have T_common := def_common (P := P) (w := w) (base := base) T (std_at KX G c 0 rfl (List.mem_of_getElem? (i := 0) rfl))
  have T_lessened := def_lessened (P := P) (w := w) (base := base) T T_common (std_at KX G c 1 rfl (List.mem_of_getElem? (i := 1) rfl))
  have T_led_down := def_led_down (P := P) (w := w) (base := base) T T_lessened (std_at KX G c 2 rfl (List.mem_of_getElem? (i := 2) rfl))
  have T_ranked := def_ranked (P := P) (w := w) (base := base) T T_led_down (std_at KX G c 3 rfl (List.mem_of_getElem? (i := 3) rfl))
  have T_is_table := def_is_table (P := P) (w := w) (base := base) T T_are_answers (std_at KX G c 16 rfl (List.mem_of_getElem? (i := 16) rfl))
  have T_are_whole := def_are_whole (P := P) (w := w) (base := base) T T_is_whole_tables (std_at KX G c 26 rfl (List.mem_of_getElem? (i := 26) rfl))
  have T_are_places := def_are_places (P := P) (w := w) (base := base) T T_is_whole_tables (std_at KX G c 27 rfl (List.mem_of_getElem? (i := 27) rfl))
  have T_is_nought := def_is_nought (P := P) (w := w) (base := base) T (std_at KX G c 28 rfl (List.mem_of_getElem? (i := 28) rfl))
  have T_makes := def_makes (P := P) (w := w) (base := base) T T_is_whole_tables T_are_whole T_is_nought (std_at KX G c 29 rfl (List.mem_of_getElem? (i := 29) rfl))
  have T_row_with := def_row_with (P := P) (w := w) (base := base) T (std_at KX G c 22 rfl (List.mem_of_getElem? (i := 22) rfl))
  have T_cleared_below := def_cleared_below (P := P) (w := w) (base := base) T (std_at KX G c 23 rfl (List.mem_of_getElem? (i := 23) rfl))
  have T_determinant := def_determinant (P := P) (w := w) (base := base) T T_row_with T_cleared_below (std_at KX G c 24 rfl (List.mem_of_getElem? (i := 24) rfl))
  have T_stands := def_stands (P := P) (w := w) (base := base) T T_determinant (std_at KX G c 25 rfl (List.mem_of_getElem? (i := 25) rfl))
  have T_ranked_holds := def_ranked_holds (P := P) (w := w) (base := base) T T_are_places T_makes T_stands (std_at KX G c 30 rfl (List.mem_of_getElem? (i := 30) rfl))
  have T_is_below_words := def_is_below_words (P := P) (w := w) (base := base) T (std_at KX G c 61 rfl (List.mem_of_getElem? (i := 61) rfl))
  have T_is_prime := def_is_prime (P := P) (w := w) (base := base) T gP T_is_below_words (std_at KX G c 39 rfl (List.mem_of_getElem? (i := 39) rfl))
  have T_rank_shown := def_rank_shown (P := P) (w := w) (base := base) T T_is_table T_is_prime T_is_below_words T_ranked_holds (std_at KX G c 40 rfl (List.mem_of_getElem? (i := 40) rfl))
  have gS : ∃ f fd, FnOk P w K mg base CX0 5 f fd ["thing"] (spD K R_rank_shown) ∧ PySem.W.keepIn K (.ref f) = true ∧ L2.Binds K fd ["thing"] [] ∧ Gk K w mg "SHOWN" "rank" (.ref f) := by
    obtain ⟨f, fd, g1, g2, g3, g4⟩ := T_rank_shown.ex
    obtain rfl : f = He.ga K "rank_shown" := Value.ref.inj (Option.some.inj (g2.symm.trans (glo_at KX G c (List.mem_of_getElem? (i := 40) rfl))))
    exact ⟨_, fd, g1, g3, g4, gSh⟩
  have T_finding_holds := def_finding_holds (P := P) (w := w) (base := base) T g4 gS (std_at KX G c 41 rfl (List.mem_of_getElem? (i := 41) rfl))
  have T__law_rank := def_law_rank (P := P) (w := w) (base := base) T T_ranked T_ranked_holds T_finding_holds (std_at KX G c 50 rfl (List.mem_of_getElem? (i := 50) rfl))
  have T_inverse := def_inverse (P := P) (w := w) (base := base) T (std_at KX G c 11 rfl (List.mem_of_getElem? (i := 11) rfl))
  have T_expressed := def_expressed (P := P) (w := w) (base := base) T T_inverse (std_at KX G c 12 rfl (List.mem_of_getElem? (i := 12) rfl))
  have T_factors := def_factors (P := P) (w := w) (base := base) T T_ranked T_expressed (std_at KX G c 13 rfl (List.mem_of_getElem? (i := 13) rfl))
  have T_numbered := def_numbered (P := P) (w := w) (base := base) T (std_at KX G c 17 rfl (List.mem_of_getElem? (i := 17) rfl))
  have T_first_places := def_first_places (P := P) (w := w) (base := base) T T_numbered (std_at KX G c 18 rfl (List.mem_of_getElem? (i := 18) rfl))
  have T_unlike_rows := def_unlike_rows (P := P) (w := w) (base := base) T T_first_places (std_at KX G c 19 rfl (List.mem_of_getElem? (i := 19) rfl))
  have T_cut := def_cut (P := P) (w := w) (base := base) T gM (std_at KX G c 20 rfl (List.mem_of_getElem? (i := 20) rfl))
  have T_machine_of := def_machine_of (P := P) (w := w) (base := base) T T_cut T_numbered T_unlike_rows (std_at KX G c 21 rfl (List.mem_of_getElem? (i := 21) rfl))
  have T_sizes_of := def_sizes_of (P := P) (w := w) (base := base) T (std_at KX G c 31 rfl (List.mem_of_getElem? (i := 31) rfl))
  have T_summing_of := def_summing_of (P := P) (w := w) (base := base) T T_cut T_ranked T_expressed (std_at KX G c 42 rfl (List.mem_of_getElem? (i := 42) rfl))
  have T_sign_at := def_sign_at (P := P) (w := w) (base := base) T (std_at KX G c 32 rfl (List.mem_of_getElem? (i := 32) rfl))
  have T_told := def_told (P := P) (w := w) (base := base) T T_sign_at (std_at KX G c 33 rfl (List.mem_of_getElem? (i := 33) rfl))
  have T_first_wrong := def_first_wrong (P := P) (w := w) (base := base) T T_told (std_at KX G c 34 rfl (List.mem_of_getElem? (i := 34) rfl))
  have T_tells := def_tells (P := P) (w := w) (base := base) T T_first_wrong (std_at KX G c 35 rfl (List.mem_of_getElem? (i := 35) rfl))
  have T_with_sign := def_with_sign (P := P) (w := w) (base := base) T (std_at KX G c 36 rfl (List.mem_of_getElem? (i := 36) rfl))
  have T_ends_by := def_ends_by (P := P) (w := w) (base := base) T T_with_sign (std_at KX G c 37 rfl (List.mem_of_getElem? (i := 37) rfl))
  have T_ends_of := def_ends_of (P := P) (w := w) (base := base) T (T_ends_by 10) (std_at KX G c 38 rfl (List.mem_of_getElem? (i := 38) rfl))
  have T_so_often := def_so_often (P := P) (w := w) (base := base) T (std_at KX G c 7 rfl (List.mem_of_getElem? (i := 7) rfl))
  have T_second_tree := def_second (P := P) (w := w) (base := base) T (std_at KX G c 8 rfl (List.mem_of_getElem? (i := 8) rfl))
  have T_first_tree := def_first (P := P) (w := w) (base := base) T T_so_often (T_second_tree 5) (std_at KX G c 9 rfl (List.mem_of_getElem? (i := 9) rfl))
  have T_both_trees := def_both_trees (P := P) (w := w) (base := base) T (T_first_tree 5) (std_at KX G c 10 rfl (List.mem_of_getElem? (i := 10) rfl))
  have T__law_signs := def_law_signs (P := P) (w := w) (base := base) T (std_at KX G c 49 rfl (List.mem_of_getElem? (i := 49) rfl))
  have T__law_answer := def_law_answer (P := P) (w := w) (base := base) T (std_at KX G c 53 rfl (List.mem_of_getElem? (i := 53) rfl))
  have T__law_again := def_law_again (P := P) (w := w) (base := base) T T_factors (std_at KX G c 57 rfl (List.mem_of_getElem? (i := 57) rfl))
  have T__law_draw := def_law_draw (P := P) (w := w) (base := base) T (std_at KX G c 44 rfl (List.mem_of_getElem? (i := 44) rfl))
  have T_put_together := def_put_together (P := P) (w := w) (base := base) T (std_at KX G c 4 rfl (List.mem_of_getElem? (i := 4) rfl))
  have T_both := def_both (P := P) (w := w) (base := base) T_put_together TB_both hm_both hu_both (stdC_at KX G c 5 rfl (List.mem_of_getElem? (i := 5) rfl))
  have T_times := def_times (P := P) (w := w) (base := base) T_put_together TB_times hm_times hu_times (stdC_at KX G c 6 rfl (List.mem_of_getElem? (i := 6) rfl))
  have T__law_primes := def_law_primes (P := P) (w := w) (base := base) (std_at KX G c 45 rfl (List.mem_of_getElem? (i := 45) rfl))
  have T__law_rows_of := def_law_rows_of (P := P) (w := w) (base := base) T T__law_draw (std_at KX G c 46 rfl (List.mem_of_getElem? (i := 46) rfl))
  have T__law_table := def_law_table (P := P) (w := w) (base := base) T T__law_draw T__law_rows_of (std_at KX G c 47 rfl (List.mem_of_getElem? (i := 47) rfl))
  have T__law_question := def_law_question (P := P) (w := w) (base := base) T T__law_draw T__law_signs (std_at KX G c 48 rfl (List.mem_of_getElem? (i := 48) rfl))
  have T__law_small := def_law_small (P := P) (w := w) (base := base) T T__law_draw (std_at KX G c 51 rfl (List.mem_of_getElem? (i := 51) rfl))
  have T__law_tree := def_law_tree (P := P) (w := w) (base := base) T T__law_draw (std_at KX G c 52 rfl (List.mem_of_getElem? (i := 52) rfl))
  have T__law_multiplied_right := def_multiplied (P := P) (w := w) (base := base) (TT := TT) T T__law_small T_times T_both T__law_rank (std_at KX G c 54 rfl (List.mem_of_getElem? (i := 54) rfl))
  have T__law_trees_right := def_trees (P := P) (w := w) (base := base) (TT := TT) T T__law_draw (T__law_tree 3 (by omega)) T_both_trees T__law_answer T_ends_of T_tells T__law_rank (std_at KX G c 55 rfl (List.mem_of_getElem? (i := 55) rfl))
  have T__law_factors_right := def_factors_right (P := P) (w := w) (base := base) (TT := TT) T T__law_table T_factors T__law_rank (std_at KX G c 56 rfl (List.mem_of_getElem? (i := 56) rfl))
  have T__law_cuts_right := def_cuts (P := P) (w := w) (base := base) (TT := TT) T T__law_draw T__law_question T_machine_of T_cut T__law_again T__law_rank T_summing_of T_sizes_of (std_at KX G c 58 rfl (List.mem_of_getElem? (i := 58) rfl))
  have T__law_deck := def_law_deck (P := P) (w := w) (base := base) T (std_at KX G c 43 rfl (List.mem_of_getElem? (i := 43) rfl))
  exact fn_law F T T__law_deck T__law_primes T__law_draw T__law_multiplied_right T__law_trees_right T__law_factors_right T__law_cuts_right
theorem funD_at (c : He.SaysX fa fn ts tf exB w h K) : ∃ fd, FunD K "law" "law" (defArgs (top 184)) (defBody (top 184)) (defScope (top 184)) [] [] (He.ga K "law") fd := c.t.d.def_ 59 rfl
end
/-! ### the entry -/
theorem enter {K : PySem.W.Frag} {H : Hp} {a : Addr} {ns : List Int} (hT : ∀ p ∈ tf.map (He.cT K), H p.2 = some (.tbl #[])) (hS : SqL K H a (ns.map V.int)) : spM K (TTof K) G_law R_law [.ref a] H (fun v _ => v = .bl true) (fun _ _ _ => False) := by
  have hP : ∀ p ∈ TTof K, H p.1 = some (.tbl #[]) := fun p hp => by
    rcases List.mem_cons.mp hp with rfl | hp
    · exact hT _ (List.mem_map.mpr ⟨_, List.mem_of_getElem? (i := 0) rfl, rfl⟩)
    · obtain rfl := List.mem_singleton.mp hp
      exact hT _ (List.mem_map.mpr ⟨_, List.mem_of_getElem? (i := 1) rfl, rfl⟩)
  refine ⟨fun b => ∃ p ∈ TTof K, b = p.1, .ref a, [], .scr ns, [], rfl, ?_, trivial, ⟨a, rfl, ?_⟩, .nil, (fun s hs => nomatch hs), ?_, ?_, ⟨ns, rfl, rfl⟩, fun v H' r s0' hR _ _ res _ _ _ => ?_⟩
  · rintro b ⟨p, hp, rfl⟩
    rw [hP p hp]
    exact fun z => nomatch z
  · have nW : ∀ o : HO, (∀ ps, o ≠ .tbl ps) → H a = some o → ¬ ∃ p ∈ TTof K, a = p.1 := fun o ho e ⟨p, hp, z⟩ => by
      rw [z, hP p hp] at e
      exact ho _ (Option.some.inj e).symm
    rcases hS with (h | ⟨o, h⟩) | h
    · exact .inl (.inl (by rw [hide_at (nW (.lst (ns.map V.int)) (fun _ z => nomatch z) h)]; exact h))
    · exact .inl (.inr ⟨o, by rw [hide_at (nW (.frz o (.lst (ns.map V.int))) (fun _ z => nomatch z) h)]; exact h⟩)
    · exact .inr h
  · intro p hp
    exact ⟨#[], hP p hp, by trivial, fun pos cv h => by cases h⟩
  · exact fun p hp => ⟨⟨p, hp, rfl⟩, fun z => z⟩
  · have hR : r = .val (.bool true) := hR
    subst hR
    exact dp_bl_inv res
end Tf
open PySem PySem.W PySem.Calls PyProof.Rows
theorem PySem.Challenge.cw_tellfew_k85_whole_ranks_put_together_holds : PySem.Challenge.rw_tellfew_k85_whole_ranks_put_together.Holds := by
  w_on; o_law
  refine HandSHeadRun.head_any (r := OpenLaw.row PySem.Challenge.rw_tellfew_k85_whole_ranks_put_together) (q := view (OpenLaw.row PySem.Challenge.rw_tellfew_k85_whole_ranks_put_together).prog [184]) (H := TfH.hk) (ob := TfH.ob) (M := 8000) (loose := TfH.ls) (d := HandSHeadRun.topDef (OpenLaw.row PySem.Challenge.rw_tellfew_k85_whole_ranks_put_together).prog 184) (kwd := []) TfH.ob_eq
    (by kernel_rfl) (fun s => by kernel_rfl) (byRow2 "special-get-raises" TfH.run_false TfH.run_true) (by kernel_rfl) (by kernel_rfl) (by kernel_rfl) (by rfl) (by first | assumption | decide +kernel) (by decide +kernel) ⟨rfl, rfl, rfl, rfl, rfl, by decide +kernel⟩ ?hw ?hc
  case hw => w_witness2
  case hc =>
    refine LamX.walk_ofTsE (l := PySem.Challenge.rw_tellfew_k85_whole_ranks_put_together) (n := 63) (k := 15) (x := "_law_script") (CX := fun _ => L2.CX0) rfl (by decide) (by kernel_rfl) ⟨rfl, by decide, by decide⟩ ?F (fun _ _ _ _ _ z => z)
    intro w mg f h Y G hmg0
    obtain ⟨K, KX, c⟩ := Y
    have hmg : mg ("law" : PySem.Str) = some (.ref f) := by
      have e : (HandSHeadRun.topDef (OpenLaw.row PySem.Challenge.rw_tellfew_k85_whole_ranks_put_together).prog 184).name = ("law" : PySem.Str) := by kernel_rfl
      rw [← e]
      exact hmg0
    obtain ⟨fd, F⟩ := Tf.funD_at c
    have ef : f = He.ga K "law" := Value.ref.inj (Option.some.inj (hmg.symm.trans (Tf.glo_at KX G c (List.mem_of_getElem? (i := 59) rfl))))
    subst ef
    have b := L2.FunD.bindsA (ps := ["_law_script"]) F fun _ _ _ _ _ _ us hl => match us, hl with | [_], _ => rfl
    exact ⟨K, KX, fd, TfH.tf.map (He.cT K), Tf.spM K (Tf.TTof K) Tf.G_law Tf.R_law, fun p hp => by
      obtain ⟨q, hq, rfl⟩ := List.mem_map.mp hp
      exact c.empty q hq, fun p hp => by
      obtain ⟨q, hq, rfl⟩ := List.mem_map.mp hp
      exact c.out q hq, fun p hp => by
      obtain ⟨q, hq, rfl⟩ := List.mem_map.mp hp
      exact codeHd_of_K KX (c.hd q hq), fun s v => b s [v] rfl, fun H a ns _ _ hT hS => Tf.enter hT hS, fun base KB GB TB => Tf.law_at KX G c TB F⟩
end
