import PyProof.Rows.All
import Wide.All
import OpenK.AllK
import Wide.FinOn
import HandS.ForMost
import HandS.ReplaceList
import HandS.IsInst
import HandS.StrMore
import HandS.Style
import HandS.Replace
import PyProof.ToksMono
import KE.DataEq
import PySem.Challenge.RW_lightmark_k03_whole_sorts_of_any_rows
set_option Elab.async false
set_option linter.all false
set_option maxRecDepth 100000
set_option maxHeartbeats 4000000
/-! The plain law: rows as lists of codes. -/
namespace KM
open PySem
abbrev tx (l : List Nat) : Str := ⟨l.toArray⟩
theorem tl_tx (l : List Nat) : TL.tl (tx l) = l := rfl
theorem tx_tl (z : Str) : tx (TL.tl z) = z := TL.mk_tl z
theorem tx_inj {a b : List Nat} (h : tx a = tx b) : a = b := congrArg TL.tl h
theorem tx_len (l : List Nat) : (tx l).length = l.length := by rw [TL.len_tl, tl_tx]
/-! ### words -/
def wl : List Nat → List Nat → List (List Nat)
  | cur, [] => if cur = [] then [] else [cur]
  | cur, c :: r => if c = 32 then (if cur = [] then wl [] r else cur :: wl [] r) else wl (cur ++ [c]) r
def words (l : List Nat) : List (List Nat) := wl [] l
def tidy (l : List Nat) : List Nat := TL.joinL [32] (words l)
theorem wl_nil (cur : List Nat) : wl cur [] = if cur = [] then [] else [cur] := by rw [wl]
theorem wl_blank (cur r : List Nat) : wl cur (32 :: r) = if cur = [] then wl [] r else cur :: wl [] r := by rw [wl, if_pos rfl]
theorem wl_sign {cur r : List Nat} {c : Nat} (h : c ≠ 32) : wl cur (c :: r) = wl (cur ++ [c]) r := by rw [wl, if_neg h]
theorem spl_wl : ∀ (l cur : List Nat), (TL.spl [32] 0 cur l).filter (fun p => decide (p ≠ [])) = wl cur l
  | [], cur => by
    rw [TL.spl_nil, wl_nil]
    by_cases h : cur = []
    · rw [if_pos h, h]; rfl
    · rw [if_neg h]; simp [h]
  | c :: r, cur => by
    by_cases hc : c = 32
    · subst hc
      rw [TL.spl_hit (by rfl), wl_blank]
      have ih := spl_wl r []
      show List.filter _ (cur :: TL.spl [32] 0 [] r) = _
      by_cases h : cur = []
      · rw [if_pos h, h, List.filter_cons_of_neg (by simp)]
        exact ih
      · rw [if_neg h, List.filter_cons_of_pos (by simp [h]), ih]
    · rw [TL.spl_miss (TL.pre_of_head [] r hc), wl_sign hc]
      exact spl_wl r (cur ++ [c])
theorem wl_ok : ∀ (l cur : List Nat), 32 ∉ cur → ∀ p ∈ wl cur l, p ≠ [] ∧ 32 ∉ p
  | [], cur, hc, p, hp => by
    rw [wl_nil] at hp
    by_cases h : cur = []
    · rw [if_pos h] at hp; cases hp
    · rw [if_neg h] at hp
      rw [List.mem_singleton.mp hp]
      exact ⟨h, hc⟩
  | c :: r, cur, hc, p, hp => by
    by_cases h32 : c = 32
    · subst h32
      rw [wl_blank] at hp
      by_cases h : cur = []
      · rw [if_pos h] at hp
        exact wl_ok r [] (by simp) p hp
      · rw [if_neg h] at hp
        rcases List.mem_cons.mp hp with e | e
        · rw [e]; exact ⟨h, hc⟩
        · exact wl_ok r [] (by simp) p e
    · rw [wl_sign h32] at hp
      refine wl_ok r (cur ++ [c]) ?_ p hp
      intro z
      rcases List.mem_append.mp z with e | e
      · exact hc e
      · exact h32 (List.mem_singleton.mp e).symm
theorem words_ok {l p : List Nat} (h : p ∈ words l) : p ≠ [] ∧ 32 ∉ p := wl_ok l [] (by simp) p h
theorem wl_run : ∀ (p cur r : List Nat), 32 ∉ p → wl cur (p ++ r) = wl (cur ++ p) r
  | [], cur, r, _ => by rw [List.nil_append, List.append_nil]
  | c :: p, cur, r, h => by
    have hc : c ≠ 32 := fun e => h (by rw [e]; exact List.mem_cons_self ..)
    rw [List.cons_append, wl_sign hc, wl_run p (cur ++ [c]) r fun z => h (List.mem_cons_of_mem _ z), List.append_assoc]
    rfl
theorem words_front (r : List Nat) : words (32 :: r) = words r := by
  unfold words
  rw [wl_blank, if_pos rfl]
theorem wl_back : ∀ (l cur : List Nat), wl cur (l ++ [32]) = wl cur l
  | [], cur => by
    rw [List.nil_append, wl_blank, wl_nil, wl_nil, if_pos rfl]
  | c :: r, cur => by
    rw [List.cons_append]
    by_cases hc : c = 32
    · subst hc
      rw [wl_blank, wl_blank, wl_back r []]
    · rw [wl_sign hc, wl_sign hc, wl_back r _]
theorem words_back (l : List Nat) : words (l ++ [32]) = words l := wl_back l []
theorem words_one {p : List Nat} (h : 32 ∉ p) : words p = if p = [] then [] else [p] := by
  have e := wl_run p [] [] h
  rw [List.append_nil, List.nil_append] at e
  unfold words
  rw [e, wl_nil]
theorem words_cut {p r : List Nat} (h : 32 ∉ p) : words (p ++ 32 :: r) = (if p = [] then [] else [p]) ++ words r := by
  unfold words
  rw [wl_run p [] _ h, List.nil_append, wl_blank]
  by_cases e : p = []
  · rw [if_pos e, if_pos e]; rfl
  · rw [if_neg e, if_neg e]; rfl
theorem words_join : ∀ ps : List (List Nat), (∀ p ∈ ps, p ≠ [] ∧ 32 ∉ p) → words (TL.joinL [32] ps) = ps
  | [], _ => rfl
  | [p], h => by
    obtain ⟨h1, h2⟩ := h p (List.mem_singleton.mpr rfl)
    show words p = [p]
    rw [words_one h2, if_neg h1]
  | p :: q :: r, h => by
    obtain ⟨h1, h2⟩ := h p (List.mem_cons_self ..)
    show words (p ++ 32 :: TL.joinL [32] (q :: r)) = _
    rw [words_cut h2, if_neg h1, words_join (q :: r) fun x hx => h x (List.mem_cons_of_mem _ hx)]
    rfl
theorem words_tidy (l : List Nat) : words (tidy l) = words l := words_join _ fun _ hp => words_ok hp
theorem tidy_tidy (l : List Nat) : tidy (tidy l) = tidy l := by
  unfold tidy
  rw [show words (TL.joinL [32] (words l)) = words l from words_tidy l]
theorem wl_sum : ∀ (l cur : List Nat), ((wl cur l).map List.length).sum ≤ cur.length + l.length
  | [], cur => by
    rw [wl_nil]
    by_cases h : cur = []
    · rw [if_pos h]; exact Nat.zero_le _
    · rw [if_neg h]; simp
  | c :: r, cur => by
    by_cases hc : c = 32
    · subst hc
      rw [wl_blank]
      have ih := wl_sum r []
      rw [List.length_nil] at ih
      rw [List.length_cons]
      by_cases h : cur = []
      · rw [if_pos h]; omega
      · rw [if_neg h, List.map_cons, List.sum_cons]; omega
    · rw [wl_sign hc]
      have ih := wl_sum r (cur ++ [c])
      rw [List.length_append, List.length_singleton] at ih
      rw [List.length_cons]; omega
theorem len_sum : ∀ ps : List (List Nat), (∀ p ∈ ps, p ≠ []) → ps.length ≤ (ps.map List.length).sum
  | [], _ => Nat.le_refl _
  | p :: ps, h => by
    have h1 := len_sum ps fun q hq => h q (List.mem_cons_of_mem _ hq)
    have h2 : 0 < p.length := List.length_pos_iff.mpr (h p (List.mem_cons_self ..))
    rw [List.map_cons, List.sum_cons, List.length_cons]; omega
theorem words_sum (l : List Nat) : ((words l).map List.length).sum ≤ l.length := by
  have h := wl_sum l []
  rw [List.length_nil] at h
  unfold words; omega
theorem words_len (l : List Nat) : (words l).length ≤ l.length :=
  Nat.le_trans (len_sum _ fun _ hp => (words_ok hp).1) (words_sum l)
theorem mem_sum {ps : List (List Nat)} {p : List Nat} (h : p ∈ ps) : p.length ≤ (ps.map List.length).sum := by
  induction ps with
  | nil => cases h
  | cons q ps ih =>
    rw [List.map_cons, List.sum_cons]
    rcases List.mem_cons.mp h with e | e
    · rw [e]; omega
    · have := ih e; omega
theorem word_len {l p : List Nat} (h : p ∈ words l) : p.length ≤ l.length := Nat.le_trans (mem_sum h) (words_sum l)
theorem join_len : ∀ ps : List (List Nat), (TL.joinL [32] ps).length ≤ (ps.map List.length).sum + ps.length
  | [] => Nat.le_refl _
  | [p] => by
    show p.length ≤ _
    rw [List.map_cons, List.sum_cons]; omega
  | p :: q :: r => by
    have h := join_len (q :: r)
    show (p ++ ([32] ++ TL.joinL [32] (q :: r))).length ≤ _
    rw [List.length_append, List.length_append, List.map_cons, List.sum_cons]
    simp only [List.length_cons, List.length_nil] at h ⊢
    omega
theorem tidy_len (l : List Nat) : (tidy l).length ≤ 2 * l.length := by
  have h1 := join_len (words l)
  have h2 := words_sum l
  have h3 := words_len l
  unfold tidy; omega
/-! ### blanks at the ends -/
def ls (l : List Nat) : List Nat := l.dropWhile fun c => c == 32
def rs (l : List Nat) : List Nat := (l.reverse.dropWhile fun c => c == 32).reverse
def bg (l : List Nat) : Nat := (l.takeWhile fun c => c == 32).length
theorem words_ls : ∀ l : List Nat, words (ls l) = words l
  | [] => rfl
  | c :: r => by
    unfold ls
    by_cases h : c = 32
    · subst h
      rw [List.dropWhile_cons_of_pos (by rfl), words_front]
      exact words_ls r
    · rw [List.dropWhile_cons_of_neg (by simpa using h)]
theorem words_rsr : ∀ l : List Nat, words (l.dropWhile fun c => c == 32).reverse = words l.reverse
  | [] => rfl
  | c :: r => by
    by_cases h : c = 32
    · subst h
      rw [List.dropWhile_cons_of_pos (by rfl), List.reverse_cons, words_back]
      exact words_rsr r
    · rw [List.dropWhile_cons_of_neg (by simpa using h)]
theorem words_rs (l : List Nat) : words (rs l) = words l := by
  unfold rs
  rw [words_rsr, List.reverse_reverse]
theorem tidy_ls (l : List Nat) : tidy (ls l) = tidy l := by unfold tidy; rw [words_ls]
theorem tidy_rs (l : List Nat) : tidy (rs l) = tidy l := by unfold tidy; rw [words_rs]
theorem tidy_front (l : List Nat) : tidy (32 :: l) = tidy l := by unfold tidy; rw [words_front]
theorem ls_drop : ∀ l : List Nat, ls l = l.drop (bg l)
  | [] => rfl
  | c :: r => by
    unfold ls bg
    by_cases h : c = 32
    · subst h
      rw [List.dropWhile_cons_of_pos (by rfl), List.takeWhile_cons_of_pos (by rfl), List.length_cons, List.drop_succ_cons]
      exact ls_drop r
    · rw [List.dropWhile_cons_of_neg (by simpa using h), List.takeWhile_cons_of_neg (by simpa using h)]
      rfl
theorem bg_le (l : List Nat) : bg l ≤ l.length := (List.takeWhile_sublist _).length_le
/-- the row without blanks at its end: a beginning of the row, the last sign no blank -/
theorem rs_pre (l : List Nat) : ∃ n, l = rs l ++ List.replicate n 32 := by
  have key : ∀ m : List Nat, ∃ n, m = List.replicate n 32 ++ m.dropWhile fun c => c == 32 := by
    intro m
    induction m with
    | nil => exact ⟨0, rfl⟩
    | cons c r ih =>
      by_cases h : c = 32
      · subst h
        obtain ⟨n, e⟩ := ih
        refine ⟨n + 1, ?_⟩
        rw [List.dropWhile_cons_of_pos (by rfl), List.replicate_succ, List.cons_append, ← e]
      · exact ⟨0, by rw [List.dropWhile_cons_of_neg (by simpa using h)]; rfl⟩
  obtain ⟨n, e⟩ := key l.reverse
  refine ⟨n, ?_⟩
  have e2 := congrArg List.reverse e
  rw [List.reverse_reverse, List.reverse_append, List.reverse_replicate] at e2
  exact e2
theorem rs_last (l : List Nat) : (rs l).getLast? ≠ some 32 := by
  unfold rs
  rw [List.getLast?_reverse]
  cases e : l.reverse.dropWhile fun c => c == 32 with
  | nil => simp
  | cons c r =>
    have h := List.head?_dropWhile_not (fun c : Nat => c == 32) l.reverse
    rw [e] at h
    simp only [List.head?_cons] at h ⊢
    intro z
    have z' : c = 32 := Option.some.inj z
    rw [z'] at h
    simp at h
theorem rs_len (l : List Nat) : (rs l).length ≤ l.length := by
  obtain ⟨n, e⟩ := rs_pre l
  have := congrArg List.length e
  rw [List.length_append] at this; omega
theorem rs_take (l : List Nat) : l.take (rs l).length = rs l := by
  obtain ⟨n, e⟩ := rs_pre l
  have h : ∀ m : List Nat, m = rs l ++ List.replicate n 32 → m.take (rs l).length = rs l := fun m hm => by rw [hm, List.take_left]
  exact h l e
theorem rs_snoc (l : List Nat) : rs (l ++ [32]) = rs l := by
  unfold rs
  rw [List.reverse_append, List.reverse_singleton, List.singleton_append, List.dropWhile_cons_of_pos (by rfl)]
theorem rs_snoc_ne {l : List Nat} {c : Nat} (h : c ≠ 32) : rs (l ++ [c]) = l ++ [c] := by
  unfold rs
  rw [List.reverse_append, List.reverse_singleton, List.singleton_append, List.dropWhile_cons_of_neg (by simpa using h), List.reverse_cons, List.reverse_reverse]
theorem bg_all {l : List Nat} (h : bg l = l.length) : rs l = [] := by
  have e : ∀ m : List Nat, bg m = m.length → ∀ c ∈ m, c = 32 := by
    intro m
    induction m with
    | nil => intro _ c hc; cases hc
    | cons d r ih =>
      intro hm c hc
      unfold bg at hm
      by_cases hd : d = 32
      · subst hd
        rw [List.takeWhile_cons_of_pos (by rfl), List.length_cons, List.length_cons] at hm
        rcases List.mem_cons.mp hc with z | z
        · exact z
        · exact ih (by unfold bg; omega) c z
      · rw [List.takeWhile_cons_of_neg (by simpa using hd), List.length_nil, List.length_cons] at hm
        omega
  have all := e l h
  cases q : (rs l).getLast? with
  | none => exact List.getLast?_eq_none_iff.mp q
  | some c =>
    have hm : c ∈ rs l := List.mem_of_getLast? q
    have hm2 : c ∈ l := by
      obtain ⟨n, e⟩ := rs_pre l
      rw [e]
      exact List.mem_append_left _ hm
    rw [all c hm2] at q
    exact absurd q (rs_last l)
theorem bg_at {l : List Nat} (h : bg l < l.length) : ∃ c, l[bg l]? = some c ∧ c ≠ 32 := by
  have e : ∀ m : List Nat, bg m < m.length → ∃ c, m[bg m]? = some c ∧ c ≠ 32 := by
    intro m
    induction m with
    | nil => intro hm; exact absurd hm (Nat.not_lt_zero _)
    | cons d r ih =>
      intro hm
      by_cases hd : d = 32
      · subst hd
        have e1 : bg (32 :: r) = bg r + 1 := by
          unfold bg
          rw [List.takeWhile_cons_of_pos (by rfl), List.length_cons]
        rw [e1, List.length_cons] at hm
        obtain ⟨c, h1, h2⟩ := ih (by omega)
        exact ⟨c, by rw [e1, List.getElem?_cons_succ]; exact h1, h2⟩
      · have e1 : bg (d :: r) = 0 := by
          unfold bg
          rw [List.takeWhile_cons_of_neg (by simpa using hd)]
          rfl
        exact ⟨d, by rw [e1]; rfl, hd⟩
  exact e l h
theorem bg_lt_rs {l : List Nat} (h : bg l < l.length) : bg l < (rs l).length := by
  obtain ⟨c, h1, h2⟩ := bg_at h
  obtain ⟨n, e⟩ := rs_pre l
  refine Nat.lt_of_not_le fun hle => ?_
  have h3 : (rs l ++ List.replicate n 32)[bg l]? = some c := by rw [← e]; exact h1
  rw [List.getElem?_append_right hle, List.getElem?_replicate] at h3
  split at h3
  · exact h2 (Option.some.inj h3).symm
  · cases h3
theorem bg_rs {l : List Nat} (h : bg l < l.length) : bg (rs l) = bg l := by
  have key : ∀ (a b : List Nat), bg (a ++ b) < a.length → bg a = bg (a ++ b) := by
    intro a
    induction a with
    | nil => intro b hb; exact absurd hb (Nat.not_lt_zero _)
    | cons d r ih =>
      intro b hb
      by_cases hd : d = 32
      · subst hd
        have e1 : bg (32 :: r) = bg r + 1 := by
          unfold bg
          rw [List.takeWhile_cons_of_pos (by rfl), List.length_cons]
        have e2 : bg (32 :: r ++ b) = bg (r ++ b) + 1 := by
          unfold bg
          rw [List.cons_append, List.takeWhile_cons_of_pos (by rfl), List.length_cons]
        rw [e2, List.length_cons] at hb
        rw [e1, e2, ih b (by omega)]
      · unfold bg
        rw [List.cons_append, List.takeWhile_cons_of_neg (by simpa using hd), List.takeWhile_cons_of_neg (by simpa using hd)]
  obtain ⟨n, e⟩ := rs_pre l
  have hlt := bg_lt_rs h
  have e3 : bg (rs l ++ List.replicate n 32) = bg l := by rw [← e]
  have h4 := key (rs l) (List.replicate n 32) (by rw [e3]; exact hlt)
  rw [h4, e3]
theorem ls_rs {l : List Nat} (h : bg l < l.length) : ls (rs l) = (rs l).drop (bg l) := by rw [ls_drop, bg_rs h]
theorem ls_rs_nil (l : List Nat) : ls (rs l) = [] ↔ bg l = l.length := by
  constructor
  · intro h
    refine Nat.le_antisymm (bg_le l) (Nat.le_of_not_lt fun hlt => ?_)
    rw [ls_rs hlt] at h
    have := congrArg List.length h
    rw [List.length_drop, List.length_nil] at this
    have := bg_lt_rs hlt
    omega
  · intro h
    rw [bg_all h]
    rfl
/-- where the law's end is -/
def en (l : List Nat) : Nat := if bg l = l.length then bg l else (rs l).length
end KM
namespace KM
open PySem
/-! ### cells -/
/-- the program's going: the sign ahead, the text so far -/
def cp : List Nat → List Nat → List Nat → List (List Nat)
  | _, cur, [] => [cur]
  | a, cur, c :: r => if c = 124 ∧ a ≠ [92] then cur :: cp [c] [] r else cp [c] (cur ++ [c]) r
/-- the law's -/
def cw : List Nat → List Nat → List Nat → List (List Nat)
  | _, cur, [] => [cur]
  | a, cur, c :: r => if c ≠ 124 then cw [c] (cur ++ [c]) r else if a = [92] then cw [c] (cur.dropLast ++ [124]) r else cur :: cw [c] [] r
/-- a backslash with a bar behind becomes the bar -/
def un : List Nat → List Nat
  | [] => []
  | [c] => [c]
  | c :: d :: r => if c = 92 ∧ d = 124 then 124 :: un r else c :: un (d :: r)
theorem un_hit (r : List Nat) : un (92 :: 124 :: r) = 124 :: un r := by rw [un, if_pos ⟨rfl, rfl⟩]
theorem un_miss {c d : Nat} {r : List Nat} (h : ¬ (c = 92 ∧ d = 124)) : un (c :: d :: r) = c :: un (d :: r) := by rw [un, if_neg h]
theorem un_nil : un [] = [] := by rw [un]
theorem un_one (c : Nat) : un [c] = [c] := by rw [un]
theorem un_replN : ∀ (n : Nat) (l : List Nat), l.length ≤ n → PySem.StrLaws.replL [92, 124] [124] l = un l
  | _, [], _ => by rw [PySem.StrLaws.replL_nil, un_nil]
  | 0, _ :: _, h => absurd h (by simp)
  | n + 1, [c], h => by
    rw [PySem.StrLaws.replL_miss (by simp), PySem.StrLaws.replL_nil, un_one]
  | n + 1, c :: d :: r, h => by
    have hl : (d :: r).length ≤ n := by rw [List.length_cons] at h; omega
    by_cases hc : c = 92 ∧ d = 124
    · obtain ⟨rfl, rfl⟩ := hc
      rw [PySem.StrLaws.replL_hit (by simp) (by rfl), un_hit]
      show [124] ++ PySem.StrLaws.replL [92, 124] [124] r = _
      rw [un_replN n r (by rw [List.length_cons] at hl; omega)]
      rfl
    · rw [PySem.StrLaws.replL_miss (fun e => hc (by
        have e' : [c, d] = [92, 124] := e
        injection e' with e1 e2
        injection e2 with e2 _
        exact ⟨e1, e2⟩)), un_miss hc, un_replN n (d :: r) hl]
theorem un_repl (l : List Nat) : PySem.StrLaws.replL [92, 124] [124] l = un l := un_replN _ l (Nat.le_refl _)
theorem un_snocN : ∀ (n : Nat) (q : List Nat) (c : Nat), q.length ≤ n → (c ≠ 124 ∨ q.getLast? ≠ some 92) → un (q ++ [c]) = un q ++ [c]
  | _, [], c, _, _ => by rw [List.nil_append, un_one, un_nil]; rfl
  | 0, _ :: _, _, h, _ => absurd h (by simp)
  | n + 1, [x], c, _, h => by
    show un [x, c] = _
    rw [un_miss (fun z => by
      rcases h with h | h
      · exact h z.2
      · exact h (by rw [z.1]; rfl)), un_one, un_one]
    rfl
  | n + 1, x :: y :: q, c, hl, h => by
    have hl' : (y :: q).length ≤ n := by rw [List.length_cons] at hl; omega
    by_cases hx : x = 92 ∧ y = 124
    · obtain ⟨rfl, rfl⟩ := hx
      show un (92 :: 124 :: (q ++ [c])) = _
      rw [un_hit, un_hit, un_snocN n q c (by rw [List.length_cons] at hl'; omega) (by
        rcases h with h | h
        · exact .inl h
        · refine .inr fun z => h ?_
          cases q with
          | nil => cases z
          | cons a b =>
            rw [List.getLast?_cons_cons, List.getLast?_cons_cons]
            exact z)]
      rfl
    · show un (x :: y :: (q ++ [c])) = _
      rw [un_miss hx, un_miss hx]
      have ih := un_snocN n (y :: q) c hl' (by
        rcases h with h | h
        · exact .inl h
        · refine .inr fun z => h ?_
          rw [List.getLast?_cons_cons]
          exact z)
      rw [List.cons_append] at ih
      rw [ih]
      rfl
theorem un_snoc {q : List Nat} {c : Nat} (h : c ≠ 124 ∨ q.getLast? ≠ some 92) : un (q ++ [c]) = un q ++ [c] := un_snocN _ q c (Nat.le_refl _) h
theorem un_barN : ∀ (n : Nat) (q : List Nat), q.length ≤ n → un (q ++ [92, 124]) = un q ++ [124]
  | _, [], _ => by rw [List.nil_append, un_hit, un_nil]; rfl
  | 0, _ :: _, h => absurd h (by simp)
  | n + 1, [x], _ => by
    show un [x, 92, 124] = _
    rw [un_miss (by simp), un_hit, un_one, un_nil]
    rfl
  | n + 1, x :: y :: q, hl => by
    have hl' : (y :: q).length ≤ n := by rw [List.length_cons] at hl; omega
    by_cases hx : x = 92 ∧ y = 124
    · obtain ⟨rfl, rfl⟩ := hx
      show un (92 :: 124 :: (q ++ [92, 124])) = _
      rw [un_hit, un_hit, un_barN n q (by rw [List.length_cons] at hl'; omega)]
      rfl
    · show un (x :: y :: (q ++ [92, 124])) = _
      rw [un_miss hx, un_miss hx]
      have ih := un_barN n (y :: q) hl'
      rw [List.cons_append] at ih
      rw [ih]
      rfl
theorem un_bar (q : List Nat) : un (q ++ [92, 124]) = un q ++ [124] := un_barN _ q (Nat.le_refl _)
/-- the two goings agree -/
theorem cw_cp : ∀ (l a cur : List Nat), (a = [92] → cur.getLast? = some 92) → (a ≠ [92] → cur.getLast? ≠ some 92) → cw a (un cur) l = (cp a cur l).map un
  | [], a, cur, _, _ => by rw [cw, cp]; rfl
  | c :: r, a, cur, h1, h2 => by
    by_cases hc : c = 124
    · subst hc
      by_cases ha : a = [92]
      · have hl := h1 ha
        obtain ⟨q, rfl⟩ : ∃ q, cur = q ++ [92] := ⟨cur.dropLast, by
          cases cur with
          | nil => cases hl
          | cons x y =>
            have e := List.dropLast_concat_getLast (List.cons_ne_nil x y)
            rw [List.getLast?_eq_some_getLast (List.cons_ne_nil x y)] at hl
            rw [Option.some.inj hl] at e
            exact e.symm⟩
        have e1 : cw a (un (q ++ [92])) (124 :: r) = cw [124] ((un (q ++ [92])).dropLast ++ [124]) r := by
          rw [cw, if_neg (by simp), if_pos ha]
        have e2 : cp a (q ++ [92]) (124 :: r) = cp [124] (q ++ [92] ++ [124]) r := by
          rw [cp, if_neg (by simp [ha])]
        rw [e1, e2, un_snoc (.inl (by decide)), List.dropLast_concat]
        have e3 : un (q ++ [92] ++ [124]) = un q ++ [124] := by
          rw [List.append_assoc]
          exact un_bar q
        rw [← e3]
        exact cw_cp r [124] _ (by simp) (fun _ => by rw [List.getLast?_concat]; decide)
      · have e1 : cw a (un cur) (124 :: r) = un cur :: cw [124] [] r := by
          rw [cw, if_neg (by simp), if_neg ha]
        have e2 : cp a cur (124 :: r) = cur :: cp [124] [] r := by
          rw [cp, if_pos ⟨rfl, ha⟩]
        rw [e1, e2, List.map_cons]
        have ih := cw_cp r [124] [] (by simp) (by simp)
        rw [un_nil] at ih
        rw [ih]
    · have e1 : cw a (un cur) (c :: r) = cw [c] (un cur ++ [c]) r := by rw [cw, if_pos hc]
      have e2 : cp a cur (c :: r) = cp [c] (cur ++ [c]) r := by rw [cp, if_neg (fun z => hc z.1)]
      rw [e1, e2, ← un_snoc (.inl hc)]
      refine cw_cp r [c] _ (fun z => ?_) (fun z => ?_)
      · rw [List.getLast?_concat]
        injection z with z _
        rw [z]
      · rw [List.getLast?_concat]
        intro e
        exact z (by rw [Option.some.inj e])
theorem un_mid : ∀ (n : Nat) (a b : List Nat), a.length ≤ n → un (a ++ 32 :: b) = un a ++ 32 :: un b
  | _, [], b, _ => by
    cases b with
    | nil => rw [List.nil_append, un_one, un_nil]; rfl
    | cons x y => rw [List.nil_append, un_miss (by simp), un_nil]; rfl
  | 0, _ :: _, _, h => absurd h (by simp)
  | n + 1, [x], b, _ => by
    show un (x :: 32 :: b) = _
    have e := un_mid n [] b (Nat.zero_le _)
    rw [List.nil_append, un_nil, List.nil_append] at e
    rw [un_miss (by simp), e, un_one]
    rfl
  | n + 1, x :: y :: a, b, hl => by
    have hl' : (y :: a).length ≤ n := by rw [List.length_cons] at hl; omega
    by_cases hx : x = 92 ∧ y = 124
    · obtain ⟨rfl, rfl⟩ := hx
      show un (92 :: 124 :: (a ++ 32 :: b)) = _
      rw [un_hit, un_hit, un_mid n a b (by rw [List.length_cons] at hl'; omega)]
      rfl
    · show un (x :: y :: (a ++ 32 :: b)) = _
      rw [un_miss hx, un_miss hx]
      have ih := un_mid n (y :: a) b hl'
      rw [List.cons_append] at ih
      rw [ih]
      rfl
theorem un_blank (a b : List Nat) : un (a ++ 32 :: b) = un a ++ 32 :: un b := un_mid _ a b (Nat.le_refl _)
theorem un_mem : ∀ (n : Nat) (a : List Nat), a.length ≤ n → ∀ c ∈ un a, c ∈ a
  | _, [], _, c, h => by rw [un_nil] at h; cases h
  | 0, _ :: _, h, _, _ => absurd h (by simp)
  | n + 1, [x], _, c, h => by rw [un_one] at h; exact h
  | n + 1, x :: y :: a, hl, c, h => by
    have hl' : (y :: a).length ≤ n := by rw [List.length_cons] at hl; omega
    by_cases hx : x = 92 ∧ y = 124
    · obtain ⟨rfl, rfl⟩ := hx
      rw [un_hit] at h
      rcases List.mem_cons.mp h with e | e
      · rw [e]; simp
      · have := un_mem n a (by rw [List.length_cons] at hl'; omega) c e
        simp [this]
    · rw [un_miss hx] at h
      rcases List.mem_cons.mp h with e | e
      · rw [e]; simp
      · have := un_mem n (y :: a) hl' c e
        exact List.mem_cons_of_mem _ this
theorem un_empty (a : List Nat) : un a = [] ↔ a = [] := by
  cases a with
  | nil => rw [un_nil]
  | cons x y =>
    cases y with
    | nil => rw [un_one]
    | cons z y =>
      by_cases hx : x = 92 ∧ z = 124
      · obtain ⟨rfl, rfl⟩ := hx
        rw [un_hit]; simp
      · rw [un_miss hx]; simp
theorem un_len : ∀ (n : Nat) (a : List Nat), a.length ≤ n → (un a).length ≤ a.length
  | _, [], _ => by rw [un_nil]; exact Nat.le_refl _
  | 0, _ :: _, h => absurd h (by simp)
  | n + 1, [x], _ => by rw [un_one]; exact Nat.le_refl _
  | n + 1, x :: y :: a, hl => by
    have hl' : (y :: a).length ≤ n := by rw [List.length_cons] at hl; omega
    by_cases hx : x = 92 ∧ y = 124
    · obtain ⟨rfl, rfl⟩ := hx
      have := un_len n a (by rw [List.length_cons] at hl'; omega)
      rw [un_hit]
      simp only [List.length_cons]; omega
    · have := un_len n (y :: a) hl'
      rw [un_miss hx]
      simp only [List.length_cons] at this ⊢; omega
/-- a list is blank-free or parts at its first blank -/
theorem blank_split : ∀ l : List Nat, 32 ∉ l ∨ ∃ p r, l = p ++ 32 :: r ∧ 32 ∉ p
  | [] => .inl (by simp)
  | c :: l => by
    by_cases h : c = 32
    · exact .inr ⟨[], l, by rw [h]; rfl, by simp⟩
    · rcases blank_split l with e | ⟨p, r, e, hp⟩
      · exact .inl fun z => (List.mem_cons.mp z).elim (fun q => h q.symm) e
      · exact .inr ⟨c :: p, r, by rw [e]; rfl, fun z => (List.mem_cons.mp z).elim (fun q => h q.symm) hp⟩
theorem words_unN : ∀ (n : Nat) (l : List Nat), l.length ≤ n → words (un l) = (words l).map un
  | n, l, hl => by
    rcases blank_split l with e | ⟨p, r, e, hp⟩
    · have e2 : 32 ∉ un l := fun z => e (un_mem _ l (Nat.le_refl _) 32 z)
      rw [words_one e, words_one e2]
      by_cases h : l = []
      · rw [if_pos h, if_pos ((un_empty l).mpr h)]; rfl
      · rw [if_neg h, if_neg (fun z => h ((un_empty l).mp z))]; rfl
    · have e2 : 32 ∉ un p := fun z => hp (un_mem _ p (Nat.le_refl _) 32 z)
      have hr : r.length < l.length := by rw [e, List.length_append, List.length_cons]; omega
      cases n with
      | zero => omega
      | succ n =>
        have ih := words_unN n r (by omega)
        rw [e, un_blank, words_cut hp, words_cut e2, ih, List.map_append]
        by_cases h : p = []
        · rw [if_pos h, if_pos ((un_empty p).mpr h)]; rfl
        · rw [if_neg h, if_neg (fun z => h ((un_empty p).mp z))]; rfl
theorem un_joinL : ∀ ps : List (List Nat), un (TL.joinL [32] ps) = TL.joinL [32] (ps.map un)
  | [] => un_nil
  | [p] => rfl
  | p :: q :: r => by
    show un (p ++ 32 :: TL.joinL [32] (q :: r)) = _
    rw [un_blank, un_joinL (q :: r)]
    rfl
theorem tidy_un (l : List Nat) : tidy (un l) = un (tidy l) := by
  unfold tidy
  rw [words_unN _ l (Nat.le_refl _), un_joinL]
def cells (l : List Nat) : List (List Nat) := (cp [] [] l).map fun p => un (tidy p)
theorem cells_law (l : List Nat) : (cw [] [] l).map tidy = cells l := by
  have e := cw_cp l [] [] (by simp) (by simp)
  rw [un_nil] at e
  rw [e, List.map_map]
  unfold cells
  refine List.map_congr_left fun p _ => ?_
  exact tidy_un p
/-! ### names -/
def lett (c : Nat) : Bool := (decide (97 ≤ c) && decide (c ≤ 122)) || (decide (65 ≤ c) && decide (c ≤ 90)) || (decide (48 ≤ c) && decide (c ≤ 57))
def low (c : Nat) : Nat := if 65 ≤ c ∧ c ≤ 90 then c + 32 else c
def isNm (l : List Nat) : Bool := decide (1 ≤ l.length) && decide (l.length ≤ 12) && l.all lett
def nm (l : List Nat) : Option (List Nat) := if isNm l = true then some (l.map low) else none
/-! ### sorts -/
inductive Srt where
  | empty
  | quote (r : List Nat)
  | fence
  | heading (n : Nat) (w : List Nat)
  | cells (cs : List (List Nat))
  | note (n w : List Nat)
  | name (n t : List Nat)
  | item (far : Nat) (c : Nat) (w : List Nat)
  | plain (far : Nat) (w : List Nat)
def lev (l : List Nat) : Nat := (l.takeWhile fun c => c == 61).length
def heading (l : List Nat) : Option Srt := if 1 ≤ lev l ∧ lev l ≤ 3 ∧ (l.drop (lev l)).take 1 = [32] then some (.heading (lev l) (tidy (l.drop (lev l)))) else none
def cellsS (l : List Nat) : Option Srt :=
  if 2 ≤ l.length ∧ l.head? = some 124 ∧ l.getLast? = some 124 ∧ l.dropLast.getLast? ≠ some 92 then some (.cells (cells (l.drop 1).dropLast)) else none
def namedAt (a b : List Nat) : Option Srt :=
  if a.head? = some 91 then
    (if a.take 2 = [91, 94] ∧ isNm (a.drop 2) = true then some (.note ((a.drop 2).map low) (tidy b))
     else match words b with
       | [w] => if isNm (a.drop 1) = true then some (.name ((a.drop 1).map low) w) else none
       | _ => none)
  else none
def named (l : List Nat) : Option Srt :=
  match TL.par [93, 58, 32] [] l with
  | none => none
  | some (a, b) => namedAt a b
def flush (row bare : List Nat) : Option Srt :=
  if bare.head? = some 62 then some (.quote (if (row.drop 1).head? = some 32 then row.drop 2 else row.drop 1))
  else if bare = [126, 126, 126] then some .fence
  else ((heading bare).or (cellsS bare)).or (named bare)
def isItem (b : List Nat) : Bool := decide (b.take 2 = [45, 32]) || decide (b.take 2 = [43, 32])
def rest (row : List Nat) : Srt :=
  if isItem (ls (rs row)) = true then .item (bg row) ((ls (rs row)).headD 0) (tidy ((ls (rs row)).drop 2)) else .plain (bg row) (tidy row)
def sortL (row : List Nat) : Srt :=
  if ls (rs row) = [] then .empty
  else if bg row = 0 then (flush row (rs row)).getD (rest row) else rest row
/-! ### "=" counted both ways -/
theorem lev_take : ∀ (k : Nat) (l : List Nat), l.take (k + 1) = List.replicate k 61 ++ [32] ↔ lev l = k ∧ (l.drop k).take 1 = [32]
  | 0, l => by
    cases l with
    | nil => simp
    | cons c r =>
      unfold lev
      by_cases h : c = 61
      · subst h
        simp
      · simp [h]
  | k + 1, l => by
    cases l with
    | nil => simp [lev]
    | cons c r =>
      have ih := lev_take k r
      rw [List.take_succ_cons, List.replicate_succ, List.cons_append, List.drop_succ_cons]
      by_cases h : c = 61
      · subst h
        have e : lev (61 :: r) = lev r + 1 := by
          unfold lev
          rw [List.takeWhile_cons_of_pos (by rfl), List.length_cons]
        rw [e]
        constructor
        · intro z
          injection z with _ z
          have := ih.mp z
          exact ⟨by omega, this.2⟩
        · intro z
          rw [ih.mpr ⟨by omega, z.2⟩]
      · have e : lev (c :: r) = 0 := by
          unfold lev
          rw [List.takeWhile_cons_of_neg (by simpa using h)]
          rfl
        rw [e]
        constructor
        · intro z
          injection z with z _
          exact absurd z h
        · intro z
          exact absurd z.1 (by omega)
theorem heading_eq {l : List Nat} {k : Nat} (h1 : 1 ≤ k) (h3 : k ≤ 3) (h : l.take (k + 1) = List.replicate k 61 ++ [32]) : heading l = some (.heading k (tidy (l.drop k))) := by
  obtain ⟨e, e2⟩ := (lev_take k l).mp h
  unfold heading
  rw [e, if_pos ⟨h1, h3, e2⟩]
theorem heading_none {l : List Nat} (h : ∀ k, 1 ≤ k → k ≤ 3 → l.take (k + 1) ≠ List.replicate k 61 ++ [32]) : heading l = none := by
  unfold heading
  refine if_neg fun z => h (lev l) z.1 z.2.1 ((lev_take _ l).mpr ⟨rfl, z.2.2⟩)
/-- the words of a sort that has words -/
def wordsOf : Srt → Option (List Nat)
  | .heading _ w => some w
  | .note _ w => some w
  | .item _ _ w => some w
  | .plain _ w => some w
  | _ => none
theorem or_some {α : Type} {a b : Option α} {x : α} (h : a.or b = some x) : a = some x ∨ b = some x := by
  cases a with
  | none => exact .inr h
  | some y => exact .inl h
theorem heading_shape {l : List Nat} {s : Srt} (h : heading l = some s) : ∃ n w, s = .heading n (tidy w) := by
  unfold heading at h
  split at h
  · exact ⟨_, _, (Option.some.inj h).symm⟩
  · cases h
theorem cells_shape {l : List Nat} {s : Srt} (h : cellsS l = some s) : ∃ cs, s = .cells cs := by
  unfold cellsS at h
  split at h
  · exact ⟨_, (Option.some.inj h).symm⟩
  · cases h
theorem named_shape {l : List Nat} {s : Srt} (h : named l = some s) : (∃ n w, s = .note n (tidy w)) ∨ ∃ n w, s = .name n w := by
  unfold named at h
  split at h
  · cases h
  · unfold namedAt at h
    split at h
    · split at h
      · exact .inl ⟨_, _, (Option.some.inj h).symm⟩
      · split at h
        · split at h
          · exact .inr ⟨_, _, (Option.some.inj h).symm⟩
          · cases h
        · cases h
    · cases h
theorem flush_tidy {row bare : List Nat} {s : Srt} (h : flush row bare = some s) : ∀ w, wordsOf s = some w → tidy w = w := by
  intro w hw
  unfold flush at h
  split at h
  · rw [← Option.some.inj h] at hw; cases hw
  · split at h
    · rw [← Option.some.inj h] at hw; cases hw
    · rcases or_some h with h | h
      · rcases or_some h with h | h
        · obtain ⟨n, u, rfl⟩ := heading_shape h
          rw [← Option.some.inj hw]
          exact tidy_tidy u
        · obtain ⟨cs, rfl⟩ := cells_shape h
          cases hw
      · rcases named_shape h with ⟨n, u, rfl⟩ | ⟨n, u, rfl⟩
        · rw [← Option.some.inj hw]
          exact tidy_tidy u
        · cases hw
theorem rest_tidy {row w : List Nat} (h : wordsOf (rest row) = some w) : tidy w = w := by
  unfold rest at h
  split at h
  · rw [← Option.some.inj h]; exact tidy_tidy _
  · rw [← Option.some.inj h]; exact tidy_tidy _
theorem sort_tidy {row w : List Nat} (h : wordsOf (sortL row) = some w) : tidy w = w := by
  unfold sortL at h
  split at h
  · cases h
  · split at h
    · cases e : flush row (rs row) with
      | none =>
        rw [e] at h
        exact rest_tidy h
      | some s =>
        rw [e] at h
        exact flush_tidy e w h
    · exact rest_tidy h
end KM
/-! The judgements over states with at least n tokens. -/
namespace KT
open PySem PySem.Spec PyProof.Rows L2
section
variable {n : Nat}
theorem thk {α : Type} {M : Model} {A : Around} {t : Sem α} {Q R : α → Shared → Prop} {E : Value → Shared → Prop} {s : Shared} (hn : n ≤ s.toks) (h : wpAny M A t Q E s) (k : ∀ a u, n ≤ u.toks → Q a u → R a u) : wpAny M A t R E s :=
  wpAny_mono (PySem.wpAny_toks_of hn h) (fun a u z => k a u z.1 z.2) fun _ _ z => z.2
def NE (n : Nat) (X : Cx) (e : Expr) (t : TE) : Prop := ∀ (pn : List (Addr × Obj)) (s : Shared) (v : L2.St) (H : Hp) (Q : VK), n ≤ s.toks → Inv X pn v H s → t v H Q →
  wpAny (model X.prog X.w) X.A (eval e X.env) (EP X pn v Q) X.xe s
def NA (n : Nat) (X : Cx) (es : List Expr) (t : TA) : Prop := ∀ (po : Pos) (pn : List (Addr × Obj)) (s : Shared) (v : L2.St) (H : Hp) (Q : List V → Hp → Prop), n ≤ s.toks → Inv X pn v H s → t v H Q →
  wpAny (model X.prog X.w) X.A (spliced (backTo po (starEach es X.env))) (AP X pn v Q) X.xe s
def NS (n : Nat) (X : Cx) (st : Stmt) (t : TS) : Prop := ∀ (pn : List (Addr × Obj)) (s : Shared) (v : L2.St) (H : Hp) (D : Ends), n ≤ s.toks → Inv X pn v H s → t D v H →
  wpAny (model X.prog X.w) X.A (exec st X.env) (SP X pn D) X.xe s
def NB (n : Nat) (X : Cx) (st : List Stmt) (t : TS) : Prop := ∀ (pn : List (Addr × Obj)) (s : Shared) (v : L2.St) (H : Hp) (D : Ends), n ≤ s.toks → Inv X pn v H s → t D v H →
  wpAny (model X.prog X.w) X.A (execs st X.env) (SP X pn D) X.xe s
def NI (n : Nat) (X : Cx) (tg iter : Expr) (wi : TI) : Prop := ∀ (pn : List (Addr × Obj)) (s : Shared) (v : L2.St) (H : Hp) (R : It → Hp → Prop), n ≤ s.toks → Inv X pn v H s → wi v H R →
  wpAny (model X.prog X.w) X.A (eval iter X.env) (fun u s1 => wpAny (model X.prog X.w) X.A (pyIter u) (PIE X pn v tg R) X.xe s1) X.xe s
section
variable {X : Cx} {e e2 : Expr} {es : List Expr} {te te2 : TE} {ta : TA} {st : Stmt} {sts : List Stmt} {t u : TS} {pos : Pos}
theorem ne_of (h : PE X e te) : NE n X e te := fun pn s v H Q _ I q => h.run pn s v H Q I q
theorem na_of (h : PA X es ta) : NA n X es ta := fun po pn s v H Q _ I q => h.run po pn s v H Q I q
theorem ns_of (h : PS X st t) : NS n X st t := fun pn s v H D _ I q => h.run pn s v H D I q
theorem nb_of (h : PSs X sts t) : NB n X sts t := fun pn s v H D _ I q => h.run pn s v H D I q
theorem ni_of {tg : Expr} {wi : TI} (h : PI X tg e wi) : NI n X tg e wi := fun pn s v H R _ I q => h.run pn s v H R I q
theorem na_cons (ha : NE n X e te) (hr : NA n X es ta) (hs : starEach (e :: es) X.env = (false, eval e X.env) :: starEach es X.env := by rfl) : NA n X (e :: es) (tCons te ta) := by
  intro po pn s v H Q hn I h
  rw [hs]
  show wpAny _ _ (spliced ((false, eval e X.env) :: backTo po (starEach es X.env))) _ _ s
  refine Calls.spliced_cons (thk hn (ha pn s v H _ hn I h) fun a s1 n1 ⟨x, H1, I1, r1, q1⟩ => ?_)
  exact thk n1 (hr po pn s1 v H1 _ n1 I1 q1) fun b s2 _ ⟨ys, H2, I2, r2, q2⟩ => ⟨x :: ys, H2, I2, .cons r1 r2, q2⟩
theorem ne_tup {k} (h : NA n X es ta) : NE n X (.Tuple es k pos) (tTup ta) := by
  intro pn s v H Q hn I hq
  refine wpAny_Tuple_spliced (thk hn (h pos pn s v H _ hn I hq) fun b s1 _ ⟨ys, H1, I1, r, z, q⟩ => ⟨by rw [← r.length]; exact z, ?_⟩)
  have hz : H1 s1.heap.objs.size = none := I1.fresh
  refine ⟨.ref s1.heap.objs.size, upd H1 s1.heap.objs.size (.tup ys), I1.laid (t' := s1.toks) (fun c o w => Heap.get?_push_of_some _ w) (Nat.le_refl _) ⟨z, b, r, ⟨_, Heap.get?_push_size _ rfl, rfl, _, rfl⟩⟩, rfl, q _ hz⟩
theorem ne_cmp {op : CmpOp} {r : R2} (ho : OpR X (compareOp op) r) (ha : NE n X e te) (hb : NE n X e2 te2) (hm : behindInMarks op e2 = false) : NE n X (.Compare e [op] [e2] pos) (tOp r te te2) := by
  intro pn s v H Q hn I h
  refine wpAny_Compare1 (thk hn (ha pn s v H _ hn I h) fun a s1 n1 ⟨x, H1, I1, r1, q1⟩ => ?_) hm
  exact thk n1 (hb pn s1 v H1 _ n1 I1 q1) fun b s2 _ ⟨y, H2, I2, r2, q2⟩ => ho pn s2 v H2 x y a b Q I2 r1 r2 q2
theorem ns_ret (he : NE n X e te) : NS n X (.Return (some e) pos) (tRet te) := by
  intro pn s v H D hn I h
  exact wpAny_Return_some (thk hn (he pn s v H _ hn I h) fun a s1 _ ⟨x, H1, I1, r1, q1⟩ => ⟨x, v, H1, I1, r1, q1⟩)
theorem ns_set {i : Nat} {x : Str} {pos' : Pos} (hN : X.N.Nodup) (hi : X.N[i]? = some x) (hx : Loc X.env.scope x) (he : NE n X e te) (hs : swapsWith e (some (.Name x pos')) pos.line X.env = pure false := by rfl)
    (hf : X.fn x = true ∨ X.env.scope.names.lookup x = some .local := by first | exact .inl rfl | exact .inr rfl) : NS n X (.Assign [.Name x pos'] e pos) (tAsg te (gName i)) := by
  intro pn s v H D hn I h
  refine wpAny_Assign_Name (thk hn (he pn s v H _ hn I h) fun a s1 _ ⟨y, H1, I1, r1, q1⟩ => ?_) hs
  exact store_ok I1 hN hi hx r1 (fun s2 I2 => ⟨_, H1, I2, q1⟩) hf
theorem ns_if {c : Expr} {a b : List Stmt} {tc : TT} (hc : PT X c tc) (ha : NB n X a t) (hb : NB n X b u) : NS n X (.If c a b pos) (tIfS tc t u) := by
  intro pn s v H D hn I h
  refine wpAny_If (thk hn (hc.run pn s v H _ I h) fun d s1 n1 ⟨H1, I1, q1⟩ => ?_)
  cases d with
  | true => exact ha pn s1 v H1 D n1 I1 q1
  | false => exact hb pn s1 v H1 D n1 I1 q1
theorem nb_cons (h1 : NS n X st t) (h2 : NB n X sts u) : NB n X (st :: sts) (tSeq t u) := by
  intro pn s v H D hn I h
  refine wpAny_execs_cons (thk hn (h1 pn s v H { D with nx := u D } hn I h) fun f s1 n1 q => ?_)
  cases f with
  | next =>
    obtain ⟨v1, H1, I1, q⟩ := q
    exact h2 pn s1 v1 H1 D n1 I1 q
  | brk => exact q
  | cont => exact q
  | ret a => exact q
theorem nb_one (h1 : NS n X st t) : NB n X [st] (tSeq t tNext) := nb_cons h1 (nb_of pss_nil)
theorem ni_tup {tg : Expr} (hl : NE n X e te) : NI n X tg e (iTup X.K te) := by
  intro pn s v H R hn I h
  refine thk hn (hl pn s v H _ hn I h) fun a s1 _ ⟨x, H1, I1, r1, c, ex, ⟨xs, hx⟩, q⟩ => ?_
  subst ex
  cases r1
  obtain ⟨its, rv, p, _⟩ := I1.tuple hx
  refine wpAny_pyIter_tuple (show s1.heap.IsTuple c its.toArray from p) ?_
  refine ⟨s1.heap.objs.size, [s1.heap.objs.size], _, _, H1, rfl, I1.kept (t' := s1.toks) fun d o w => Heap.get?_push_of_some _ w,
    turn_tuple c _, ⟨_, Heap.get?_push_size _ rfl, rfl, rfl⟩, fun d hd => ?_, q⟩
  obtain rfl := List.mem_singleton.mp hd
  exact I1.fpOk (Nat.le_refl _) I1.fresh
theorem ns_for {tg iter : Expr} {body : List Stmt} {wi : TI} {g : TG} {tb : TS} (hp : PassesOwn (model X.prog X.w) X.A X.env X.xe) (hc : X.calm = true) (hi : NI n X tg iter wi) (hg : PG X tg g) (hb : NB n X body tb)
    (hs : ∀ x, foldedSetIterable iter X.env x = pure x := by intro _; rfl) : NS n X (.For tg iter body [] pos) (tFor wi g tb) := by
  intro pn s v H D hn I h
  refine wpAny_For (thk hn (hi pn s v H _ hn I h) fun a s1 n1 h1 => thk n1 h1 fun itv s2 n2 h2 => ?_) hs
  obtain ⟨it, fp, tn, J, H2, ei, I2, T, st2, f2, W, ⟨m0, w0⟩, turn⟩ := h2
  subst ei
  have stat : ∀ {G : Hp}, (∀ b ∈ fp, G b = none) → ∀ b ∈ fp, FpOk X pn G b := fun z b hb => ⟨z b hb, (f2 b hb).2⟩
  refine codeAny_forLoop_any (fun m u => n ≤ u.toks ∧ ∃ i v1 G, Inv X pn v1 G u ∧ tn i u.heap ∧ (∀ b ∈ fp, G b = none) ∧ W i m v1 G) ?_ m0 ⟨n2, 0, v, H2, I2, st2, fun b hb => (f2 b hb).1, w0⟩
  rintro m s3 ⟨n3, i, v3, H3, I3, st3, fr3, w3⟩
  rcases turn i m v3 H3 w3 with ⟨stp, qn⟩ | ⟨go, N, hN, stepN⟩
  · refine wpAny_passesOwn hp (thn (T.done X rfl rfl rfl hc i pn s3 v3 H3 X.xe I3 (stat fr3) st3 stp) fun r s4 ⟨hr, I4⟩ => ?_)
    subst hr
    exact wpAny_execs_nil ⟨v3, H3, I4, qn⟩
  · refine wpAny_passesOwn hp (thk n3 (T.item X rfl rfl rfl hc i pn s3 v3 H3 X.xe I3 (stat fr3) st3 go) fun r s4 n4 ⟨w, hr, h4⟩ => ?_)
    subst hr
    refine wpAny_passesOwn hp (thk n4 h4 fun _ s5 n5 ⟨x, H5, I5, r5, y5, st5, fr5⟩ => ?_)
    have Ip := I5.pinned (stat fr5) (T.obj _ _ st5)
    refine wpAny_passesOwn hp (thk n5 (hg.run _ s5 v3 H5 x w _ Ip r5 (stepN x H5 y5)) fun _ s6 n6 ⟨v6, H6, I6, q6⟩ => ?_)
    refine wpAny_passesOwn hp (thk n6 (hb _ s6 v6 H6 _ n6 I6 q6) fun f s7 n7 q7 => ?_)
    have again : ∀ {v7 : L2.St} {G : Hp}, Inv X (pn ++ pinsAt fp s5.heap) v7 G s7 → N v7 G →
        ∃ k, k < m ∧ n ≤ s7.toks ∧ ∃ j v1 G, Inv X pn v1 G s7 ∧ tn j s7.heap ∧ (∀ b ∈ fp, G b = none) ∧ W j k v1 G := fun {v7 G} I7 z => by
      obtain ⟨k, hk, w7⟩ := hN v7 G z
      have look : ∀ b ∈ fp, ∀ o, s5.heap.get? b = some o → s7.heap.get? b = some o ∧ G b = none := fun b hb o eo =>
        have y := I7.pin (b, o) (List.mem_append_right _ (List.mem_append_right _ (mem_pinsAt hb eo)))
        ⟨y.1, y.2.1⟩
      refine ⟨k, hk, n7, i + 1, v7, G, I7.unpinned, T.keep _ _ _ st5 fun b hb o eo => (look b hb o eo).1, fun b hb => ?_, w7⟩
      obtain ⟨o, eo, _⟩ := T.obj _ _ st5 b hb
      exact (look b hb o eo).2
    cases f with
    | next =>
      obtain ⟨v7, H7, I7, z⟩ := q7
      exact again I7 z
    | cont =>
      obtain ⟨v7, H7, I7, z⟩ := q7
      exact again I7 z
    | brk =>
      obtain ⟨v7, H7, I7, z⟩ := q7
      exact ⟨v7, H7, I7.unpinned, z⟩
    | ret a =>
      obtain ⟨x7, v7, H7, I7, r7, z⟩ := q7
      exact ⟨x7, v7, H7, I7.unpinned, r7, z⟩
end
/-! ### defs -/
structure FnN (n : Nat) (P : Program) (w : World) (K : PySem.W.Frag) (mg : Str → Option Value) (base : Heap) (k : Nat) (f : Addr) (fd : FuncData) (ps : List Str) (sp : Sp) : Prop where
  len : ∀ vs H Q E, sp vs H Q E → vs.length = ps.length
  run : ∀ (A : Around) (outer : List Env) (s : Shared) (H : Hp) (args : Args) (us : List Value) (vs : List V) (Q : VK) (E : XK), n ≤ s.toks → Room k A → Env0 P w K mg base A outer s H → BindsTo s fd args (ps.zip us) → Vals vs us → sp vs H Q E →
    codeAny (model P w) A (.call (.ref f) args) (CR CX0 outer P w H s Q E) s
section
variable {P : Program} {w : World} {K : PySem.W.Frag} {mg : Str → Option Value} {base : Heap}
theorem FnN.of {k : Nat} {f : Addr} {fd : FuncData} {ps : List Str} {sp : Sp} (F : FnOk P w K mg base CX0 k f fd ps sp) : FnN n P w K mg base k f fd ps sp :=
  ⟨F.len, fun A outer s H args us vs Q E _ hr e0 hb r h => F.run A outer s H args us vs Q E hr e0 hb r h⟩
theorem fnN {x qual : Str} {st : Stmt} {f : Addr} {fd : FuncData} {N ps : List Str} {k : Nat} {sp : Sp} (F : Fun K x qual st f fd) (S : FnScope N ps (defScope st)) (len : ∀ vs H Q E, sp vs H Q E → vs.length = ps.length)
    (hbody : ∀ (cdv : Value) (A : Around) (outer : List Env) (s : Shared) (H : Hp) (vs : List V) (Q : VK) (E : XK), Room k (A.deeper (envOfC qual (defScope st) s.heap.objs.size f cdv)) → sp vs H Q E →
      ∃ t, NB n (cxOf CX0 P w K mg base N qual (defScope st) f cdv A outer s H E).nox (defBody st) t ∧ t { nx := fun _ H' => Q .non H', rt := Q } (start N vs) H) : FnN n P w K mg base (k + 1) f fd ps sp := by
  obtain ⟨oc, od, kV, doc, pm, an, cdv, ct, osl, rfl, lk, hcd⟩ := F.ex
  refine ⟨len, fun A outer s H args us vs Q E hn hr e0 hb r hsp => ?_⟩
  have hl := len _ _ _ _ hsp
  have KX : K.In s.heap := e0.mod.kin.keeps fun b o z => (e0.bs b o z).1
  have lim : s.heap.NoLimit := e0.mod.nolimit.keeps fun b o z => (e0.bs b o z).1
  refine codeAny_call_function hr.depth (KX _ _ lk) rfl S.co S.gen rfl (PySem.W.codeRec_of KX hcd) (hb _ _ _ _ (PySem.wpAny_with_toks hn ?_))
  refine wpAny_newFunctionEnv_cells S.kind (fun ⟨m, a⟩ hy => ?_) fun env he s1 x n1 => ?_
  · rcases S.par m (List.of_mem_zip hy).1 with q | q
    · exact .inl q
    · exact .inr ⟨q, PySem.W.cellsFrom_some _ _ _ (.inl q)⟩
  · subst he
    refine ⟨lim.keeps x.toInCall.keep, codeAny_func ?_⟩
    obtain ⟨t, ht, hq⟩ := hbody cdv A outer s H vs Q E (hr.deeper _) hsp
    have I : Inv (cxOf CX0 P w K mg base N qual (defScope st) f cdv A outer s H E) [] (start N vs) H s1 := inv_start S hr.hd e0 hl r x
    refine wpAny_mono (ht [] s1 (start N vs) H _ n1 (I.wish _) hq) (fun fl u hs => ?_) fun _ _ z => False.elim z
    have fin : ∀ {v1 : L2.St} {G : Hp} {y : V} {a : Value}, Inv (cxOf CX0 P w K mg base N qual (defScope st) f cdv A outer s H E).nox [] v1 G u → RelV y a → Q y G → CE outer P w H s Q a u :=
      fun {v1 G y a} J ry q => ⟨y, G, J.os, J.bare, J.base, J.hok, ry, q⟩
    cases fl with
    | ret a =>
      obtain ⟨y, v1, G, J, ry, q⟩ := hs
      exact fin J ry q
    | next =>
      obtain ⟨v1, G, J, q⟩ := hs
      exact fin (y := V.non) (a := Value.none) J rfl q
    | brk =>
      obtain ⟨_, _, _, q⟩ := hs
      exact q.elim
    | cont =>
      obtain ⟨_, _, _, q⟩ := hs
      exact q.elim
end
section
variable {X : Cx} {k : Nat} {f : Addr} {fd : FuncData} {ps : List Str} {sp : Sp} {x : Str} {p pos : Pos} {e : Expr} {es : List Expr} {t : TA}
theorem ne_call (F : FnN n X.prog X.w X.K X.mg X.base k f fd ps sp) (hr : Room k X.A) (hg : Gl X x) (hm : X.mg x = some (.ref f)) (hk : PySem.W.keepIn X.K (.ref f) = true) (hb : Binds X.K fd ps []) (ha : PA X (e :: es) t)
    (hdb : (x == ("__debug__" : Str)) = false := by decide) (he : starEach (e :: es) X.env = (false, eval e X.env) :: starEach es X.env := by rfl) (hpl : (backTo pos (starEach es X.env)).any (·.1) = false := by rfl) :
    NE n X (.Call (.Name x p) (e :: es) [] pos) (tCall sp [] E0 t) := by
  intro pn s v H Q hn I h
  refine wpAny_Call_Name_kw (ld_glob I hg hm ?_ hdb)
  refine PySem.W.callWith_K (h₀ := X.base) I.ok.mod.kin hk (thk hn (ha.run pos pn s v H _ I h) fun us s1 n1 ⟨vs, H1, I1, r, q⟩ => ⟨I1.kIn, ?_⟩) he hpl
  have r2 : Vals (vs ++ []) (us ++ []) := r.append .nil
  have hl : (us ++ []).length = ps.length := by rw [← r2.length]; exact F.len _ _ _ _ q
  refine wpAny_call (codeAny_mono (F.run X.A X.stack s1 H1 ⟨us, []⟩ (us ++ []) (vs ++ []) Q E0 n1 hr I1.env0 (hb s1 us I1.kIn hl) r2 q) fun res u hq => ?_)
  cases res with
  | error z => exact (show False from hq).elim
  | ok fl =>
    cases fl with
    | ret a => exact I1.after hq
    | next => exact (show False from hq).elim
    | brk => exact (show False from hq).elim
    | cont => exact (show False from hq).elim
end
end
end KT
/-! The library's texts as lists of codes. -/
namespace KM
open PySem
theorem tx_add (a b : List Nat) : tx a ++ tx b = tx (a ++ b) := TL.ext_tl (TL.tl_append _ _)
theorem sub_tx (l : List Nat) (i j : Nat) : Builtin.Str.strSub (tx l) i j = tx ((l.drop i).take (j - i)) := TL.ext_tl (TL.tl_strSub (tx l) i j)
theorem tk_eq {p q : Nat → Bool} (h : ∀ c, p c = q c) (l : List Nat) : l.takeWhile p = l.takeWhile q := by
  have e : p = q := funext h
  rw [e]
theorem dw_drop (p : Nat → Bool) : ∀ l : List Nat, l.dropWhile p = l.drop (l.takeWhile p).length
  | [] => rfl
  | c :: r => by
    by_cases h : p c = true
    · rw [List.dropWhile_cons_of_pos h, List.takeWhile_cons_of_pos h, List.length_cons, List.drop_succ_cons]
      exact dw_drop p r
    · rw [List.dropWhile_cons_of_neg h, List.takeWhile_cons_of_neg h]
      rfl
theorem one_contains (c k : Nat) : (tx [c]).cps.contains k = (k == c) := by
  show #[c].contains k = _
  rw [Bool.eq_iff_iff]
  simp
theorem lstripC (l : List Nat) (c : Nat) : Txt.lstripChars (tx l) (tx [c]) = tx (l.dropWhile fun k => k == c) := by
  unfold Txt.lstripChars
  rw [PyProof.Rows.stripBy_eq, sub_tx]
  have e : stripLo (tx [c]).cps.contains true (tx l) = (l.takeWhile fun k => k == c).length := by
    show (l.takeWhile (tx [c]).cps.contains).length = _
    rw [tk_eq (one_contains c) l]
  have e2 : stripHi (tx [c]).cps.contains false (tx l) (stripLo (tx [c]).cps.contains true (tx l)) = l.length := rfl
  rw [e2, e, dw_drop, List.take_of_length_le (by rw [List.length_drop]; exact Nat.le_refl _)]
theorem rstripC (l : List Nat) : Txt.rstripChars (tx l) (tx [32]) = tx (rs l) := by
  unfold Txt.rstripChars
  rw [PyProof.Rows.stripBy_eq, sub_tx]
  have e : stripLo (tx [32]).cps.contains false (tx l) = 0 := rfl
  have e2 : stripHi (tx [32]).cps.contains true (tx l) 0 = l.length - (l.reverse.takeWhile fun k => k == 32).length := by
    show (tx l).length - ((l.drop 0).reverse.takeWhile (tx [32]).cps.contains).length = _
    rw [tk_eq (one_contains 32) _, List.drop_zero]
    rfl
  rw [e, e2, List.drop_zero, Nat.sub_zero]
  unfold rs
  rw [dw_drop, List.drop_reverse, List.reverse_reverse]
theorem starts (l p : List Nat) : Txt.startswith (tx l) (tx p) = decide (l.take p.length = p) := by
  unfold Txt.startswith
  rw [PySem.StrLaws.subAt_eq]
  show (decide (0 + p.length ≤ l.length) && ((l.drop 0).take p.length == p)) = _
  rw [List.drop_zero, Bool.eq_iff_iff]
  simp only [Bool.and_eq_true, decide_eq_true_eq, beq_iff_eq]
  constructor
  · exact fun h => h.2
  · intro h
    refine ⟨?_, h⟩
    have := congrArg List.length h
    rw [List.length_take] at this
    omega
theorem ends (l : List Nat) (c : Nat) : Txt.endswith (tx l) (tx [c]) = decide (l.getLast? = some c) := by
  unfold Txt.endswith
  rw [PySem.StrLaws.subAt_eq]
  show (decide (0 + 1 ≤ l.length) && ((l.drop (l.length - 1)).take 1 == [c])) = _
  rw [Bool.eq_iff_iff]
  simp only [Bool.and_eq_true, decide_eq_true_eq, beq_iff_eq]
  rw [List.getLast?_eq_getElem?]
  constructor
  · intro ⟨h1, h2⟩
    have hlt : l.length - 1 < l.length := by omega
    rw [List.drop_eq_getElem_cons hlt, List.take_succ_cons, List.take_zero] at h2
    injection h2 with h2 _
    rw [List.getElem?_eq_getElem hlt, h2]
  · intro h
    obtain ⟨hlt, e⟩ := List.getElem?_eq_some_iff.mp h
    refine ⟨by omega, ?_⟩
    rw [List.drop_eq_getElem_cons hlt, List.take_succ_cons, List.take_zero, e]
theorem split_words (l : List Nat) : (Txt.split (tx l) (tx [32])).map TL.tl = TL.spl [32] 0 [] l :=
  TL.split_spl (tx l) (tx [32]) (by decide) (TL.kind_ok (by decide +kernel))
theorem map_tx (ps : List (List Nat)) : (ps.map tx).map TL.tl = ps := by
  rw [List.map_map]
  exact List.map_id _
theorem split_tx (l : List Nat) : Txt.split (tx l) (tx [32]) = (TL.spl [32] 0 [] l).map tx := TL.map_tl_inj (by rw [split_words, map_tx])
theorem join_tx (ps : List (List Nat)) : Txt.join (tx [32]) (ps.map tx) = tx (TL.joinL [32] ps) := TL.ext_tl (by rw [TL.join_eq, TL.tl_join, map_tx])
theorem part_tx (l : List Nat) : Txt.partition (tx l) (tx [93, 58, 32]) = (match TL.par [93, 58, 32] [] l with | some (a, b) => (tx a, tx [93, 58, 32], tx b) | none => (tx l, tx [], tx [])) := by
  rw [TL.partition_par _ _ (by decide)]
  rfl
theorem lett_lt {c : Nat} (h : lett c = true) : c < 128 := by
  unfold lett at h
  simp only [Bool.or_eq_true, Bool.and_eq_true, decide_eq_true_eq] at h
  omega
theorem lower_tx {l : List Nat} (h : l.all lett = true) : Txt.lower (tx l) = tx (l.map low) := by
  rw [PyProof.Rows.lower_ascii fun c hc => lett_lt (List.all_eq_true.mp h c hc)]
  exact TL.ext_tl (by
    show (l.toArray.map PyProof.Rows.lo1).toList = l.map low
    rw [Array.toList_map]
    rfl)
theorem repl_tx (l : List Nat) : Txt.replace (tx l) (tx [92, 124]) (tx [124]) = tx (un l) := TL.ext_tl (by
  show (Txt.replace (tx l) (tx [92, 124]) (tx [124])).cps.toList = un l
  rw [PySem.StrLaws.replace_list (by decide)]
  exact un_repl l)
/-! ### slices -/
theorem cut_mid (l : List Nat) (i j : Nat) : L2.cutS (tx l) (some (i : Int)) (some (j : Int)) = tx ((l.drop i).take (j - i)) := by
  refine TL.ext_tl ?_
  show (l.drop (HT.sIx (tx l).length 0 (some (i : Int)))).take (HT.sIx (tx l).length (tx l).length (some (j : Int)) - HT.sIx (tx l).length 0 (some (i : Int))) = (l.drop i).take (j - i)
  rw [HT.sIx_nat, HT.sIx_nat, tx_len]
  by_cases h : i ≤ l.length
  · rw [Nat.min_eq_left h]
    by_cases h2 : j ≤ l.length
    · rw [Nat.min_eq_left h2]
    · rw [Nat.min_eq_right (by omega), List.take_of_length_le (by rw [List.length_drop]; exact Nat.le_refl _), List.take_of_length_le (by rw [List.length_drop]; omega)]
  · rw [Nat.min_eq_right (show l.length ≤ i by omega), List.drop_length, List.drop_eq_nil_of_le (show l.length ≤ i by omega)]
    simp
theorem cut_from (l : List Nat) (i : Nat) : L2.cutS (tx l) (some (i : Int)) none = tx (l.drop i) := by
  refine TL.ext_tl ?_
  show (l.drop (HT.sIx (tx l).length 0 (some (i : Int)))).take (HT.sIx (tx l).length (tx l).length none - HT.sIx (tx l).length 0 (some (i : Int))) = l.drop i
  rw [HT.sIx_nat, HT.sIx_none, tx_len]
  by_cases h : i ≤ l.length
  · rw [Nat.min_eq_left h, List.take_of_length_le (by rw [List.length_drop]; exact Nat.le_refl _)]
  · rw [Nat.min_eq_right (by omega), List.drop_length, List.drop_eq_nil_of_le (by omega)]
    simp
theorem cut_to (l : List Nat) (j : Nat) : L2.cutS (tx l) none (some (j : Int)) = tx (l.take j) := by
  refine TL.ext_tl ?_
  show (l.drop (HT.sIx (tx l).length 0 none)).take (HT.sIx (tx l).length (tx l).length (some (j : Int)) - HT.sIx (tx l).length 0 none) = l.take j
  rw [HT.sIx_nat, HT.sIx_none, tx_len, List.drop_zero, Nat.sub_zero]
  by_cases h : j ≤ l.length
  · rw [Nat.min_eq_left h]
  · rw [Nat.min_eq_right (by omega), List.take_length, List.take_of_length_le (by omega)]
theorem sIx_m1 (n d : Nat) : HT.sIx n d (some (-1)) = n - 1 := by
  show (if (-1 : Int) < 0 then (-1 + (n : Int)).toNat else min (-1 : Int).toNat n) = n - 1
  rw [if_pos (by decide)]
  omega
theorem sIx_m2 (n d : Nat) : HT.sIx n d (some (-2)) = n - 2 := by
  show (if (-2 : Int) < 0 then (-2 + (n : Int)).toNat else min (-2 : Int).toNat n) = n - 2
  rw [if_pos (by decide)]
  omega
theorem cut_init (l : List Nat) : L2.cutS (tx l) none (some (-1)) = tx l.dropLast := by
  refine TL.ext_tl ?_
  show (l.drop (HT.sIx (tx l).length 0 none)).take (HT.sIx (tx l).length (tx l).length (some (-1)) - HT.sIx (tx l).length 0 none) = l.dropLast
  rw [sIx_m1, HT.sIx_none, tx_len, List.drop_zero, Nat.sub_zero, List.dropLast_eq_take]
theorem cut_in (l : List Nat) : L2.cutS (tx l) (some 1) (some (-1)) = tx (l.drop 1).dropLast := by
  refine TL.ext_tl ?_
  show (l.drop (HT.sIx (tx l).length 0 (some ((1 : Nat) : Int)))).take (HT.sIx (tx l).length (tx l).length (some (-1)) - HT.sIx (tx l).length 0 (some ((1 : Nat) : Int))) = (l.drop 1).dropLast
  rw [sIx_m1, HT.sIx_nat, tx_len]
  cases l with
  | nil => rfl
  | cons c r =>
    rw [List.length_cons, Nat.min_eq_left (by omega), List.dropLast_eq_take]
    show List.take (r.length + 1 - 1 - 1) r = List.take (r.length - 1) r
    rw [Nat.add_sub_cancel]
/-- the sign ahead of the last one, as a text -/
theorem cut_two (l : List Nat) : L2.cutS (tx l) (some (-2)) (some (-1)) = tx l.dropLast.getLast?.toList := by
  refine TL.ext_tl ?_
  show (l.drop (HT.sIx (tx l).length 0 (some (-2)))).take (HT.sIx (tx l).length (tx l).length (some (-1)) - HT.sIx (tx l).length 0 (some (-2))) = l.dropLast.getLast?.toList
  rw [sIx_m1, sIx_m2, tx_len]
  by_cases h : 2 ≤ l.length
  · have hlt : l.length - 2 < l.length := by omega
    rw [show l.length - 1 - (l.length - 2) = 1 by omega, List.drop_eq_getElem_cons hlt, List.take_succ_cons, List.take_zero, List.getLast?_eq_getElem?, List.length_dropLast,
      List.getElem?_dropLast, if_pos (by omega), show l.length - 1 - 1 = l.length - 2 by omega, List.getElem?_eq_getElem hlt]
    rfl
  · have e : l.dropLast = [] := List.length_eq_zero_iff.mp (by rw [List.length_dropLast]; omega)
    rw [e, show l.length - 1 - (l.length - 2) = 0 by omega, List.take_zero]
    rfl
/-- comparisons of texts -/
theorem dec_tx (a b : List Nat) : decide (L2.V.str (tx a) = L2.V.str (tx b)) = decide (a = b) := by
  by_cases h : a = b
  · rw [h, decide_eq_true rfl, decide_eq_true rfl]
  · rw [decide_eq_false h, decide_eq_false fun e => h (tx_inj (L2.V.str.inj e))]
theorem lit0 : ("" : Str) = tx [] := by decide +kernel
theorem lit32 : (" " : Str) = tx [32] := by decide +kernel
theorem lit61 : ("=" : Str) = tx [61] := by decide +kernel
theorem lit124 : ("|" : Str) = tx [124] := by decide +kernel
theorem lit92 : ("\\" : Str) = tx [92] := by decide +kernel
theorem lit91 : ("[" : Str) = tx [91] := by decide +kernel
theorem lit94 : ("^" : Str) = tx [94] := by decide +kernel
theorem lit9194 : ("[^" : Str) = tx [91, 94] := by decide +kernel
theorem lit62 : (">" : Str) = tx [62] := by decide +kernel
theorem litP : ("]: " : Str) = tx [93, 58, 32] := by decide +kernel
theorem litF : ("~~~" : Str) = tx [126, 126, 126] := by decide +kernel
theorem litM : ("- " : Str) = tx [45, 32] := by decide +kernel
theorem litQ : ("+ " : Str) = tx [43, 32] := by decide +kernel
theorem litMP : ("-+" : Str) = tx [45, 43] := by decide +kernel
end KM
namespace KP
open PySem PySem.Spec PyProof.Rows L2 KM KT
def topS (i : Nat) : Stmt := PySem.Challenge.pw_lightmark_k03_whole_sorts_of_any_rows.main.body.getD i (.Pass ⟨0, 0, 0, 0⟩)
abbrev sIsName : Stmt := topS 5
abbrev sWords : Stmt := topS 6
abbrev sTidy : Stmt := topS 7
abbrev sSplit : Stmt := topS 8
abbrev sHead : Stmt := topS 12
abbrev sCells : Stmt := topS 13
abbrev sNamed : Stmt := topS 14
abbrev sFlush : Stmt := topS 15
abbrev sSort : Stmt := topS 16
abbrev sLMixed : Stmt := topS 19
abbrev sLSigns : Stmt := topS 20
abbrev sLRow : Stmt := topS 21
abbrev sLWords : Stmt := topS 22
abbrev sLTidy : Stmt := topS 23
abbrev sLBounds : Stmt := topS 24
abbrev sLCells : Stmt := topS 25
abbrev sLName : Stmt := topS 26
abbrev sLNamed : Stmt := topS 27
abbrev sLFlush : Stmt := topS 28
abbrev sLDue : Stmt := topS 29
abbrev sLaw : Stmt := topS 30
/-- a text as a value -/
abbrev sv (l : List Nat) : V := .str (tx l)
/-- what the walk asks of the module's names -/
structure Txt (K : PySem.W.Frag) (mg : Str → Option Value) : Prop where
  len : mg "len" = none
  all : mg "all" = none
  isi : mg "isinstance" = none
  str : mg "str" = none
  tup : mg "tuple" = none
  bool : mg "bool" = none
  rng : mg "range" = none
  enu : mg "enumerate" = none
  lts : ∃ t, mg "LETTERS" = some (.str "abcdefghijklmnopqrstuvwxyzABCDEFGHIJKLMNOPQRSTUVWXYZ0123456789" t)
  most : ∃ t, mg "MOST_LETTERS" = some (.int 12 t)
  bar : ∃ t, mg "BAR" = some (.str "|" t) ∧ t ≠ 0 ∧ t < 385
  slash : ∃ t, mg "SLASH" = some (.str "\\" t)
  fen : ∃ t, mg "FENCE" = some (.str "~~~" t)
  lvl : ∃ t, mg "MOST_LEVEL" = some (.int 3 t)
/-! ### small helpers -/
theorem map_at {α β : Type} {g : α → β} {l : List α} {i : Nat} {x : β} (h : (l.map g)[i]? = some x) : ∃ w, l[i]? = some w ∧ x = g w := by
  rw [List.getElem?_map] at h
  cases e : l[i]? with
  | none => rw [e] at h; cases h
  | some w => rw [e] at h; exact ⟨w, rfl, (Option.some.inj h).symm⟩
theorem filt_step {α : Type} {f : α → Bool} {l : List α} {i : Nat} {w : α} (h : l[i]? = some w) : (l.take (i + 1)).filter f = (l.take i).filter f ++ (if f w = true then [w] else []) := by
  rw [List.take_add_one, h, List.filter_append]
  by_cases e : f w = true
  · rw [if_pos e]
    simp [e]
  · rw [if_neg e]
    simp [e]
theorem take_step {α : Type} {l : List α} {i : Nat} {w : α} (h : l[i]? = some w) : l.take (i + 1) = l.take i ++ [w] := by
  rw [List.take_add_one, h]
  rfl
theorem same_upd {H : Hp} {p : Addr} {o : HO} (h : H p = none) : Same H (upd H p o) := fun b x e => by
  rw [upd_ne (ne_of_none e h)]
  exact e
theorem spl_len : ∀ (l cur : List Nat), (TL.spl [32] 0 cur l).length ≤ l.length + 1
  | [], cur => by rw [TL.spl_nil]; exact Nat.le_refl _
  | c :: r, cur => by
    by_cases hc : c = 32
    · subst hc
      rw [TL.spl_hit (by rfl)]
      have := spl_len r []
      show (cur :: TL.spl [32] 0 [] r).length ≤ _
      rw [List.length_cons, List.length_cons]; omega
    · rw [TL.spl_miss (TL.pre_of_head [] r hc)]
      have := spl_len r (cur ++ [c])
      rw [List.length_cons]; omega
section
variable {P : Program} {w : World} {K : PySem.W.Frag} {mg : Str → Option Value} {base : Heap}
/-! ### words_of -/
theorem scWords : FnScope ["text", "word"] ["text"] (defScope sWords) := ⟨rfl, rfl, rfl, by decide +kernel, rfl, by decide +kernel, by decide +kernel⟩
def spWords : Sp := fun vs H Q _ => ∃ l : List Nat, vs = [sv l] ∧ l.length ≤ 900 ∧ ∀ H' p, Same H H' → H' p = some (.lst ((words l).map sv)) → Q (.ref p) H'
theorem ok_words {f : Addr} {fd : FuncData} {k : Nat} (F : Fun K "words_of" "words_of" sWords f fd) : FnOk P w K mg base CX0 (k + 1) f fd ["text"] spWords := by
  refine F.ok scWords (fun vs H Q E h => ?_) (fun cdv A outer s H vs Q E hr h => ?_)
  · obtain ⟨l, rfl, _⟩ := h
    rfl
  · obtain ⟨l, rfl, hl, q⟩ := h
    refine ⟨_, pss_one (ps_ret (pe_lc (own := [("word", 1)]) (g := gName 1) rfl scWords.nd (pi_list (pe_split (pv 0) pe_str))
      (blkOk_by (own := [("word", 1)]) (N := ["text", "word"]) (sc := defScope sWords) (by decide +kernel))
      (fun _ _ _ _ _ => pg_name (i := 1) scWords.nd rfl (Or.inl rfl)) (fun _ _ _ _ _ => pts_one (pt_cmpR op_ne (pv 1) pe_str (nomark _))) (fun _ _ _ _ _ => pv 1))), ?_⟩
    have eS : Txt.split (tx l) " " = (TL.spl [32] 0 [] l).map tx := by rw [lit32]; exact split_tx l
    refine ⟨_, rfl, ⟨_, rfl⟩, _, _, rfl, rfl, by decide +kernel, ?_, fun p np => ?_⟩
    · rw [tx_len]
      have : sizeLine = 16777216 := sizeLine_eq
      omega
    rw [eS]
    have hz := spl_len l []
    have hW : (TL.spl [32] 0 [] l).filter (fun p => decide (p ≠ [])) = words l := spl_wl l []
    generalize TL.spl [32] 0 [] l = ps at hz hW
    refine ⟨p, rfl, ⟨_, .inl (.inl upd_same)⟩, fun D nD => ?_⟩
    have hpD : p ≠ D := ne_of_none upd_same nD
    refine lc_list (K := K) (a := p) (xs := (ps.map tx).map V.str) (fun i H' => Same H H' ∧ H' p = some (.lst ((ps.map tx).map V.str)) ∧ H' D = some (.lst (((ps.take i).filter fun p => decide (p ≠ [])).map sv)))
      ⟨(same_upd np).trans (same_upd nD), by rw [upd_ne hpD, upd_same], by rw [upd_same]; rfl⟩ (fun i H' _ h => .inl (.inl h.2.1)) ?_ ?_
    · rintro i x H2 hx ⟨s2, h1, h2⟩
      obtain ⟨y, hy, rfl⟩ := map_at hx
      obtain ⟨u, hu, rfl⟩ := map_at hy
      have hi : i < ps.length := (List.getElem?_eq_some_iff.mp hu).1
      have nHD : ∀ {o}, Same H (upd H2 D o) := fun {o} b x e => by
        have hb : b ≠ D := ne_of_none ((same_upd np) b x e) nD
        rw [upd_ne hb]
        exact s2 b x e
      refine ⟨rfl, _, rfl, rfl, _, rfl, ?_⟩
      rw [lit0, dec_tx]
      by_cases hu0 : u = []
      · rw [decide_eq_true hu0]
        refine iteF ⟨s2, h1, ?_⟩
        rw [filt_step hu, if_neg (by simp [hu0]), List.append_nil]
        exact h2
      · rw [decide_eq_false hu0]
        refine iteT ⟨_, rfl, _, h2, small1000 ?_, nHD, ?_, ?_⟩
        · rw [List.length_map]
          have h3 := List.length_filter_le (fun p => decide (p ≠ [])) (ps.take i)
          rw [List.length_take] at h3
          omega
        · rw [upd_ne hpD]
          exact h1
        · rw [upd_same, filt_step hu, if_pos (by simp [hu0]), List.map_append]
          rfl
    · rintro H2 ⟨s2, h1, h2⟩
      rw [List.length_map, List.length_map, List.take_length, hW] at h2
      exact q H2 D s2 h2
/-! ### tidy -/
theorem scTidy : FnScope ["text"] ["text"] (defScope sTidy) := ⟨rfl, rfl, rfl, by decide +kernel, rfl, by decide +kernel, by decide +kernel⟩
def spTidy : Sp := fun vs H Q _ => ∃ l : List Nat, vs = [sv l] ∧ l.length ≤ 900 ∧ ∀ H', Same H H' → Q (sv (tidy l)) H'
theorem join_fits {l : List Nat} (hl : l.length ≤ 900) : (((words l).map tx).map (·.length)).sum + ((words l).map tx).length * ((" " : Str)).length ≤ 16777216 := by
  have h1 := words_sum l
  have h2 := words_len l
  rw [List.map_map, List.length_map]
  have e : ((fun x : Str => x.length) ∘ tx) = List.length := funext fun x => tx_len x
  have e2 : ((" " : Str)).length = 1 := by decide +kernel
  rw [e, e2]
  omega
theorem ok_tidy {f fW : Addr} {fd fdW : FuncData} (F : Fun K "tidy" "tidy" sTidy f fd) (FW : Fun K "words_of" "words_of" sWords fW fdW) (bW : Binds K fdW ["text"] []) (gW : mg "words_of" = some (.ref fW)) : FnOk P w K mg base CX0 2 f fd ["text"] spTidy := by
  have GW : FnOk P w K mg base CX0 1 fW fdW ["text"] spWords := ok_words FW
  refine F.ok scTidy (fun vs H Q E h => ?_) (fun cdv A outer s H vs Q E hr h => ?_)
  · obtain ⟨l, rfl, _⟩ := h
    rfl
  · obtain ⟨l, rfl, hl, q⟩ := h
    refine ⟨_, pss_one (ps_ret (pe_join pe_str (pe_call GW hr (by rfl) gW FW.kp bW .nil pass0 (pa_cons (pv 0) pa_nil)))), ?_⟩
    refine ⟨⟨_, rfl⟩, _, rfl, l, rfl, hl, fun H' p sm hp => ?_⟩
    refine ⟨_, p, (words l).map tx, rfl, rfl, .inl (.inl (.inl (by rw [List.map_map]; exact hp))), join_fits hl, ?_⟩
    rw [lit32, join_tx]
    exact q H' sm
end
end KP
namespace KP
open PySem PySem.Spec PyProof.Rows L2 KM KT
/-! ### a text, sign by sign -/
theorem at_tx {l : List Nat} {i : Nat} : (tx l).cps[i]? = l[i]? := by
  show l.toArray[i]? = l[i]?
  simp
theorem for_str {l : List Nat} {g : TG} {tb : TS} {D : Ends} {v : L2.St} {H : Hp} (Pv : Nat → L2.St → Hp → Prop) (h0 : Pv 0 v H)
    (hs : ∀ i c v H, l[i]? = some c → Pv i v H → g (sv [c]) v H fun v2 H2 => tb { D with nx := Pv (i + 1), ct := Pv (i + 1), bk := D.nx } v2 H2) (hd : ∀ v H, Pv l.length v H → D.nx v H) :
    ∃ W : Nat → Nat → L2.St → Hp → Prop, (∃ m, W 0 m v H) ∧ ∀ i m v H, W i m v H →
      ((Its (tx l)).stop i H ∧ D.nx v H) ∨ ((Its (tx l)).go i H ∧ ∃ N : L2.St → Hp → Prop, (∀ v' H', N v' H' → ∃ m', m' < m ∧ W (i + 1) m' v' H') ∧
        ∀ x H', (Its (tx l)).yld i H x H' → g x v H' fun v2 H2 => tb { D with nx := N, ct := N, bk := D.nx } v2 H2) := by
  refine ⟨fun i m v H => m = l.length - i ∧ i ≤ l.length ∧ Pv i v H, ⟨l.length, by simp, Nat.zero_le _, h0⟩, ?_⟩
  rintro i m v H ⟨rfl, hi, p⟩
  by_cases hlt : i < l.length
  · refine .inr ⟨hlt, Pv (i + 1), fun v' H' p' => ⟨l.length - (i + 1), by omega, rfl, hlt, p'⟩, fun x H' y => ?_⟩
    obtain ⟨rfl, c, hc, rfl⟩ := y
    rw [at_tx] at hc
    exact hs i c v _ hc p
  · obtain rfl : i = l.length := by omega
    exact .inl ⟨Nat.le_refl _, hd v H p⟩
theorem lc_str {l : List Nat} {g : TG} {tt : TT} {te : TE} {vs : List Nat} {v : L2.St} {H1 : Hp} {D : Addr} {Qd : Hp → Prop} (Pv : Nat → Hp → Prop) (h0 : Pv 0 (upd H1 D (.lst [])))
    (hs : ∀ i c H, l[i]? = some c → Pv i H → g (sv [c]) (wipe v vs) H fun v2 H2 => wipe v2 vs = wipe v vs ∧ tt v2 H2 fun b H3 =>
      if b = true then te v2 H3 fun y H4 => ∃ acc, H4 D = some (.lst acc) ∧ acc.length < sizeLine ∧ Pv (i + 1) (upd H4 D (.lst (acc ++ [y]))) else Pv (i + 1) H3) (hd : ∀ H, Pv l.length H → Qd H) :
    ∃ W : Nat → Nat → Hp → Prop, (∃ m, W 0 m (upd H1 D (.lst []))) ∧ ∀ i m H, W i m H →
      ((Its (tx l)).stop i H ∧ Qd H) ∨ ((Its (tx l)).go i H ∧ ∃ Nx : Hp → Prop, (∀ H', Nx H' → ∃ m', m' < m ∧ W (i + 1) m' H') ∧ ∀ x H', (Its (tx l)).yld i H x H' → g x (wipe v vs) H' fun v2 H2 => wipe v2 vs = wipe v vs ∧ tt v2 H2 fun b H3 =>
        if b = true then te v2 H3 fun y H4 => ∃ acc, H4 D = some (.lst acc) ∧ acc.length < sizeLine ∧ Nx (upd H4 D (.lst (acc ++ [y]))) else Nx H3) := by
  refine ⟨fun i m H => m = l.length - i ∧ i ≤ l.length ∧ Pv i H, ⟨l.length, by simp, Nat.zero_le _, h0⟩, ?_⟩
  rintro i m H ⟨rfl, hi, p⟩
  by_cases hlt : i < l.length
  · refine .inr ⟨hlt, Pv (i + 1), fun H' p' => ⟨l.length - (i + 1), by omega, rfl, hlt, p'⟩, fun x H' y => ?_⟩
    obtain ⟨rfl, c, hc, rfl⟩ := y
    rw [at_tx] at hc
    exact hs i c _ hc p
  · obtain rfl : i = l.length := by omega
    exact .inl ⟨Nat.le_refl _, hd H p⟩
/-- the letters of a name -/
def lts : List Nat := TL.tl ("abcdefghijklmnopqrstuvwxyzABCDEFGHIJKLMNOPQRSTUVWXYZ0123456789" : Str)
theorem lts_ok : ∀ c ∈ lts, lett c = true := by decide +kernel
theorem lts_has : ∀ c, c < 123 → lett c = true → c ∈ lts := by decide +kernel
theorem mem_lts (c : Nat) : decide (c ∈ lts) = lett c := by
  rw [Bool.eq_iff_iff, decide_eq_true_eq]
  constructor
  · exact lts_ok c
  · intro h
    refine lts_has c ?_ h
    unfold lett at h
    simp only [Bool.or_eq_true, Bool.and_eq_true, decide_eq_true_eq] at h
    omega
section
variable {P : Program} {w : World} {K : PySem.W.Frag} {mg : Str → Option Value} {base : Heap}
/-! ### is_name -/
theorem scIsName : FnScope ["thing", "sign"] ["thing"] (defScope sIsName) := ⟨rfl, rfl, rfl, by decide +kernel, rfl, by decide +kernel, by decide +kernel⟩
def spIsName : Sp := fun vs H Q _ => ∃ l : List Nat, vs = [sv l] ∧ l.length ≤ 900 ∧ ∀ H', Same H H' → Q (.bl (isNm l)) H'
theorem ok_isName {f : Addr} {fd : FuncData} {k : Nat} (F : Fun K "is_name" "is_name" sIsName f fd) (T : Txt K mg) : FnOk P w K mg base CX0 (k + 1) f fd ["thing"] spIsName := by
  obtain ⟨tL, hL⟩ := T.lts
  obtain ⟨tM, hM⟩ := T.most
  refine F.ok scIsName (fun vs H Q E h => ?_) (fun cdv A outer s H vs Q E hr h => ?_)
  · obtain ⟨l, rfl, _⟩ := h
    rfl
  · obtain ⟨l, rfl, hl, q⟩ := h
    refine ⟨_, pss_cons (ps_if (PW.pt (pw_or (pt_not (pt_val (pe_callB call_isi (by rfl) T.isi (by decide +kernel) (pa_cons (pv 0) (pa_cons (pe_bltn (v := .ty "str") (by rfl) T.str (by decide +kernel) rfl) pa_nil)))))
        (pw_or1 (pt_not (pt_chain op_le op_le pe_int (pe_callB call_len_str (by rfl) T.len PySem.boot_len (pa_cons (pv 0) pa_nil)) (pe_glob (v := .int 12) (by rfl) hM ⟨_, rfl⟩))))))
        (pss_one (ps_ret pe_bl)) pss_nil)
      (pss_one (ps_ret (pe_callB (cr_all rfl) (by rfl) T.all (by decide +kernel) (pa_cons (pe_lc (own := [("sign", 1)]) (g := gName 1) (tt := tYes) rfl scIsName.nd (pi_str (pv 0))
        (blkOk_by (own := [("sign", 1)]) (N := ["thing", "sign"]) (sc := defScope sIsName) (by decide +kernel))
        (fun _ _ _ _ _ => pg_name (i := 1) scIsName.nd rfl (Or.inl rfl)) (fun _ _ _ _ _ => pts_nil) (fun _ _ _ _ _ => pe_cmpR op_in_sign (pv 1) (pe_glob (v := .str _) (by rfl) hL ⟨_, rfl⟩) rfl)) pa_nil)))), ?_⟩
    have hsz : sizeLine = 16777216 := sizeLine_eq
    refine ⟨_, rfl, _, _, _, _, true, rfl, .ty "str", .base (.str _), kit_ty (by decide +kernel), _, rfl, ?_⟩
    refine iteF ⟨_, rfl, _, rfl, by rw [tx_len]; omega, 1, _, rfl, rfl, _, rfl, ?_⟩
    rw [tx_len]
    by_cases h1 : (1 : Int) ≤ (l.length : Int)
    · rw [decide_eq_true h1]
      refine iteT ⟨_, 12, rfl, rfl, _, rfl, ?_⟩
      by_cases h2 : (l.length : Int) ≤ 12
      · rw [decide_eq_true h2]
        refine iteF ?_
        refine ⟨_, rfl, _, rfl, fun D nD => ?_⟩
        refine lc_str (fun i H' => Same H H' ∧ H' D = some (.lst (((l.take i).map lett).map V.bl))) ⟨same_upd nD, by rw [upd_same]; rfl⟩ ?_ ?_
        · rintro i c H2 hc ⟨s2, h3⟩
          refine ⟨rfl, _, rfl, c, _, rfl, rfl, _, h3, small1000 ?_, ?_, ?_⟩
          · rw [List.length_map, List.length_map, List.length_take]; omega
          · intro b x e
            rw [upd_ne (ne_of_none e nD)]
            exact s2 b x e
          · rw [upd_same, take_step hc, List.map_append, List.map_append]
            show some (HO.lst (_ ++ [V.bl (decide (c ∈ lts))])) = some (HO.lst (_ ++ [V.bl (lett c)]))
            rw [mem_lts]
        · rintro H2 ⟨s2, h3⟩
          rw [List.take_length] at h3
          refine ⟨D, l.map lett, rfl, .inl (.inl h3), ?_⟩
          have e : (l.map lett).all id = isNm l := by
            have e1 : decide (1 ≤ l.length) = true := decide_eq_true (by omega)
            have e2 : decide (l.length ≤ 12) = true := decide_eq_true (by omega)
            unfold isNm
            rw [e1, e2, List.all_map]
            rfl
          rw [e]
          exact q H2 s2
      · rw [decide_eq_false h2]
        refine iteT ?_
        have e2 : isNm l = false := by
          unfold isNm
          rw [decide_eq_false (show ¬ l.length ≤ 12 by omega)]
          simp
        have z := q H (Same.refl H)
        rw [e2] at z
        exact z
    · rw [decide_eq_false h1]
      refine iteF ⟨_, rfl, iteT ?_⟩
      have e2 : isNm l = false := by
        unfold isNm
        rw [decide_eq_false (show ¬ 1 ≤ l.length by omega)]
        simp
      have z := q H (Same.refl H)
      rw [e2] at z
      exact z
end
end KP
namespace KT
open PySem PySem.Spec PyProof.Rows L2
section
variable {n : Nat} {X : Cx}
/-- a comprehension whose element wants its n tokens -/
theorem ne_lc {elt tg iter : Expr} {ifs : List Expr} {scope : Scope} {own : List (Str × Nat)} {pos : Pos} {wi : TI} {g : TG} {tt : TT} {te : TE} (hc : X.calm = true) (hN : X.N.Nodup) (hi : PI X tg iter wi) (ok : BlkOk X.N X.env.scope scope own)
    (hg : ∀ (a : Shared) (H : Hp) (C : Addr) (cl : List (Str × Addr)) (fp : List Addr), PG (X.blk a H scope (compEnvC scope cl C X.env) fp) tg g)
    (ht : ∀ (a : Shared) (H : Hp) (C : Addr) (cl : List (Str × Addr)) (fp : List Addr), PTs (X.blk a H scope (compEnvC scope cl C X.env) fp) ifs tt)
    (he : ∀ (a : Shared) (H : Hp) (C : Addr) (cl : List (Str × Addr)) (fp : List Addr), NE n (X.blk a H scope (compEnvC scope cl C X.env) fp) elt te)
    (hs : ∀ x, foldedSetIterable iter X.env x = pure x := by intro _; rfl) : NE n X (.ListComp elt [⟨tg, iter, ifs, 0⟩] scope pos) (tLc wi g tt te (own.map (·.2))) := by
  intro pn s v H Q hn I h
  rw [eval_ListComp]
  have hfree : ∀ y ∈ scope.names, y.2 = .free → ∃ c, X.env.cells.lookup y.1 = some c := fun y hy z =>
    (ok.free y hy z).elim (fun k => I.ok.has _ (.inl k)) fun k => I.ok.has _ (.inr k)
  refine wpAny_comprehension_free (use := none) rfl hs (closure_ok hfree) ok.kind (fun y hy z => by rw [ok.uniq y hy, z])
    (thk hn (hi.run pn s v H _ I h) fun xv s1 n1 hx => thk n1 hx fun itv s2 n2 h2 => ?_)
  obtain ⟨it, fp, tn, J, H2, eit, I2, T, st2, f2, q⟩ := h2
  subst eit
  refine wpAny_newObj_type (newEnv_comp ?_) (by show 0 ≤ sizeLine; decide)
  generalize hD : s2.heap.objs.size = D
  have hDn : H2 D = none := I2.hok.fresh (Nat.le_of_eq hD)
  obtain ⟨W, ⟨m0, w0⟩, turn⟩ := q D hDn
  generalize hs3 : ({ s2 with heap := s2.heap.push { cls := .type "list", data := .seq ([] : List Value).toArray } } : Shared) = s3
  have n3 : n ≤ s3.toks := by rw [← hs3]; exact n2
  have h3 : s3.heap = s2.heap.push { cls := .type "list", data := .seq ([] : List Value).toArray } := by rw [← hs3]
  have I3 : Inv X pn v (upd H2 D (.lst [])) s3 := by
    rw [← hs3]
    refine I2.laid (t' := s2.toks) (fun b o w => Heap.get?_push_of_some _ w) (Nat.le_of_eq hD) ⟨Nat.zero_le _, [], 0, .nil, ?_⟩
    rw [← hD]
    exact Heap.get?_push_size _ rfl
  have sz : ∀ b ∈ fp, b < s2.heap.objs.size := fun b hb =>
    let ⟨_, w, _⟩ := T.obj _ _ st2 b hb
    Heap.lt_size w
  have f3 : ∀ b ∈ fp, FpOk X pn (upd H2 D (.lst [])) b ∧ b < s3.heap.objs.size := fun b hb => by
    refine ⟨⟨?_, (f2 b hb).2⟩, by rw [h3, Heap.size_push]; exact Nat.lt_succ_of_lt (sz b hb)⟩
    rw [upd_ne (by rw [← hD]; exact Nat.ne_of_lt (sz b hb))]
    exact (f2 b hb).1
  have st3 : tn 0 s3.heap := T.keep _ _ _ st2 fun b _ o w => by rw [h3]; exact Heap.get?_push_of_some _ w
  have I4 := block_start I3 ok hN f3
  have pg := hg s3 (upd H2 D (.lst [])) s3.heap.objs.size (cellsFrom (s3.heap.objs.size + 1) scope.names (cloFrom X.env.cells scope.names [])) fp
  have pt := ht s3 (upd H2 D (.lst [])) s3.heap.objs.size (cellsFrom (s3.heap.objs.size + 1) scope.names (cloFrom X.env.cells scope.names [])) fp
  have ne := he s3 (upd H2 D (.lst [])) s3.heap.objs.size (cellsFrom (s3.heap.objs.size + 1) scope.names (cloFrom X.env.cells scope.names [])) fp
  generalize hQf : EP X pn v Q = Qf
  show codeAny _ _ (.compStart (.ListComp elt [⟨tg, iter, ifs, 0⟩] scope pos) 0 (.ref it) (.ref D) (compEnvC scope (cellsFrom (s3.heap.objs.size + 1) scope.names (cloFrom X.env.cells scope.names [])) s3.heap.objs.size X.env))
    (compPost (model X.prog X.w) X.A X.xe none Qf (.ref D) s3.heap.objs.size) { s3 with heap := pushCells (s3.heap.push { cls := .type "dict", data := .dict #[] }) scope.names }
  have nfp : ∀ b ∈ fp, (upd H2 D (.lst [])) b = none := fun b hb => (f3 b hb).1.1
  generalize hce : compEnvC scope (cellsFrom (s3.heap.objs.size + 1) scope.names (cloFrom X.env.cells scope.names [])) s3.heap.objs.size X.env = ce at I4 pg pt ne ⊢
  have cL : ce.locals = s3.heap.objs.size := by subst hce; rfl
  generalize hH3 : upd H2 D (.lst []) = H3 at I3 I4 pg pt ne w0 nfp f3
  generalize hs4 : ({ s3 with heap := pushCells (s3.heap.push { cls := .type "dict", data := .dict #[] }) scope.names } : Shared) = s4 at I4 ⊢
  have n4 : n ≤ s4.toks := by rw [← hs4]; exact n3
  have st4 : tn 0 s4.heap := T.keep _ _ _ st3 fun b _ o w => by rw [← hs4]; exact pushCells_keeps _ _ _ _ (Heap.get?_push_of_some _ w)
  have stat : ∀ {v1 : L2.St} {G : Hp} {u : Shared}, Inv (X.blk s3 H3 scope ce fp) [] v1 G u → (∀ b ∈ fp, G b = none) → ∀ b ∈ fp, FpOk (X.blk s3 H3 scope ce fp) [] G b := fun {v1 G u} J z b hb =>
    ⟨z b hb, (J.ok.exf b hb).1, J.ok.exfs b hb, .inl hb, fun x c w => (J.ok.exf b hb).2 x c w, fun p hp => absurd (show p ∈ ([] : List (Addr × Obj)) from hp) (by simp)⟩
  have loop : codeAny (model X.prog X.w) X.A (.compLoop (.ListComp elt [⟨tg, iter, ifs, 0⟩] scope pos) 0 (.ref it) (.ref D) ce) (compPost (model X.prog X.w) X.A X.xe none Qf (.ref D) s3.heap.objs.size) s4 := by
    refine compLoop_any (fun k u => n ≤ u.toks ∧ ∃ i G, Inv (X.blk s3 H3 scope ce fp) [] (wipe v (own.map (·.2))) G u ∧ tn i u.heap ∧ (∀ b ∈ fp, G b = none) ∧ W i k G) ?_ m0 ⟨n4, 0, H3, I4, st4, nfp, w0⟩
    rintro k s5 ⟨n5, i, H5, I5, st5, z5, w5⟩
    rcases turn i k H5 w5 with ⟨stp, qq⟩ | ⟨go, Nx, hNx, stepN⟩
    · refine thnF (T.done (X.blk s3 H3 scope ce fp) rfl rfl rfl hc i [] s5 _ H5 (fun _ _ => False) I5 (stat I5 z5) st5 stp) fun r s6 ⟨hr, I6⟩ => ?_
      subst hr
      have I7 : Inv X pn v H5 s6 := I3.call' (ch := fp) I6.os I6.base I6.hok I6.bare fun b hb =>
        have y := (f3 b hb).1.2
        ⟨y.2.2.1, y.1, y.2.2.2.1, y.2.2.2.2⟩
      have nC : H5 s3.heap.objs.size = none := by
        have z : H5 ce.locals = none := I6.free
        rwa [cL] at z
      obtain ⟨m, hm, _⟩ := I6.loc
      have hm : s6.heap.Ns ce.locals m := hm
      rw [cL] at hm
      obtain ⟨g0, g1, g2, g3, g4, g5⟩ := I3.fpOk (Nat.le_refl _) nC
      refine ⟨m, hm, fun h9 sb => ?_⟩
      rw [← hQf]
      exact ⟨.ref D, H5, I7.turned (t' := s6.toks) (fun b o hb w => (sb.2 b hb).trans w) g0 g1 g3 g4 g5, rfl, qq⟩
    · have ti := PySem.wpAny_toks_of n5 (T.item (X.blk s3 H3 scope ce fp) rfl rfl rfl hc i [] s5 _ H5 (fun _ _ => False) I5 (stat I5 z5) st5 go)
      refine wpAny_mono ti (fun r s6 ⟨n6, w6, hr, h6⟩ => ?_) fun _ _ z => z.2.elim
      subst hr
      refine wpAny_mono (PySem.wpAny_toks_of n6 h6) (fun _ s7 ⟨n7, x, H7, I7, r7, y7, st7, z7⟩ => ?_) fun _ _ z => z.2.elim
      have Ip := I7.pinned (stat I7 z7) (T.obj _ _ st7)
      refine wpAny_mono (PySem.wpAny_toks_of n7 (pg.run _ s7 _ H7 x w6 _ Ip r7 (stepN x H7 y7))) (fun _ s8 ⟨n8, v8, H8, I8, hw8, q8⟩ => ?_) fun _ _ z => z.2.elim
      refine wpAny_mono (PySem.wpAny_toks_of n8 (pt.run _ s8 v8 H8 _ I8 q8)) (fun b s9 ⟨n9, H9, I9, q9⟩ => ?_) fun _ _ z => z.2.elim
      have fin : ∀ {u : Shared} {G : Hp}, n ≤ u.toks → Inv (X.blk s3 H3 scope ce fp) ([] ++ pinsAt fp s7.heap) v8 G u → Nx G →
          ∃ m, m < k ∧ n ≤ u.toks ∧ ∃ j G, Inv (X.blk s3 H3 scope ce fp) [] (wipe v (own.map (·.2))) G u ∧ tn j u.heap ∧ (∀ b ∈ fp, G b = none) ∧ W j m G := fun {u G} nu J nx => by
        obtain ⟨m, hm, w'⟩ := hNx G nx
        have look : ∀ b ∈ fp, ∀ o, s7.heap.get? b = some o → u.heap.get? b = some o ∧ G b = none := fun b hb o w =>
          have y := J.pin (b, o) (List.mem_append_right _ (List.mem_append_right _ (mem_pinsAt hb w)))
          ⟨y.1, y.2.1⟩
        refine ⟨m, hm, nu, i + 1, G, (J.unpinned (pins := [])).weak (by rw [← hw8, wipe_length]) (fun j a w => ?_), T.keep _ _ _ st7 fun b hb o w => (look b hb o w).1, fun b hb => ?_, w'⟩
        · rw [← hw8] at w
          exact (wipe_some w).1
        · obtain ⟨o, w, _⟩ := T.obj _ _ st7 b hb
          exact (look b hb o w).2
      cases b with
      | false =>
        have q9 : Nx H9 := q9
        exact fin n9 I9 q9
      | true =>
        have q9 : te v8 H9 fun y H4 => ∃ acc, H4 D = some (.lst acc) ∧ acc.length < sizeLine ∧ Nx (upd H4 D (.lst (acc ++ [y]))) := q9
        refine wpAny_mono (PySem.wpAny_toks_of n9 (ne _ s9 v8 H9 _ n9 I9 q9)) (fun z s10 ⟨na, yv, Ha, Ia, ra, acc, hDa, hza, nx⟩ => ?_) fun _ _ z => z.2.elim
        refine wpAny_mono (PySem.wpAny_toks_of na (app_ok (X := X.blk s3 H3 scope ce fp) (E := fun _ _ => False) (Q := fun _ u => Inv (X.blk s3 H3 scope ce fp) ([] ++ pinsAt fp s7.heap) v8 (upd Ha D (.lst (acc ++ [yv]))) u) Ia hDa hza ra fun u J => J)) (fun _ u ⟨nu, J⟩ => fin nu J nx) fun _ _ z => z.2.elim
  exact codeAny_compStart_list loop (T.self X.A 0 _ _ _ st4 loop)
end
end KT
namespace KT
open PySem PySem.Spec PyProof.Rows L2 KM
section
variable {n : Nat} {X : Cx}
/-- e.replace(SLASH + BAR, BAR): the first is made here, the second is the module's -/
def tRp (to : TE) : TE := fun v H Q => to v H fun x H1 => ∃ z, x = .str z ∧ z.length ≤ 100000 ∧ Q (.str (Txt.replace z (tx [92, 124]) (tx [124]))) H1
theorem ne_repl {o : Expr} {to : TE} {apos pos p1 p2 p3 p4 : Pos} {tS tB : Tok} (ho : PE X o to) (gS : Gl X "SLASH") (gB : Gl X "BAR") (hS : X.mg "SLASH" = some (.str "\\" tS)) (hB : X.mg "BAR" = some (.str "|" tB)) (h0 : tB ≠ 0) (h1 : tB < n)
    (hst : starEach [.BinOp (.Name "SLASH" p1) .Add (.Name "BAR" p2) p3, .Name "BAR" p4] X.env = [(false, eval (.BinOp (.Name "SLASH" p1) .Add (.Name "BAR" p2) p3) X.env), (false, eval (.Name "BAR" p4) X.env)] := by rfl)
    (hbase : attributeBase o "replace" X.env (eval o X.env) = eval o X.env := by rfl) (hline : (apos.endLine == pos.line) = true := by rfl) :
    NE n X (.Call (.Attribute o "replace" apos) [.BinOp (.Name "SLASH" p1) .Add (.Name "BAR" p2) p3, .Name "BAR" p4] [] pos) (tRp to) := by
  intro pn s v H Q hn I h
  refine PySem.Call_method2 hbase hst hline (thk hn (ho.run pn s v H _ I h) fun u s1 n1 ⟨x, H1, I1, r1, z, ez, hz, q⟩ => ?_)
  have n2 : n ≤ s1.toks := n1
  have t2 : s1.toks ≠ tB := Nat.ne_of_gt (Nat.lt_of_lt_of_le h1 n2)
  have t1 : s1.toks ≠ 0 := Nat.ne_of_gt (Nat.lt_of_lt_of_le (Nat.lt_of_le_of_lt (Nat.zero_le _) h1) n2)
  subst ez
  obtain ⟨t, et⟩ := r1
  subst et
  refine ⟨"str", _, PySem.F.plainAttrs_str, PySem.F.slot_str_replace, PySem.F.type_str_replace, typeIs_str _ _ _, (fun _ w => nomatch w), ?_⟩
  refine Calls.callWith_builtin rfl (Calls.evalArgs_plain (Calls.spliced_cons (wpAny_BinOp (ld_glob I1 gS hS (ld_glob I1 gB hB (PySem.P.add_str ?_))))))
  have e2 : ("\\" : Str) ++ ("|" : Str) = tx [92, 124] := by decide +kernel
  rw [if_neg (by decide +kernel), if_neg (by decide +kernel), e2]
  refine ⟨by decide +kernel, Calls.spliced_cons (ld_glob (I1.tok _) gB hB (Calls.spliced_nil ?_))⟩
  have e3 : ("|" : Str) = tx [124] := lit124
  rw [e3]
  have hl : (tx [124]).length = 1 := rfl
  refine PySem.SC.replace t1 h0 t2 (by decide +kernel) (by rw [hl]; omega) fun t' k => ?_
  exact ⟨.str (Txt.replace z (tx [92, 124]) (tx [124])), H1, I1.tok k, ⟨t', rfl⟩, q⟩
end
end KT
namespace KP
open PySem PySem.Spec PyProof.Rows L2 KM KT
theorem cp_sum : ∀ (l a cur : List Nat), (cp a cur l).length ≤ l.length + 1 ∧ ∀ p ∈ cp a cur l, p.length ≤ cur.length + l.length
  | [], a, cur => by
    rw [cp]
    refine ⟨Nat.le_refl _, fun p hp => ?_⟩
    rw [List.mem_singleton.mp hp]; exact Nat.le_refl _
  | c :: r, a, cur => by
    rw [cp]
    by_cases h : c = 124 ∧ a ≠ [92]
    · rw [if_pos h]
      obtain ⟨h1, h2⟩ := cp_sum r [c] []
      refine ⟨by rw [List.length_cons, List.length_cons]; omega, fun p hp => ?_⟩
      rw [List.length_cons]
      rcases List.mem_cons.mp hp with e | e
      · rw [e]; omega
      · have := h2 p e
        rw [List.length_nil] at this; omega
    · rw [if_neg h]
      obtain ⟨h1, h2⟩ := cp_sum r [c] (cur ++ [c])
      refine ⟨by rw [List.length_cons]; omega, fun p hp => ?_⟩
      have := h2 p hp
      rw [List.length_append, List.length_singleton] at this
      rw [List.length_cons]; omega
theorem at_last (acc : List (List Nat)) (cur : List Nat) : atI ((acc ++ [cur]).map sv) (-1) = some (sv cur) := by
  rw [List.map_append]
  exact atI_last _ _
theorem ix_last {α : Type} (xs : List α) (x : α) : ixN (xs ++ [x]).length (-1) = some xs.length := by
  rw [List.length_append, List.length_singleton]
  unfold ixN
  rw [if_neg (by decide), if_pos (by omega)]
  congr 1
  omega
theorem set_last {α : Type} (xs : List α) (x y : α) : (xs ++ [x]).set xs.length y = xs ++ [y] := by
  rw [List.set_append_right _ _ (Nat.le_refl _), Nat.sub_self]
  rfl
section
variable {P : Program} {w : World} {K : PySem.W.Frag} {mg : Str → Option Value} {base : Heap}
theorem scSplit : FnScope ["text", "found", "ahead", "sign", "one"] ["text"] (defScope sSplit) := ⟨rfl, rfl, rfl, by decide +kernel, rfl, by decide +kernel, by decide +kernel⟩
def spSplit : Sp := fun vs H Q _ => ∃ l : List Nat, vs = [sv l] ∧ l.length ≤ 900 ∧ ∀ H' p, Same H H' → H' p = some (.lst ((cells l).map sv)) → Q (.ref p) H'
theorem ok_split {f fT : Addr} {fd fdT : FuncData} (F : Fun K "split_cells" "split_cells" sSplit f fd) (T : Txt K mg) (FT : Fun K "tidy" "tidy" sTidy fT fdT) (bT : Binds K fdT ["text"] []) (gT : mg "tidy" = some (.ref fT))
    (GT : FnOk P w K mg base CX0 2 fT fdT ["text"] spTidy) : FnN 385 P w K mg base 3 f fd ["text"] spSplit := by
  obtain ⟨tB, hB, hB0, hB1⟩ := T.bar
  obtain ⟨tS, hS⟩ := T.slash
  refine fnN F scSplit (fun vs H Q E h => ?_) (fun cdv A outer s H vs Q E hr h => ?_)
  · obtain ⟨l, rfl, _⟩ := h
    rfl
  · obtain ⟨l, rfl, hl, q⟩ := h
    refine ⟨_, nb_cons (ns_of (ps_set (i := 1) scSplit.nd rfl (.inl rfl) (pe_lst (pa_cons pe_str pa_nil))))
      (nb_cons (ns_of (ps_set (i := 2) scSplit.nd rfl (.inl rfl) pe_str))
      (nb_cons (ns_of (ps_for PassesOwn.never rfl (pi_str (pv 0)) (pg_name (i := 3) scSplit.nd rfl (.inl rfl))
        (pss_cons (ps_if (PW.pt (pw_and (pt_cmpR op_eq (pv 3) (pe_glob (v := .str "|") (by rfl) hB ⟨_, rfl⟩) (nomark _)) (pw_and1 (pt_cmpR op_ne (pv 2) (pe_glob (v := .str "\\") (by rfl) hS ⟨_, rfl⟩) (nomark _)))))
            (pss_one (ps_expr (pe_bm PySem.F.plainAttrs_list PySem.F.slot_list_append PySem.F.type_list_append mt_append (pv 1) (pa_cons pe_str pa_nil))))
            (pss_one (ps_asg (pe_op op_add_str (pe_ix ix_list (pv 1) (pe_un un_neg pe_int) (fun _ _ => rfl)) (pv 3)) (pg_sub (pv 1) (pe_un un_neg pe_int) set_list))))
          (pss_one (ps_set (i := 2) scSplit.nd rfl (.inl rfl) (pv 3))))))
      (nb_one (ns_ret (ne_lc (own := [("one", 4)]) (g := gName 4) (tt := tYes) rfl scSplit.nd (pi_list (pv 1))
        (blkOk_by (own := [("one", 4)]) (N := ["text", "found", "ahead", "sign", "one"]) (sc := defScope sSplit) (by decide +kernel))
        (fun _ _ _ _ _ => pg_name (i := 4) scSplit.nd rfl (Or.inl rfl)) (fun _ _ _ _ _ => pts_nil)
        (fun _ _ _ _ _ => ne_repl (pe_call GT hr (by rfl) gT FT.kp bT .nil pass0 (pa_cons (pv 4) pa_nil)) (by rfl) (by rfl) hS hB hB0 hB1)))))), ?_⟩
    have hsz : sizeLine = 16777216 := sizeLine_eq
    refine ⟨by show 1 ≤ sizeLine; omega, fun o no => ?_⟩
    refine ⟨_, rfl, _, rfl, for_str (l := l) (fun i v H' => ∃ acc cur ahead y, v = [some (sv l), some (.ref o), some (sv ahead), y, none] ∧ Same H H' ∧ H' o = some (.lst ((acc ++ [cur]).map sv)) ∧ acc ++ cp ahead cur (l.drop i) = cp [] [] l ∧ acc.length ≤ i ∧ cur.length ≤ i)
      ⟨[], [], [], none, by rw [lit0]; rfl, same_upd no, by rw [upd_same, lit0]; rfl, rfl, Nat.le_refl _, Nat.le_refl _⟩ ?_ ?_⟩
    · rintro i c v H2 hc ⟨acc, cur, ahead, y, rfl, s2, ho, he, hk, hk2⟩
      have hi : i < l.length := (List.getElem?_eq_some_iff.mp hc).1
      have hd : l.drop i = c :: l.drop (i + 1) := by
        rw [List.drop_eq_getElem_cons hi, (List.getElem?_eq_some_iff.mp hc).2]
      have nH : ∀ {u}, Same H (upd H2 o u) := fun {u} b x e => by
        rw [upd_ne (ne_of_none e no)]
        exact s2 b x e
      have step1 : ∀ {H3 : Hp}, H3 = upd H2 o (.lst ((acc ++ [cur ++ [c]]).map sv)) → ¬ (c = 124 ∧ ahead ≠ [92]) →
          ∃ acc cur ahead y, ([some (sv l), some (.ref o), some (sv [c]), some (sv [c]), none] : L2.St) = [some (sv l), some (.ref o), some (sv ahead), y, none] ∧ Same H H3 ∧ H3 o = some (.lst ((acc ++ [cur]).map sv)) ∧ acc ++ cp ahead cur (l.drop (i + 1)) = cp [] [] l ∧ acc.length ≤ i + 1 ∧ cur.length ≤ i + 1 := by
        rintro H3 rfl hn
        refine ⟨acc, cur ++ [c], [c], some (sv [c]), rfl, nH, upd_same, ?_, by omega, by rw [List.length_append, List.length_singleton]; omega⟩
        rw [hd, cp, if_neg hn] at he
        exact he
      have els : ¬ (c = 124 ∧ ahead ≠ [92]) → ∀ D : Ends, (∀ v3 H3, v3 = ([some (sv l), some (.ref o), some (sv ahead), some (sv [c]), none] : L2.St) → H3 = upd H2 o (.lst ((acc ++ [cur ++ [c]]).map sv)) → D.nx v3 H3) →
          tAsg (tOp (fun x y H Q => ∃ i j, x = .str i ∧ y = .str j ∧ i.length + j.length ≤ sizeLine ∧ Q (.str (i ++ j)) H) (tOp (rIxL K) (tVar 1) (tUn (rU fun i => .int (-i)) (tC (.int 1)))) (tVar 3)) (gSub (tVar 1) (tUn (rU fun i => .int (-i)) (tC (.int 1))) rSetL) D
            [some (sv l), some (.ref o), some (sv ahead), some (sv [c]), none] H2 := by
        intro hn D hD
        refine ⟨_, rfl, 1, rfl, o, _, -1, sv cur, rfl, rfl, .inl (.inl ho), at_last acc cur, _, rfl, _, _, rfl, rfl, by rw [tx_len, tx_len, List.length_singleton]; omega, ?_⟩
        refine ⟨_, rfl, 1, rfl, o, _, -1, acc.length, rfl, rfl, ho, ?_, ?_⟩
        · have := ix_last (acc.map sv) (sv cur)
          rw [List.length_map] at this
          rw [List.map_append]
          exact this
        · refine hD _ _ rfl ?_
          rw [tx_add, List.map_append, List.map_append]
          have := set_last (acc.map sv) (sv cur) (sv (cur ++ [c]))
          rw [List.length_map] at this
          show upd H2 o (HO.lst ((List.map sv acc ++ [sv cur]).set acc.length (sv (cur ++ [c])))) = _
          rw [this]
          rfl
      refine ⟨_, rfl, rfl, _, rfl, ?_⟩
      rw [lit124, dec_tx]
      by_cases h1 : c = 124
      · subst h1
        rw [decide_eq_true rfl]
        refine iteT ⟨_, rfl, rfl, _, rfl, ?_⟩
        rw [lit92, dec_tx]
        by_cases h2 : ahead = [92]
        · rw [decide_eq_true h2]
          refine iteF ?_
          refine els (fun z => z.2 h2) _ fun v3 H3 e1 e2 => ?_
          subst e1
          exact ⟨_, rfl, step1 e2 (fun z => z.2 h2)⟩
        · rw [decide_eq_false h2]
          refine iteT ⟨_, rfl, .inl ⟨rfl, _, .inl (.inl ho)⟩, o, _, _, rfl, rfl, ho, ?_, ?_⟩
          · rw [List.length_map, List.length_append, List.length_singleton]; omega
          · refine ⟨_, rfl, acc ++ [cur], [], [124], some (sv [124]), rfl, nH, ?_, ?_, by rw [List.length_append, List.length_singleton]; omega, Nat.zero_le _⟩
            · rw [upd_same, lit0]
              simp only [List.map_append]
              rfl
            · rw [hd, cp, if_pos ⟨rfl, h2⟩] at he
              rw [List.append_assoc]
              exact he
      · rw [decide_eq_false (show ¬ [c] = [124] from fun z => h1 (List.cons.inj z).1)]
        refine iteF ?_
        refine iteF ?_
        refine els (fun z => h1 z.1) _ fun v3 H3 e1 e2 => ?_
        subst e1
        exact ⟨_, rfl, step1 e2 (fun z => h1 z.1)⟩
    · rintro v H2 ⟨acc, cur, ahead, y, rfl, s2, ho, he, hk, hk2⟩
      rw [List.drop_length, cp] at he
      rw [he] at ho
      obtain ⟨hz1, hz2⟩ := cp_sum l [] []
      have hC : cells l = (cp [] [] l).map fun p => un (tidy p) := rfl
      generalize cp [] [] l = ps at ho hz1 hz2 hC
      refine ⟨_, rfl, o, rfl, ⟨_, .inl (.inl ho)⟩, fun D nD => ?_⟩
      have hoD : o ≠ D := ne_of_none ho nD
      refine lc_list (K := K) (a := o) (xs := ps.map sv) (fun i H' => Same H H' ∧ H' o = some (.lst (ps.map sv)) ∧ H' D = some (.lst ((((ps.take i).map fun p => un (tidy p))).map sv)))
        ⟨s2.trans (same_upd nD), by rw [upd_ne hoD]; exact ho, by rw [upd_same]; rfl⟩ (fun i H' _ h => .inl (.inl h.2.1)) ?_ ?_
      · rintro i x H3 hx ⟨s3, h1, h2⟩
        obtain ⟨u, hu, rfl⟩ := map_at hx
        have hu2 : u.length ≤ 900 := by
          have := hz2 u (List.mem_of_getElem? hu)
          rw [List.length_nil] at this; omega
        have hi : i < ps.length := (List.getElem?_eq_some_iff.mp hu).1
        refine ⟨rfl, _, rfl, u, rfl, hu2, fun H4 s4 => ?_⟩
        have hlen := tidy_len u
        refine ⟨_, rfl, by rw [tx_len]; omega, _, s4 _ _ h2, ?_, ?_, ?_, ?_⟩
        · rw [List.length_map, List.length_map, List.length_take]; omega
        · intro b x e
          have hb : b ≠ D := fun z => by
            have := s2 b x e
            rw [z, nD] at this
            cases this
          rw [upd_ne hb]
          exact s4 _ _ (s3 b x e)
        · rw [upd_ne hoD]
          exact s4 _ _ h1
        · rw [upd_same, repl_tx, take_step hu, List.map_append, List.map_append]
          rfl
      · rintro H3 ⟨s3, h1, h2⟩
        rw [List.length_map, List.take_length, ← hC] at h2
        exact q H3 D s3 h2
end
end KP
namespace KP
open PySem PySem.Spec PyProof.Rows L2 KM KT
/-- a def of the module: its body, its parameters, its name -/
structure Df (K : PySem.W.Frag) (mg : Str → Option Value) (x : Str) (st : Stmt) (ps : List Str) (f : Addr) (fd : FuncData) : Prop where
  F : Fun K x x st f fd
  b : Binds K fd ps []
  g : mg x = some (.ref f)
/-- a sort as it stands in the heap -/
def SrtV (H : Hp) (v : V) : Srt → Prop
  | .empty => ∃ a, v = .ref a ∧ H a = some (.tup [.str "empty"])
  | .quote r => ∃ a, v = .ref a ∧ H a = some (.tup [.str "quote", sv r])
  | .fence => ∃ a, v = .ref a ∧ H a = some (.tup [.str "fence"])
  | .heading n w => ∃ a, v = .ref a ∧ H a = some (.tup [.str "heading", .int (n : Int), sv w])
  | .cells cs => ∃ a b, v = .ref a ∧ H a = some (.tup [.str "cells", .ref b]) ∧ H b = some (.lst (cs.map sv))
  | .note n w => ∃ a, v = .ref a ∧ H a = some (.tup [.str "note", sv n, sv w])
  | .name n t => ∃ a, v = .ref a ∧ H a = some (.tup [.str "name", sv n, sv t])
  | .item far c w => ∃ a, v = .ref a ∧ H a = some (.tup [.str "item", .int (far : Int), sv [c], sv w])
  | .plain far w => ∃ a, v = .ref a ∧ H a = some (.tup [.str "plain", .int (far : Int), sv w])
def OptV (H : Hp) (v : V) : Option Srt → Prop
  | none => v = .non
  | some s => SrtV H v s
theorem SrtV.same {H H' : Hp} {v : V} (z : Same H H') : ∀ {s : Srt}, SrtV H v s → SrtV H' v s
  | .empty, ⟨a, e, h⟩ => ⟨a, e, z _ _ h⟩
  | .quote _, ⟨a, e, h⟩ => ⟨a, e, z _ _ h⟩
  | .fence, ⟨a, e, h⟩ => ⟨a, e, z _ _ h⟩
  | .heading _ _, ⟨a, e, h⟩ => ⟨a, e, z _ _ h⟩
  | .cells _, ⟨a, b, e, h, h2⟩ => ⟨a, b, e, z _ _ h, z _ _ h2⟩
  | .note _ _, ⟨a, e, h⟩ => ⟨a, e, z _ _ h⟩
  | .name _ _, ⟨a, e, h⟩ => ⟨a, e, z _ _ h⟩
  | .item _ _ _, ⟨a, e, h⟩ => ⟨a, e, z _ _ h⟩
  | .plain _ _, ⟨a, e, h⟩ => ⟨a, e, z _ _ h⟩
theorem OptV.same {H H' : Hp} {v : V} (z : Same H H') {o : Option Srt} (h : OptV H v o) : OptV H' v o := by
  cases o with
  | none => exact h
  | some s => exact SrtV.same z h
theorem SrtV.isRef {H : Hp} {v : V} : ∀ {s : Srt}, SrtV H v s → ∃ a, v = .ref a
  | .empty, ⟨a, e, _⟩ => ⟨a, e⟩
  | .quote _, ⟨a, e, _⟩ => ⟨a, e⟩
  | .fence, ⟨a, e, _⟩ => ⟨a, e⟩
  | .heading _ _, ⟨a, e, _⟩ => ⟨a, e⟩
  | .cells _, ⟨a, _, e, _, _⟩ => ⟨a, e⟩
  | .note _ _, ⟨a, e, _⟩ => ⟨a, e⟩
  | .name _ _, ⟨a, e, _⟩ => ⟨a, e⟩
  | .item _ _ _, ⟨a, e, _⟩ => ⟨a, e⟩
  | .plain _ _, ⟨a, e, _⟩ => ⟨a, e⟩
theorem SrtV.ne {H : Hp} {v : V} {s : Srt} (h : SrtV H v s) : v ≠ .non := by
  obtain ⟨a, rfl⟩ := h.isRef
  intro e
  cases e
def spO (f : List Nat → Option Srt) : Sp := fun vs H Q _ => ∃ l, vs = [sv l] ∧ l.length ≤ 900 ∧ ∀ H' v, Same H H' → OptV H' v (f l) → Q v H'
theorem lev_len (l : List Nat) : (l.length : Int) - ((l.dropWhile fun k => k == 61).length : Int) = (lev l : Int) := by
  have h : lev l ≤ l.length := (List.takeWhile_sublist _).length_le
  rw [dw_drop, List.length_drop]
  unfold lev at h ⊢
  omega
theorem par_len : ∀ (l acc : List Nat) {a b : List Nat}, TL.par [93, 58, 32] acc l = some (a, b) → a.length ≤ acc.length + l.length ∧ b.length ≤ l.length
  | [], acc, a, b, h => by cases h
  | c :: r, acc, a, b, h => by
    cases hp : TL.pre [93, 58, 32] (c :: r) with
    | true =>
      rw [TL.par_hit hp] at h
      injection h with h
      injection h with h1 h2
      subst h1 h2
      refine ⟨Nat.le_add_right _ _, ?_⟩
      rw [List.length_drop]; omega
    | false =>
      rw [TL.par_miss hp] at h
      have := par_len r _ h
      rw [List.length_append, List.length_singleton] at this
      rw [List.length_cons]; omega
theorem take1 (l : List Nat) (c : Nat) : l.take 1 = [c] ↔ l.head? = some c := by
  cases l with
  | nil => simp
  | cons d r => simp
theorem isNm_lett {l : List Nat} (h : isNm l = true) : l.all lett = true := by
  unfold isNm at h
  rw [Bool.and_eq_true] at h
  exact h.2
section
variable {P : Program} {w : World} {K : PySem.W.Frag} {mg : Str → Option Value} {base : Heap}
/-! ### heading_sort -/
theorem scHead : FnScope ["bare", "level"] ["bare"] (defScope sHead) := ⟨rfl, rfl, rfl, by decide +kernel, rfl, by decide +kernel, by decide +kernel⟩
theorem ok_head {f fT : Addr} {fd fdT : FuncData} (F : Fun K "heading_sort" "heading_sort" sHead f fd) (T : Txt K mg) (dT : Df K mg "tidy" sTidy ["text"] fT fdT) (GT : FnOk P w K mg base CX0 2 fT fdT ["text"] spTidy) :
    FnOk P w K mg base CX0 3 f fd ["bare"] (spO heading) := by
  obtain ⟨tM, hM⟩ := T.lvl
  refine F.ok scHead (fun vs H Q E h => ?_) (fun cdv A outer s H vs Q E hr h => ?_)
  · obtain ⟨l, rfl, _⟩ := h
    rfl
  · obtain ⟨l, rfl, hl, q⟩ := h
    refine ⟨_, pss_cons (ps_set (i := 1) scHead.nd rfl (.inl rfl) (pe_op op_sub (pe_callB call_len_str (by rfl) T.len PySem.boot_len (pa_cons (pv 0) pa_nil))
        (pe_callB call_len_str (by rfl) T.len PySem.boot_len (pa_cons (pe_m1 PySem.F.slot_str_lstrip PySem.F.type_str_lstrip mt_lstripChars (pv 0) pe_str) pa_nil))))
      (pss_cons (ps_if (PW.pt (pw_and (pt_chain op_le op_le pe_int (pv 1) (pe_glob (v := .int 3) (by rfl) hM ⟨_, rfl⟩))
          (pw_and1 (pt_cmpR op_eq (pe_slice sl_str (pv 0) (po_some (pv 1)) (po_some (pe_op op_add (pv 1) pe_int))) pe_str (nomark _)))))
        (pss_one (ps_ret (pe_tup (pa_cons pe_str (pa_cons (pv 1) (pa_cons (pe_call GT hr (by rfl) dT.g dT.F.kp dT.b .nil pass0 (pa_cons (pe_slice sl_str (pv 0) (po_some (pv 1)) po_none) pa_nil)) pa_nil)))))) pss_nil)
      (pss_one (ps_ret pe_non))), ?_⟩
    have hsz : sizeLine = 16777216 := sizeLine_eq
    have hlt : (tx l).length ≤ sizeLine := by rw [tx_len]; omega
    refine ⟨_, rfl, _, rfl, hlt, _, rfl, ⟨_, rfl⟩, _, _, rfl, rfl, hlt, ?_⟩
    rw [lit61, lstripC]
    refine ⟨_, rfl, ?_, _, _, rfl, rfl, ?_⟩
    · have : (l.dropWhile fun k => k == 61).length ≤ l.length := (List.dropWhile_sublist _).length_le
      rw [tx_len]; omega
    dsimp only
    rw [tx_len, tx_len, lev_len]
    refine ⟨_, rfl, 1, _, rfl, rfl, _, rfl, ?_⟩
    have none_case : heading l = none → Q .non H := fun e => q H .non (Same.refl H) (by rw [e]; rfl)
    by_cases h1 : (1 : Int) ≤ (lev l : Int)
    · rw [decide_eq_true h1]
      refine iteT ⟨_, 3, rfl, rfl, _, rfl, ?_⟩
      by_cases h3 : (lev l : Int) ≤ 3
      · rw [decide_eq_true h3]
        refine iteT ⟨_, rfl, _, rfl, _, rfl, _, rfl, _, _, rfl, rfl, _, rfl, _, rfl, hlt, rfl, _, rfl, ?_⟩
        have ec : cutS (tx l) (some (lev l : Int)) (some ((lev l : Int) + 1)) = tx ((l.drop (lev l)).take 1) := by
          have := cut_mid l (lev l) (lev l + 1)
          rw [Nat.add_sub_cancel_left] at this
          exact this
        rw [ec, lit32, dec_tx]
        by_cases h4 : (l.drop (lev l)).take 1 = [32]
        · rw [decide_eq_true h4]
          refine iteT ⟨_, rfl, _, rfl, _, rfl, _, rfl, _, rfl, hlt, ?_⟩
          rw [cut_from]
          refine ⟨_, rfl, by rw [List.length_drop]; omega, fun H' sm => ⟨by show 3 ≤ sizeLine; omega, fun p np => ?_⟩⟩
          refine q _ _ (sm.trans (same_upd np)) ?_
          rw [show heading l = some (.heading (lev l) (tidy (l.drop (lev l)))) from if_pos ⟨by omega, by omega, h4⟩]
          exact ⟨p, rfl, upd_same⟩
        · rw [decide_eq_false h4]
          exact iteF (none_case (if_neg fun z => h4 z.2.2))
      · rw [decide_eq_false h3]
        exact iteF (none_case (if_neg fun z => h3 (by omega)))
    · rw [decide_eq_false h1]
      exact iteF ⟨_, rfl, iteF (none_case (if_neg fun z => h1 (by omega)))⟩
/-! ### cells_sort -/
theorem scCells : FnScope ["bare"] ["bare"] (defScope sCells) := ⟨rfl, rfl, rfl, by decide +kernel, rfl, by decide +kernel, by decide +kernel⟩
theorem ok_cells {f fS : Addr} {fd fdS : FuncData} (F : Fun K "cells_sort" "cells_sort" sCells f fd) (T : Txt K mg) (dS : Df K mg "split_cells" sSplit ["text"] fS fdS) (GS : FnN 385 P w K mg base 3 fS fdS ["text"] spSplit) :
    FnN 385 P w K mg base 4 f fd ["bare"] (spO cellsS) := by
  obtain ⟨tB, hB, hB0, hB1⟩ := T.bar
  obtain ⟨tS, hS⟩ := T.slash
  refine fnN F scCells (fun vs H Q E h => ?_) (fun cdv A outer s H vs Q E hr h => ?_)
  · obtain ⟨l, rfl, _⟩ := h
    rfl
  · obtain ⟨l, rfl, hl, q⟩ := h
    refine ⟨_, nb_cons (ns_of (ps_if (PW.pt (pw_or (pt_cmpR op_lt (pe_callB call_len_str (by rfl) T.len PySem.boot_len (pa_cons (pv 0) pa_nil)) pe_int (nomark _))
        (pw_or (pt_not (pt_val (pe_m1 PySem.F.slot_str_startswith PySem.F.type_str_startswith mt_startswith (pv 0) (pe_glob (v := .str "|") (by rfl) hB ⟨_, rfl⟩))))
        (pw_or (pt_not (pt_val (pe_m1 PySem.F.slot_str_endswith PySem.F.type_str_endswith mt_endswith (pv 0) (pe_glob (v := .str "|") (by rfl) hB ⟨_, rfl⟩))))
        (pw_or1 (pt_cmpR op_eq (pe_ix ix_str (pv 0) (pe_un un_neg pe_int) (fun _ _ => rfl)) (pe_glob (v := .str "\\") (by rfl) hS ⟨_, rfl⟩) (nomark _)))))))
        (pss_one (ps_ret pe_non)) pss_nil))
      (nb_one (ns_ret (ne_tup (na_cons (ne_of pe_str) (na_cons (ne_call GS hr (by rfl) dS.g dS.F.kp dS.b (pa_cons (pe_slice sl_str (pv 0) (po_some pe_int) (po_some (pe_un un_neg pe_int))) pa_nil)) (na_of pa_nil)))))), ?_⟩
    have hsz : sizeLine = 16777216 := sizeLine_eq
    have hlt : (tx l).length ≤ sizeLine := by rw [tx_len]; omega
    have none_case : cellsS l = none → Q .non H := fun e => q H .non (Same.refl H) (by rw [e]; rfl)
    refine ⟨_, rfl, _, rfl, hlt, _, 2, rfl, rfl, _, rfl, ?_⟩
    rw [tx_len]
    by_cases h1 : (l.length : Int) < 2
    · rw [decide_eq_true h1]
      exact iteT (iteT (none_case (if_neg fun z => by omega)))
    · rw [decide_eq_false h1]
      refine iteF ⟨_, rfl, ⟨_, rfl⟩, _, _, rfl, rfl, _, rfl, ?_⟩
      rw [lit124, starts]
      by_cases h2 : l.take [124].length = [124]
      · rw [decide_eq_true h2]
        refine iteF ⟨_, rfl, ⟨_, rfl⟩, _, _, rfl, rfl, _, rfl, ?_⟩
        rw [ends]
        by_cases h3 : l.getLast? = some 124
        · rw [decide_eq_true h3]
          have hlen : 2 ≤ l.length := by omega
          obtain ⟨d, hd⟩ : ∃ d, l.dropLast.getLast? = some d := by
            cases e : l.dropLast.getLast? with
            | some d => exact ⟨d, rfl⟩
            | none =>
              have := congrArg List.length (List.getLast?_eq_none_iff.mp e)
              rw [List.length_dropLast, List.length_nil] at this
              omega
          have ha : atI l (-2) = some d := by
            rw [List.getLast?_eq_getElem?, List.getElem?_dropLast, List.length_dropLast, if_pos (by omega)] at hd
            unfold atI ixN
            rw [if_neg (by decide), if_pos (by omega)]
            show l[((-2 : Int) + (l.length : Int)).toNat]? = some d
            rw [← hd]
            congr 1
            omega
          refine iteF ⟨_, rfl, 2, rfl, _, -2, d, rfl, rfl, hlt, ha, rfl, _, rfl, ?_⟩
          rw [lit92, show (V.str ⟨#[d]⟩) = V.str (tx [d]) from rfl, dec_tx]
          by_cases h4 : d = 92
          · rw [decide_eq_true (show [d] = [92] by rw [h4])]
            exact iteT (none_case (if_neg fun z => z.2.2.2 (by rw [hd, h4])))
          · rw [decide_eq_false (show ¬ [d] = [92] from fun z => h4 (List.cons.inj z).1)]
            refine iteF ⟨_, rfl, _, rfl, _, rfl, _, rfl, _, rfl, hlt, ?_⟩
            rw [cut_in]
            refine ⟨_, rfl, ?_, fun H' b sm hb => ⟨by show 2 ≤ sizeLine; omega, fun p np => ?_⟩⟩
            · rw [List.length_dropLast, List.length_drop]; omega
            · refine q _ _ (sm.trans (same_upd np)) ?_
              rw [show cellsS l = some (.cells (cells (l.drop 1).dropLast)) from if_pos ⟨hlen, (take1 l 124).mp h2, h3, fun z => h4 (Option.some.inj (hd.symm.trans z))⟩]
              exact ⟨p, b, rfl, upd_same, by rw [upd_ne (ne_of_none hb np)]; exact hb⟩
        · rw [decide_eq_false h3]
          exact iteT (iteT (none_case (if_neg fun z => h3 z.2.2.1)))
      · rw [decide_eq_false h2]
        exact iteT (iteT (none_case (if_neg fun z => h2 ((take1 l 124).mpr z.2.1))))
end
end KP
namespace KP
open PySem PySem.Spec PyProof.Rows L2 KM KT
section
variable {P : Program} {w : World} {K : PySem.W.Frag} {mg : Str → Option Value} {base : Heap}
/-! ### named_sort -/
theorem scNamed : FnScope ["bare", "ahead", "mark", "behind", "words"] ["bare"] (defScope sNamed) := ⟨rfl, rfl, rfl, by decide +kernel, rfl, by decide +kernel, by decide +kernel⟩
theorem ok_named {f fT fW fN : Addr} {fd fdT fdW fdN : FuncData} (F : Fun K "named_sort" "named_sort" sNamed f fd) (T : Txt K mg) (dT : Df K mg "tidy" sTidy ["text"] fT fdT) (GT : FnOk P w K mg base CX0 2 fT fdT ["text"] spTidy)
    (dW : Df K mg "words_of" sWords ["text"] fW fdW) (dN : Df K mg "is_name" sIsName ["thing"] fN fdN) : FnOk P w K mg base CX0 3 f fd ["bare"] (spO named) := by
  have GW : FnOk P w K mg base CX0 1 fW fdW ["text"] spWords := ok_words dW.F
  have GN : FnOk P w K mg base CX0 1 fN fdN ["thing"] spIsName := ok_isName dN.F T
  refine F.ok scNamed (fun vs H Q E h => ?_) (fun cdv A outer s H vs Q E hr h => ?_)
  · obtain ⟨l, rfl, _⟩ := h
    rfl
  · obtain ⟨l, rfl, hl, q⟩ := h
    have hr1 := hr.mono (show 1 ≤ 2 by decide)
    refine ⟨_, pss_cons (ps_asg (pe_partition (pv 0) pe_str) (pg_tup rfl (pgs_cons (pg_name (i := 1) scNamed.nd rfl (.inl rfl)) (pgs_cons (pg_name (i := 2) scNamed.nd rfl (.inl rfl)) (pgs_cons (pg_name (i := 3) scNamed.nd rfl (.inl rfl)) pgs_nil)))))
      (pss_cons (ps_if (PW.pt (pw_or (pt_cmpR op_eq (pv 2) pe_str (nomark _)) (pw_or1 (pt_not (pt_val (pe_m1 PySem.F.slot_str_startswith PySem.F.type_str_startswith mt_startswith (pv 1) pe_str)))))) (pss_one (ps_ret pe_non)) pss_nil)
      (pss_cons (ps_if (PW.pt (pw_and (pt_val (pe_m1 PySem.F.slot_str_startswith PySem.F.type_str_startswith mt_startswith (pv 1) pe_str))
            (pw_and1 (pt_val (pe_call GN hr1 (by rfl) dN.g dN.F.kp dN.b .nil pass0 (pa_cons (pe_slice sl_str (pv 1) (po_some pe_int) po_none) pa_nil))))))
          (pss_one (ps_ret (pe_tup (pa_cons pe_str (pa_cons (pe_lower (pe_slice sl_str (pv 1) (po_some pe_int) po_none)) (pa_cons (pe_call GT hr (by rfl) dT.g dT.F.kp dT.b .nil pass0 (pa_cons (pv 3) pa_nil)) pa_nil)))))) pss_nil)
      (pss_cons (ps_set (i := 4) scNamed.nd rfl (.inl rfl) (pe_call GW hr1 (by rfl) dW.g dW.F.kp dW.b .nil pass0 (pa_cons (pv 3) pa_nil)))
      (pss_cons (ps_if (PW.pt (pw_and (pt_val (pe_call GN hr1 (by rfl) dN.g dN.F.kp dN.b .nil pass0 (pa_cons (pe_slice sl_str (pv 1) (po_some pe_int) po_none) pa_nil)))
            (pw_and1 (pt_cmpR op_eq (pe_callB call_len_seq (by rfl) T.len PySem.boot_len (pa_cons (pv 4) pa_nil)) pe_int (nomark _)))))
          (pss_one (ps_ret (pe_tup (pa_cons pe_str (pa_cons (pe_lower (pe_slice sl_str (pv 1) (po_some pe_int) po_none)) (pa_cons (pe_ix ix_list (pv 4) pe_int (fun _ _ => rfl)) pa_nil)))))) pss_nil)
      (pss_one (ps_ret pe_non)))))), ?_⟩
    have hsz : sizeLine = 16777216 := sizeLine_eq
    refine ⟨_, rfl, ⟨_, rfl⟩, _, _, rfl, rfl, by decide +kernel, by rw [tx_len]; omega, fun p np => ?_⟩
    rw [litP, part_tx]
    have none_case : ∀ H', Same H H' → named l = none → Q .non H' := fun H' sm e => q H' .non sm (by rw [e]; rfl)
    cases e : TL.par [93, 58, 32] [] l with
    | none =>
      refine ⟨p, _, rfl, .inl (.inl upd_same), rfl, _, _, rfl, _, _, rfl, _, _, rfl, rfl, ?_⟩
      refine ⟨_, rfl, rfl, _, rfl, ?_⟩
      rw [lit0, dec_tx, decide_eq_true rfl]
      exact iteT (iteT (none_case _ (same_upd np) (by unfold named; rw [e])))
    | some ab =>
      obtain ⟨a, b⟩ := ab
      have hn : named l = namedAt a b := by unfold named; rw [e]
      have hab := par_len l [] e
      rw [List.length_nil] at hab
      refine ⟨p, _, rfl, .inl (.inl upd_same), rfl, _, _, rfl, _, _, rfl, _, _, rfl, rfl, ?_⟩
      generalize hH : upd H p (.tup [V.str (tx a), V.str (tx [93, 58, 32]), V.str (tx b)]) = H1
      have s1 : Same H H1 := by rw [← hH]; exact same_upd np
      refine ⟨_, rfl, rfl, _, rfl, ?_⟩
      rw [lit0, dec_tx, decide_eq_false (by simp)]
      refine iteF ⟨_, rfl, ⟨_, rfl⟩, _, _, rfl, rfl, _, rfl, ?_⟩
      rw [lit91, starts]
      by_cases h1 : a.take [91].length = [91]
      · rw [decide_eq_true h1]
        have h1' := (take1 a 91).mp h1
        refine iteF ?_
        have hlt : (tx a).length ≤ sizeLine := by rw [tx_len]; omega
        refine ⟨_, rfl, ⟨_, rfl⟩, _, _, rfl, rfl, _, rfl, ?_⟩
        rw [lit9194, starts]
        have else_case : ¬ (a.take 2 = [91, 94] ∧ isNm (a.drop 2) = true) → ∀ H2, Same H H2 →
            tSeq (tAsg (tCall spWords [] E0 (tCons (tVar 3) tNil)) (gName 4)) (tSeq (tIfS (tAnd (tB (tCall spIsName [] E0 (tCons (tSl rSlS (tVar 1) (tPart (tC (.int 1))) tNoPart) tNil)))
                (tTest (tOp rEq (tCB (fun xs H Q => ∃ p ys, xs = [.ref p] ∧ (SqL K H p ys ∨ SqT K H p ys) ∧ Q (.int ys.length) H) (tCons (tVar 4) tNil)) (tC (.int 1)))))
              (tRet (tTup (tCons (tC (.str "name")) (tCons (tM0 (fun x xs H Q => ∃ a, x = .str a ∧ xs = [] ∧ a.length ≤ 5592405 ∧ Q (.str (PySem.Txt.lower a)) H) (tSl rSlS (tVar 1) (tPart (tC (.int 1))) tNoPart)) (tCons (tOp (rIxL K) (tVar 4) (tC (.int 0))) tNil))))) tNext)
              (tRet (tC .non))) { nx := fun _ H' => Q .non H', rt := Q } [some (sv l), some (sv a), some (sv [93, 58, 32]), some (sv b), none] H2 := by
          intro hno H2 s2
          have hn2 : named l = match words b with
              | [w] => if isNm (a.drop 1) = true then some (.name ((a.drop 1).map low) w) else none
              | _ => none := by
            rw [hn]
            unfold namedAt
            rw [if_pos h1', if_neg hno]
            try rfl
          refine ⟨_, rfl, b, rfl, by omega, fun H3 r s3 hr3 => ?_⟩
          refine ⟨_, rfl, _, rfl, _, rfl, hlt, ?_⟩
          rw [show cutS (tx a) (some 1) none = tx (a.drop 1) from cut_from a 1]
          refine ⟨_, rfl, by rw [List.length_drop]; omega, fun H4 s4 => ⟨_, rfl, ?_⟩⟩
          have s24 : Same H H4 := (s2.trans s3).trans s4
          cases h5 : isNm (a.drop 1) with
          | false =>
            refine iteF (iteF ?_)
            refine none_case _ s24 ?_
            rw [hn2, h5]
            split <;> rfl
          | true =>
            refine iteT ⟨_, rfl, r, _, rfl, .inl (.inl (.inl (s4 _ _ hr3))), rfl, _, rfl, ?_⟩
            rw [List.length_map]
            by_cases h6 : (words b).length = 1
            · obtain ⟨u, hu⟩ := List.length_eq_one_iff.mp h6
              rw [decide_eq_true (show V.int ((words b).length : Int) = V.int 1 by rw [h6]; rfl)]
              refine iteT ⟨_, rfl, _, rfl, _, rfl, hlt, ⟨_, rfl⟩, _, rfl, rfl, ?_⟩
              rw [show cutS (tx a) (some 1) none = tx (a.drop 1) from cut_from a 1]
              refine ⟨by rw [tx_len, List.length_drop]; omega, ?_⟩
              rw [lower_tx (isNm_lett h5)]
              refine ⟨_, rfl, r, _, 0, sv u, rfl, rfl, .inl (.inl (s4 _ _ hr3)), atI_nat (j := 0) (by rw [hu]; rfl), by show 3 ≤ sizeLine; omega, fun t nt => ?_⟩
              refine q _ _ (s24.trans (same_upd nt)) ?_
              rw [hn2, hu, h5]
              exact ⟨t, rfl, upd_same⟩
            · rw [decide_eq_false (show ¬ V.int ((words b).length : Int) = V.int 1 from fun z => h6 (by have := V.int.inj z; omega))]
              refine iteF ?_
              refine none_case _ s24 ?_
              rw [hn2]
              split
              · rename_i u hu
                exact absurd (by rw [hu]; rfl) h6
              · rfl
        by_cases h2 : a.take [91, 94].length = [91, 94]
        · rw [decide_eq_true h2]
          refine iteT ⟨_, rfl, _, rfl, _, rfl, hlt, ?_⟩
          rw [show cutS (tx a) (some 2) none = tx (a.drop 2) from cut_from a 2]
          refine ⟨_, rfl, by rw [List.length_drop]; omega, fun H2 s2 => ⟨_, rfl, ?_⟩⟩
          cases h3 : isNm (a.drop 2) with
          | true =>
            refine iteT ⟨_, rfl, _, rfl, _, rfl, hlt, ⟨_, rfl⟩, _, rfl, rfl, ?_⟩
            rw [show cutS (tx a) (some 2) none = tx (a.drop 2) from cut_from a 2]
            refine ⟨by rw [tx_len, List.length_drop]; omega, ?_⟩
            rw [lower_tx (isNm_lett h3)]
            refine ⟨_, rfl, b, rfl, by omega, fun H3 s3 => ⟨by show 3 ≤ sizeLine; omega, fun t nt => ?_⟩⟩
            refine q _ _ (((s1.trans s2).trans s3).trans (same_upd nt)) ?_
            rw [hn]
            unfold namedAt
            rw [if_pos h1', if_pos ⟨h2, h3⟩]
            exact ⟨t, rfl, upd_same⟩
          | false =>
            refine iteF ?_
            exact else_case (fun z => by rw [h3] at z; cases z.2) H2 (s1.trans s2)
        · rw [decide_eq_false h2]
          refine iteF (iteF ?_)
          exact else_case (fun z => h2 z.1) H1 s1
      · rw [decide_eq_false h1]
        refine iteT ?_
        refine none_case _ s1 ?_
        rw [hn]
        unfold namedAt
        exact if_neg fun z => h1 ((take1 a 91).mpr z)
end
end KP
namespace KP
open PySem PySem.Spec PyProof.Rows L2 KM KT
theorem first_some {a b c : Option Srt} {s : Srt} : ∀ {i : Nat}, (∀ j, j < i → ([a, b, c] : List (Option Srt))[j]? = some none) → ([a, b, c] : List (Option Srt))[i]? = some (some s) → (a.or b).or c = some s
  | 0, _, h => by
    have e : a = some s := Option.some.inj h
    rw [e]; rfl
  | 1, g, h => by
    have e : b = some s := Option.some.inj h
    have e0 : a = none := Option.some.inj (g 0 (by omega))
    rw [e, e0]; rfl
  | 2, g, h => by
    have e : c = some s := Option.some.inj h
    have e0 : a = none := Option.some.inj (g 0 (by omega))
    have e1 : b = none := Option.some.inj (g 1 (by omega))
    rw [e, e0, e1]; rfl
  | i + 3, _, h => by cases h
theorem no_some {a b c : Option Srt} (g : ∀ j, j < 3 → ([a, b, c] : List (Option Srt))[j]? = some none) : (a.or b).or c = none := by
  have e0 : a = none := Option.some.inj (g 0 (by omega))
  have e1 : b = none := Option.some.inj (g 1 (by omega))
  have e2 : c = none := Option.some.inj (g 2 (by omega))
  rw [e0, e1, e2]; rfl
theorem opt_at {H : Hp} {v1 v2 v3 : V} {a b c : Option Srt} (h1 : OptV H v1 a) (h2 : OptV H v2 b) (h3 : OptV H v3 c) : ∀ {i : Nat} {x : V}, ([v1, v2, v3] : List V)[i]? = some x → ∃ o, ([a, b, c] : List (Option Srt))[i]? = some o ∧ OptV H x o
  | 0, x, h => ⟨a, rfl, by rw [← Option.some.inj h]; exact h1⟩
  | 1, x, h => ⟨b, rfl, by rw [← Option.some.inj h]; exact h2⟩
  | 2, x, h => ⟨c, rfl, by rw [← Option.some.inj h]; exact h3⟩
  | i + 3, x, h => by cases h
section
variable {P : Program} {w : World} {K : PySem.W.Frag} {mg : Str → Option Value} {base : Heap}
/-! ### flush_sort -/
theorem scFlush : FnScope ["row", "bare", "rest", "found"] ["row", "bare"] (defScope sFlush) := ⟨rfl, rfl, rfl, by decide +kernel, rfl, by decide +kernel, by decide +kernel⟩
def spFlush : Sp := fun vs H Q _ => ∃ l b : List Nat, vs = [sv l, sv b] ∧ l.length ≤ 900 ∧ b.length ≤ 900 ∧ ∀ H' v, Same H H' → OptV H' v (flush l b) → Q v H'
theorem ok_flush {f fH fC fN : Addr} {fd fdH fdC fdN : FuncData} (F : Fun K "flush_sort" "flush_sort" sFlush f fd) (T : Txt K mg) (dH : Df K mg "heading_sort" sHead ["bare"] fH fdH) (GH : FnOk P w K mg base CX0 3 fH fdH ["bare"] (spO heading))
    (dC : Df K mg "cells_sort" sCells ["bare"] fC fdC) (GC : FnN 385 P w K mg base 4 fC fdC ["bare"] (spO cellsS)) (dN : Df K mg "named_sort" sNamed ["bare"] fN fdN) (GN : FnOk P w K mg base CX0 3 fN fdN ["bare"] (spO named)) :
    FnN 385 P w K mg base 5 f fd ["row", "bare"] spFlush := by
  obtain ⟨tF, hF⟩ := T.fen
  refine fnN F scFlush (fun vs H Q E h => ?_) (fun cdv A outer s H vs Q E hr h => ?_)
  · obtain ⟨l, b, rfl, _⟩ := h
    rfl
  · obtain ⟨l, b, rfl, hl, hb, q⟩ := h
    have hr3 := hr.mono (show 3 ≤ 4 by decide)
    refine ⟨_, nb_cons (ns_of (ps_if (pt_val (pe_m1 PySem.F.slot_str_startswith PySem.F.type_str_startswith mt_startswith (pv 1) pe_str))
        (pss_cons (ps_set (i := 2) scFlush.nd rfl (.inl rfl) (pe_slice sl_str (pv 0) (po_some pe_int) po_none))
        (pss_cons (ps_if (pt_val (pe_m1 PySem.F.slot_str_startswith PySem.F.type_str_startswith mt_startswith (pv 2) pe_str))
          (pss_one (ps_set (i := 2) scFlush.nd rfl (.inl rfl) (pe_slice sl_str (pv 2) (po_some pe_int) po_none))) pss_nil)
        (pss_one (ps_ret (pe_tup (pa_cons pe_str (pa_cons (pv 2) pa_nil))))))) pss_nil))
      (nb_cons (ns_of (ps_if (pt_cmpR op_eq (pv 1) (pe_glob (v := .str "~~~") (by rfl) hF ⟨_, rfl⟩) (nomark _)) (pss_one (ps_ret (pe_tup (pa_cons pe_str pa_nil)))) pss_nil))
      (nb_cons (ns_for PassesOwn.never rfl (ni_tup (ne_tup (na_cons (ne_of (pe_call GH hr3 (by rfl) dH.g dH.F.kp dH.b .nil pass0 (pa_cons (pv 1) pa_nil)))
          (na_cons (ne_call GC hr (by rfl) dC.g dC.F.kp dC.b (pa_cons (pv 1) pa_nil))
          (na_cons (ne_of (pe_call GN hr3 (by rfl) dN.g dN.F.kp dN.b .nil pass0 (pa_cons (pv 1) pa_nil))) (na_of pa_nil))))))
          (pg_name (i := 3) scFlush.nd rfl (.inl rfl)) (nb_of (pss_one (ps_if (pt_cmp (pc_notN (pv 3))) (pss_one (ps_ret (pv 3))) pss_nil))))
      (nb_of (pss_one (ps_ret pe_non))))), ?_⟩
    have hsz : sizeLine = 16777216 := sizeLine_eq
    have hlt : (tx l).length ≤ sizeLine := by rw [tx_len]; omega
    refine ⟨_, rfl, ⟨_, rfl⟩, _, _, rfl, rfl, _, rfl, ?_⟩
    rw [lit62, starts]
    by_cases h1 : b.take [62].length = [62]
    · rw [decide_eq_true h1]
      have ef : flush l b = some (.quote (if (l.drop 1).head? = some 32 then l.drop 2 else l.drop 1)) := if_pos ((take1 b 62).mp h1)
      refine iteT ⟨_, rfl, _, rfl, _, rfl, hlt, ?_⟩
      rw [show cutS (tx l) (some 1) none = tx (l.drop 1) from cut_from l 1]
      refine ⟨_, rfl, ⟨_, rfl⟩, _, _, rfl, rfl, _, rfl, ?_⟩
      rw [lit32, starts]
      by_cases h2 : (l.drop 1).take [32].length = [32]
      · rw [decide_eq_true h2]
        refine iteT ⟨_, rfl, _, rfl, _, rfl, by rw [tx_len, List.length_drop]; omega, ?_⟩
        rw [show cutS (tx (l.drop 1)) (some 1) none = tx ((l.drop 1).drop 1) from cut_from _ 1, List.drop_drop]
        refine ⟨_, rfl, by show 2 ≤ sizeLine; omega, fun p np => q _ _ (same_upd np) ?_⟩
        rw [ef, if_pos ((take1 _ 32).mp h2)]
        exact ⟨p, rfl, upd_same⟩
      · rw [decide_eq_false h2]
        refine iteF ⟨_, rfl, by show 2 ≤ sizeLine; omega, fun p np => q _ _ (same_upd np) ?_⟩
        rw [ef, if_neg (fun z => h2 ((take1 _ 32).mpr z))]
        exact ⟨p, rfl, upd_same⟩
    · rw [decide_eq_false h1]
      have h1' : ¬ b.head? = some 62 := fun z => h1 ((take1 b 62).mpr z)
      refine iteF ⟨_, rfl, rfl, _, rfl, ?_⟩
      rw [litF, dec_tx]
      by_cases h2 : b = [126, 126, 126]
      · rw [decide_eq_true h2]
        refine iteT ⟨by show 1 ≤ sizeLine; omega, fun p np => q _ _ (same_upd np) ?_⟩
        rw [show flush l b = some .fence from (if_neg h1').trans (if_pos h2)]
        exact ⟨p, rfl, upd_same⟩
      · rw [decide_eq_false h2]
        have ef : flush l b = ((heading b).or (cellsS b)).or (named b) := (if_neg h1').trans (if_neg h2)
        refine iteF ⟨_, rfl, b, rfl, hb, fun H1 v1 s1 o1 => ⟨_, rfl, b, rfl, hb, fun H2 v2 s2 o2 => ⟨_, rfl, b, rfl, hb, fun H3 v3 s3 o3 => ⟨by show 3 ≤ sizeLine; omega, fun t nt => ?_⟩⟩⟩⟩
        have sA : Same H (upd H3 t (.tup [v1, v2, v3])) := ((s1.trans s2).trans s3).trans (same_upd nt)
        have hT : upd H3 t (.tup [v1, v2, v3]) t = some (.tup [v1, v2, v3]) := upd_same
        have oA : OptV (upd H3 t (.tup [v1, v2, v3])) v1 (heading b) := o1.same ((s2.trans s3).trans (same_upd nt))
        have oB : OptV (upd H3 t (.tup [v1, v2, v3])) v2 (cellsS b) := o2.same (s3.trans (same_upd nt))
        have oC : OptV (upd H3 t (.tup [v1, v2, v3])) v3 (named b) := o3.same (same_upd nt)
        generalize hG : upd H3 t (.tup [v1, v2, v3]) = G at sA hT oA oB oC
        refine ⟨t, rfl, ⟨_, .inl (.inl hT)⟩, for_tup (K := K) (a := t) (xs := [v1, v2, v3]) (fun i v H' => (∃ y, v = [some (sv l), some (sv b), none, y]) ∧ H' = G ∧ ∀ j, j < i → ([heading b, cellsS b, named b] : List (Option Srt))[j]? = some none)
          ⟨⟨none, rfl⟩, rfl, fun j hj => absurd hj (Nat.not_lt_zero _)⟩ (fun i v H' _ h => by rw [h.2.1]; exact .inl (.inl hT)) ?_ ?_⟩
        · rintro i x v H4 hx ⟨⟨y, rfl⟩, rfl, hj⟩
          obtain ⟨o, ho, hv⟩ := opt_at oA oB oC hx
          refine ⟨_, rfl, _, rfl, ?_⟩
          cases o with
          | none =>
            have hv : x = .non := hv
            subst hv
            refine iteF ⟨⟨_, rfl⟩, rfl, fun j h => ?_⟩
            rcases Nat.lt_succ_iff_lt_or_eq.mp h with z | z
            · exact hj j z
            · rw [z]; exact ho
          | some u =>
            have hn : x ≠ .non := SrtV.ne hv
            rw [decide_eq_false hn]
            refine iteT ⟨_, rfl, q _ _ sA ?_⟩
            rw [ef, first_some hj ho]
            exact hv
        · rintro v H4 ⟨⟨y, rfl⟩, rfl, hj⟩
          refine q _ .non sA ?_
          rw [ef, no_some hj]
          rfl
/-! ### sort_of -/
theorem scSort : FnScope ["row", "bare", "body", "far", "found"] ["row"] (defScope sSort) := ⟨rfl, rfl, rfl, by decide +kernel, rfl, by decide +kernel, by decide +kernel⟩
def spSort : Sp := fun vs H Q _ => ∃ l : List Nat, vs = [sv l] ∧ l.length ≤ 900 ∧ ∀ H' v, Same H H' → SrtV H' v (sortL l) → Q v H'
theorem ok_sort {f fF fT : Addr} {fd fdF fdT : FuncData} (F : Fun K "sort_of" "sort_of" sSort f fd) (T : Txt K mg) (dF : Df K mg "flush_sort" sFlush ["row", "bare"] fF fdF) (GF : FnN 385 P w K mg base 5 fF fdF ["row", "bare"] spFlush)
    (dT : Df K mg "tidy" sTidy ["text"] fT fdT) (GT : FnOk P w K mg base CX0 2 fT fdT ["text"] spTidy) : FnN 385 P w K mg base 6 f fd ["row"] spSort := by
  refine fnN F scSort (fun vs H Q E h => ?_) (fun cdv A outer s H vs Q E hr h => ?_)
  · obtain ⟨l, rfl, _⟩ := h
    rfl
  · obtain ⟨l, rfl, hl, q⟩ := h
    have hr2 := hr.mono (show 2 ≤ 5 by decide)
    refine ⟨_, nb_cons (ns_of (ps_set (i := 1) scSort.nd rfl (.inl rfl) (pe_m1 PySem.F.slot_str_rstrip PySem.F.type_str_rstrip mt_rstripChars (pv 0) pe_str)))
      (nb_cons (ns_of (ps_set (i := 2) scSort.nd rfl (.inl rfl) (pe_m1 PySem.F.slot_str_lstrip PySem.F.type_str_lstrip mt_lstripChars (pv 1) pe_str)))
      (nb_cons (ns_of (ps_set (i := 3) scSort.nd rfl (.inl rfl) (pe_op op_sub (pe_callB call_len_str (by rfl) T.len PySem.boot_len (pa_cons (pv 1) pa_nil)) (pe_callB call_len_str (by rfl) T.len PySem.boot_len (pa_cons (pv 2) pa_nil)))))
      (nb_cons (ns_of (ps_if (pt_cmpR op_eq (pv 2) pe_str (nomark _)) (pss_one (ps_ret (pe_tup (pa_cons pe_str pa_nil)))) pss_nil))
      (nb_cons (ns_if (pt_cmpR op_eq (pv 3) pe_int (nomark _)) (nb_cons (ns_set (i := 4) scSort.nd rfl (.inl rfl) (ne_call GF hr (by rfl) dF.g dF.F.kp dF.b (pa_cons (pv 0) (pa_cons (pv 1) pa_nil))))
          (nb_of (pss_one (ps_if (pt_cmp (pc_notN (pv 4))) (pss_one (ps_ret (pv 4))) pss_nil)))) (nb_of pss_nil))
      (nb_of (pss_cons (ps_if (PW.pt (pw_or (pt_val (pe_m1 PySem.F.slot_str_startswith PySem.F.type_str_startswith mt_startswith (pv 2) pe_str)) (pw_or1 (pt_val (pe_m1 PySem.F.slot_str_startswith PySem.F.type_str_startswith mt_startswith (pv 2) pe_str)))))
          (pss_one (ps_ret (pe_tup (pa_cons pe_str (pa_cons (pv 3) (pa_cons (pe_ix ix_str (pv 2) pe_int (fun _ _ => rfl)) (pa_cons (pe_call GT hr2 (by rfl) dT.g dT.F.kp dT.b .nil pass0 (pa_cons (pe_slice sl_str (pv 2) (po_some pe_int) po_none) pa_nil)) pa_nil))))))) pss_nil)
        (pss_one (ps_ret (pe_tup (pa_cons pe_str (pa_cons (pv 3) (pa_cons (pe_call GT hr2 (by rfl) dT.g dT.F.kp dT.b .nil pass0 (pa_cons (pv 2) pa_nil)) pa_nil)))))))))))), ?_⟩
    have hsz : sizeLine = 16777216 := sizeLine_eq
    have hbl := rs_len l
    have hbl2 : (ls (rs l)).length ≤ (rs l).length := (List.dropWhile_sublist _).length_le
    refine ⟨_, rfl, ⟨_, rfl⟩, _, _, rfl, rfl, by rw [tx_len]; omega, ?_⟩
    rw [lit32, rstripC]
    refine ⟨_, rfl, ⟨_, rfl⟩, _, _, rfl, rfl, by rw [tx_len]; omega, ?_⟩
    rw [lstripC, show (rs l).dropWhile (fun k => k == 32) = ls (rs l) from rfl]
    refine ⟨_, rfl, _, rfl, by rw [tx_len]; omega, _, rfl, _, rfl, by rw [tx_len]; omega, _, _, rfl, rfl, ?_⟩
    refine ⟨_, rfl, rfl, _, rfl, ?_⟩
    rw [lit0, dec_tx]
    by_cases h1 : ls (rs l) = []
    · rw [decide_eq_true h1]
      refine iteT ⟨by show 1 ≤ sizeLine; omega, fun p np => q _ _ (same_upd np) ?_⟩
      rw [show sortL l = .empty from if_pos h1]
      exact ⟨p, rfl, upd_same⟩
    · rw [decide_eq_false h1]
      have hbg : bg l < l.length := Nat.lt_of_le_of_ne (bg_le l) fun z => h1 ((ls_rs_nil l).mpr z)
      have hfar : ((tx (rs l)).length : Int) - ((tx (ls (rs l))).length : Int) = (bg l : Int) := by
        have := bg_lt_rs hbg
        rw [tx_len, tx_len, ls_rs hbg, List.length_drop]
        omega
      dsimp only
      rw [hfar]
      have es : sortL l = if bg l = 0 then (flush l (rs l)).getD (KM.rest l) else KM.rest l := if_neg h1
      have fin : ∀ H2 y, Same H H2 → sortL l = KM.rest l →
          tSeq (tIfS (tOr (tB (tM1 (fun x xs H Q => ∃ a b, x = .str a ∧ xs = [.str b] ∧ Q (.bl (PySem.Txt.startswith a b)) H) (tVar 2) (tC (.str "- "))))
              (tB (tM1 (fun x xs H Q => ∃ a b, x = .str a ∧ xs = [.str b] ∧ Q (.bl (PySem.Txt.startswith a b)) H) (tVar 2) (tC (.str "+ ")))))
            (tRet (tTup (tCons (tC (.str "item")) (tCons (tVar 3) (tCons (tOp rIxS (tVar 2) (tC (.int 0))) (tCons (tCall spTidy [] E0 (tCons (tSl rSlS (tVar 2) (tPart (tC (.int 2))) tNoPart) tNil)) tNil)))))) tNext)
            (tRet (tTup (tCons (tC (.str "plain")) (tCons (tVar 3) (tCons (tCall spTidy [] E0 (tCons (tVar 2) tNil)) tNil))))) { nx := fun _ H' => Q .non H', rt := Q }
            [some (sv l), some (sv (rs l)), some (sv (ls (rs l))), some (.int (bg l : Int)), y] H2 := by
        intro H2 y s2 er
        have item_case : isItem (ls (rs l)) = true →
            tRet (tTup (tCons (tC (.str "item")) (tCons (tVar 3) (tCons (tOp rIxS (tVar 2) (tC (.int 0))) (tCons (tCall spTidy [] E0 (tCons (tSl rSlS (tVar 2) (tPart (tC (.int 2))) tNoPart) tNil)) tNil)))))
              { nx := tRet (tTup (tCons (tC (.str "plain")) (tCons (tVar 3) (tCons (tCall spTidy [] E0 (tCons (tVar 2) tNil)) tNil)))) { nx := fun _ H' => Q .non H', rt := Q }, rt := Q } [some (sv l), some (sv (rs l)), some (sv (ls (rs l))), some (.int (bg l : Int)), y] H2 := by
          intro hi
          cases hc : ls (rs l) with
          | nil => exact absurd hc h1
          | cons c r =>
            rw [hc] at hbl2
            have hlt : (tx (c :: r)).length ≤ sizeLine := by rw [tx_len]; omega
            refine ⟨_, rfl, _, rfl, _, 0, c, rfl, rfl, hlt, atI_nat (j := 0) rfl, _, rfl, _, rfl, _, rfl, hlt, ?_⟩
            rw [show cutS (tx (c :: r)) (some 2) none = tx ((c :: r).drop 2) from cut_from _ 2]
            refine ⟨_, rfl, by rw [List.length_drop]; omega, fun H3 s3 => ⟨by show 4 ≤ sizeLine; omega, fun p np => q _ _ ((s2.trans s3).trans (same_upd np)) ?_⟩⟩
            rw [er]
            unfold KM.rest
            rw [if_pos hi, hc]
            exact ⟨p, rfl, upd_same⟩
        refine ⟨_, rfl, ⟨_, rfl⟩, _, _, rfl, rfl, _, rfl, ?_⟩
        rw [litM, starts]
        by_cases h2 : (ls (rs l)).take [45, 32].length = [45, 32]
        · rw [decide_eq_true h2]
          refine iteT (iteT (item_case ?_))
          unfold isItem
          rw [decide_eq_true (show (ls (rs l)).take 2 = [45, 32] from h2)]
          rfl
        · rw [decide_eq_false h2]
          refine iteF ⟨_, rfl, ⟨_, rfl⟩, _, _, rfl, rfl, _, rfl, ?_⟩
          rw [litQ, starts]
          by_cases h3 : (ls (rs l)).take [43, 32].length = [43, 32]
          · rw [decide_eq_true h3]
            refine iteT (item_case ?_)
            unfold isItem
            rw [decide_eq_true (show (ls (rs l)).take 2 = [43, 32] from h3), Bool.or_true]
          · rw [decide_eq_false h3]
            refine iteF ⟨_, rfl, _, rfl, ls (rs l), rfl, by omega, fun H3 s3 => ⟨by show 3 ≤ sizeLine; omega, fun p np => q _ _ ((s2.trans s3).trans (same_upd np)) ?_⟩⟩
            have hni : isItem (ls (rs l)) = false := by
              unfold isItem
              rw [decide_eq_false (show ¬ (ls (rs l)).take 2 = [45, 32] from h2), decide_eq_false (show ¬ (ls (rs l)).take 2 = [43, 32] from h3)]
              rfl
            rw [er]
            unfold KM.rest
            rw [if_neg (by rw [hni]; exact Bool.false_ne_true), show tidy l = tidy (ls (rs l)) by rw [tidy_ls, tidy_rs]]
            exact ⟨p, rfl, upd_same⟩
      refine iteF ⟨_, rfl, rfl, _, rfl, ?_⟩
      by_cases h2 : bg l = 0
      · rw [decide_eq_true (show V.int (bg l : Int) = V.int 0 by rw [h2]; rfl)]
        refine iteT ⟨_, rfl, _, rfl, l, rs l, rfl, hl, by omega, fun H2 v s2 o => ⟨_, rfl, _, rfl, ?_⟩⟩
        rw [if_pos h2] at es
        cases e : flush l (rs l) with
        | none =>
          rw [e] at o es
          have o : v = .non := o
          subst o
          exact iteF (fin H2 _ s2 es)
        | some u =>
          rw [e] at o es
          rw [decide_eq_false (show ¬ v = .non from SrtV.ne o)]
          refine iteT ⟨_, rfl, q _ _ s2 ?_⟩
          rw [es]
          exact o
      · rw [decide_eq_false (show ¬ V.int (bg l : Int) = V.int 0 from fun z => h2 (by have := V.int.inj z; omega))]
        rw [if_neg h2] at es
        exact iteF (fin H _ (Same.refl H) es)
end
end KP
namespace KP
open PySem PySem.Spec PyProof.Rows L2 KM KT
section
variable {P : Program} {w : World} {K : PySem.W.Frag} {mg : Str → Option Value} {base : Heap}
/-! ### _law_mixed -/
theorem scMixed : FnScope ["_law_cell", "_law_k", "_law_number"] ["_law_cell", "_law_k"] (defScope sLMixed) := ⟨rfl, rfl, rfl, by decide +kernel, rfl, by decide +kernel, by decide +kernel⟩
def spMixed : Sp := fun vs H Q _ => ∃ c k : Int, vs = [.int c, .int k] ∧ 0 ≤ k ∧ k ≤ 100 ∧ ∀ m : Int, 0 ≤ m → m < 2147483629 → Q (.int m) H
theorem ok_mixed {f : Addr} {fd : FuncData} {k : Nat} (F : Fun K "_law_mixed" "_law_mixed" sLMixed f fd) : FnOk P w K mg base CX0 (k + 1) f fd ["_law_cell", "_law_k"] spMixed := by
  refine F.ok scMixed (fun vs H Q E h => ?_) (fun cdv A outer s H vs Q E hr h => ?_)
  · obtain ⟨c, k, rfl, _⟩ := h
    rfl
  · obtain ⟨c, k, rfl, h0, h1, q⟩ := h
    refine ⟨_, pss_cons (ps_set (i := 2) scMixed.nd rfl (.inl rfl) (pe_op op_mod (pe_op op_mul (pe_op op_add (pe_op op_mod (pv 0) pe_int) pe_int) pe_int) pe_int))
      (pss_one (ps_ret (pe_op op_fdiv (pe_op op_mod (pe_op op_mul (pv 2) (pe_op op_add (pe_op op_add pe_int (pe_op op_mul (pe_op op_mul pe_int (pv 1)) (pv 1))) (pe_op op_mul pe_int (pv 1)))) pe_int) pe_int))), ?_⟩
    refine ⟨_, rfl, _, _, rfl, rfl, (by show (0 : Int) < 1000000007; decide), _, _, rfl, rfl, _, _, rfl, rfl, .inr (by decide), _, _, rfl, rfl, (by show (0 : Int) < 2147483647; decide), ?_⟩
    dsimp only
    generalize hN : ((c % 1000000007 + 1) * 48271 % 2147483647 : Int) = N
    have hN0 : 0 ≤ N := by rw [← hN]; exact Int.emod_nonneg _ (by decide)
    have hN1 : N < 2147483647 := by rw [← hN]; exact Int.emod_lt_of_pos _ (by decide)
    refine ⟨_, rfl, _, rfl, _, _, rfl, rfl, .inl (by decide), _, rfl, _, _, rfl, rfl, .inr (by constructor <;> omega), _, _, rfl, rfl, _, rfl, _, _, rfl, rfl, .inl (by decide), _, _, rfl, rfl,
      _, _, rfl, rfl, .inl (by constructor <;> omega), _, _, rfl, rfl, (by show (0 : Int) < 2147483629; decide), _, _, rfl, rfl, ⟨by decide, by decide⟩, ?_⟩
    dsimp only
    generalize hM : (N * (16807 + 7919 * k * k + 31 * k) % 2147483629 : Int) = M
    have hM0 : 0 ≤ M := by rw [← hM]; exact Int.emod_nonneg _ (by decide)
    have hM1 : M < 2147483629 := by rw [← hM]; exact Int.emod_lt_of_pos _ (by decide)
    show Q (.int (M / 7)) H
    exact q _ (by omega) (by omega)
/-! ### _law_signs -/
theorem scSigns : FnScope ["_law_found"] [] (defScope sLSigns) := ⟨rfl, rfl, rfl, by decide +kernel, rfl, by decide +kernel, by decide +kernel⟩
def spSigns : Sp := fun vs H Q _ => vs = [] ∧ ∀ z : Str, 0 < z.length → z.length ≤ 100 → Q (.str z) H
theorem ok_signs {f : Addr} {fd : FuncData} {k : Nat} (F : Fun K "_law_signs" "_law_signs" sLSigns f fd) : FnOk P w K mg base CX0 (k + 1) f fd [] spSigns := by
  refine F.ok scSigns (fun vs H Q E h => ?_) (fun cdv A outer s H vs Q E hr h => ?_)
  · rw [h.1]
    rfl
  · obtain ⟨rfl, q⟩ := h
    refine ⟨_, pss_cons (ps_set (i := 0) scSigns.nd rfl (.inl rfl) pe_str) (pss_one (ps_ret (pe_op op_add_str (pv 0) pe_str))), ?_⟩
    refine ⟨_, rfl, _, _, rfl, rfl, by decide +kernel, q _ (by decide +kernel) (by decide +kernel)⟩
/-! ### _law_row -/
theorem scRow : FnScope ["_law_cell", "_law_some", "_law_ahead", "_law_behind", "_law_row_here", "_law_k"] ["_law_cell"] (defScope sLRow) := ⟨rfl, rfl, rfl, by decide +kernel, rfl, by decide +kernel, by decide +kernel⟩
def spRow : Sp := fun vs H Q _ => ∃ c : Int, vs = [.int c] ∧ 0 ≤ c ∧ c < 2147483629 ∧ ∀ (z : Str) H', Same H H' → z.length ≤ 100 → Q (.str z) H'
def aheadA : List Str := ["", " ", "  ", ">", "> ", ">>", "~~~", "~~~ ", "=", "= ", "== ", "=== ", "==== ", "|", "||", "| "]
def aheadB : List Str := ["- ", "+ ", "-", " - ", "   + ", "[^", "[^a", "[aB", "[^Q9]: ", "[x]: ", "[x]:", "[x y]: ", "\\"]
def behindA : List Str := ["", "", " ", "|", "\\|", " |", "]: ", "]: x", "~~~", "   "]
theorem ahead_len : ∀ z ∈ aheadA ++ aheadB ++ [("[abcdefghijkl]: " : Str)], z.length ≤ 20 := by decide +kernel
theorem behind_len : ∀ z ∈ behindA, z.length ≤ 20 := by decide +kernel
theorem some_len : ∀ z ∈ ([("ab  -" : Str), "a|\\ |", "[]^: aB", "=~>-+ a"] : List Str), 0 < z.length ∧ z.length ≤ 100 := by decide +kernel
theorem pick {ys : List Str} {i : Int} (h0 : 0 ≤ i) (h1 : i < (ys.length : Int)) : ∃ y ∈ ys, atI (ys.map V.str) i = some (.str y) := by
  obtain ⟨j, rfl⟩ := Int.eq_ofNat_of_zero_le h0
  have hj : j < ys.length := by omega
  exact ⟨ys[j], List.getElem_mem hj, atI_nat (by rw [List.getElem?_map, List.getElem?_eq_getElem hj]; rfl)⟩
theorem pickC {l : List Nat} {i : Int} (h0 : 0 ≤ i) (h1 : i < (l.length : Int)) : ∃ c, atI l i = some c := by
  obtain ⟨j, rfl⟩ := Int.eq_ofNat_of_zero_le h0
  have hj : j < l.length := by omega
  exact ⟨l[j], atI_nat (List.getElem?_eq_getElem hj)⟩
theorem ok_row {f fS fM : Addr} {fd fdS fdM : FuncData} (F : Fun K "_law_row" "_law_row" sLRow f fd) (T : Txt K mg) (dS : Df K mg "_law_signs" sLSigns [] fS fdS) (dM : Df K mg "_law_mixed" sLMixed ["_law_cell", "_law_k"] fM fdM) :
    FnOk P w K mg base CX0 2 f fd ["_law_cell"] spRow := by
  have GS : FnOk P w K mg base CX0 1 fS fdS [] spSigns := ok_signs dS.F
  have GM : FnOk P w K mg base CX0 1 fM fdM ["_law_cell", "_law_k"] spMixed := ok_mixed dM.F
  refine F.ok scRow (fun vs H Q E h => ?_) (fun cdv A outer s H vs Q E hr h => ?_)
  · obtain ⟨c, rfl, _⟩ := h
    rfl
  · obtain ⟨c, rfl, hc0, hc1, q⟩ := h
    refine ⟨_, pss_cons (ps_set (i := 1) scRow.nd rfl (.inl rfl) (pe_ix ix_list (pe_lst (pa_cons (pe_call0 GS hr (by rfl) dS.g dS.F.kp dS.b .nil pass0) (pa_cons pe_str (pa_cons pe_str (pa_cons pe_str (pa_cons pe_str pa_nil)))))) (pe_op op_mod (pv 0) pe_int) (fun _ _ => rfl)))
      (pss_cons (ps_set (i := 2) scRow.nd rfl (.inl rfl) (pe_lst (pa_cons pe_str (pa_cons pe_str (pa_cons pe_str (pa_cons pe_str (pa_cons pe_str (pa_cons pe_str (pa_cons pe_str (pa_cons pe_str (pa_cons pe_str (pa_cons pe_str (pa_cons pe_str (pa_cons pe_str (pa_cons pe_str (pa_cons pe_str (pa_cons pe_str (pa_cons pe_str pa_nil))))))))))))))))))
      (pss_cons (ps_set (i := 2) scRow.nd rfl (.inl rfl) (pe_op op_cat (pv 2) (pe_lst (pa_cons pe_str (pa_cons pe_str (pa_cons pe_str (pa_cons pe_str (pa_cons pe_str (pa_cons pe_str (pa_cons pe_str (pa_cons pe_str (pa_cons pe_str (pa_cons pe_str (pa_cons pe_str (pa_cons pe_str (pa_cons pe_str pa_nil))))))))))))))))
      (pss_cons (ps_expr (pe_bm PySem.F.plainAttrs_list PySem.F.slot_list_append PySem.F.type_list_append mt_append (pv 2) (pa_cons pe_str pa_nil)))
      (pss_cons (ps_set (i := 3) scRow.nd rfl (.inl rfl) (pe_lst (pa_cons pe_str (pa_cons pe_str (pa_cons pe_str (pa_cons pe_str (pa_cons pe_str (pa_cons pe_str (pa_cons pe_str (pa_cons pe_str (pa_cons pe_str (pa_cons pe_str pa_nil))))))))))))
      (pss_cons (ps_set (i := 4) scRow.nd rfl (.inl rfl) (pe_ix ix_list (pv 2) (pe_op op_mod (pe_op op_fdiv (pv 0) pe_int) pe_int) (fun _ _ => rfl)))
      (pss_cons (ps_for PassesOwn.never rfl (pi_range1 (by rfl) T.rng (pa_cons (pe_op op_mod (pe_op op_fdiv (pv 0) pe_int) pe_int) pa_nil)) (pg_name (i := 5) scRow.nd rfl (.inl rfl))
        (pss_one (ps_set (i := 4) scRow.nd rfl (.inl rfl) (pe_op op_add_str (pv 4) (pe_ix ix_str (pv 1) (pe_op op_mod (pe_call GM hr (by rfl) dM.g dM.F.kp dM.b .nil pass0 (pa_cons (pv 0) (pa_cons (pv 5) pa_nil))) (pe_callB call_len_str (by rfl) T.len PySem.boot_len (pa_cons (pv 1) pa_nil))) (fun _ _ => rfl))))))
      (pss_one (ps_ret (pe_op op_add_str (pv 4) (pe_ix ix_list (pv 3) (pe_op op_mod (pe_op op_fdiv (pv 0) pe_int) pe_int) (fun _ _ => rfl))))))))))), ?_⟩
    have hsz : sizeLine = 16777216 := sizeLine_eq
    -- some
    refine ⟨rfl, fun z hz0 hz1 => ⟨by show 5 ≤ sizeLine; omega, fun p1 np1 => ?_⟩⟩
    obtain ⟨y, hy, hya⟩ := pick (ys := [z, "ab  -", "a|\\ |", "[]^: aB", "=~>-+ a"]) (i := c % 5) (by omega) (by show c % 5 < 5; omega)
    have hyl : 0 < y.length ∧ y.length ≤ 100 := by
      rcases List.mem_cons.mp hy with e | e
      · rw [e]; exact ⟨hz0, hz1⟩
      · exact some_len y e
    refine ⟨_, rfl, _, _, rfl, rfl, (by show (0 : Int) < 5; decide), p1, _, _, _, rfl, rfl, .inl (.inl upd_same), hya, ?_⟩
    have s1 : Same H (upd H p1 (.lst [V.str z, .str "ab  -", .str "a|\\ |", .str "[]^: aB", .str "=~>-+ a"])) := same_upd np1
    generalize upd H p1 (.lst [V.str z, .str "ab  -", .str "a|\\ |", .str "[]^: aB", .str "=~>-+ a"]) = H1 at s1 ⊢
    -- ahead
    refine ⟨by show 16 ≤ sizeLine; omega, fun p2 np2 => ?_⟩
    refine ⟨_, rfl, by show 13 ≤ sizeLine; omega, fun p3 np3 => ?_⟩
    have e2 : (upd H1 p2 (.lst (aheadA.map V.str))) p2 = some (.lst (aheadA.map V.str)) := upd_same
    have s2 : Same H (upd H1 p2 (.lst (aheadA.map V.str))) := s1.trans (same_upd np2)
    have np3 : (upd H1 p2 (.lst (aheadA.map V.str))) p3 = none := np3
    show rCat (.ref p2) (.ref p3) (upd (upd H1 p2 (.lst (aheadA.map V.str))) p3 (.lst (aheadB.map V.str))) _
    generalize upd H1 p2 (.lst (aheadA.map V.str)) = H2 at e2 s2 np3 ⊢
    refine ⟨p2, p3, _, _, rfl, rfl, by rw [upd_ne (ne_of_none e2 np3)]; exact e2, upd_same, by rw [List.length_map, List.length_map]; show 16 + 13 ≤ sizeLine; omega, fun p4 np4 => ?_⟩
    have s3 : Same H (upd H2 p3 (.lst (aheadB.map V.str))) := s2.trans (same_upd np3)
    generalize upd H2 p3 (.lst (aheadB.map V.str)) = H3 at s3 np4 ⊢
    have n4 : H p4 = none := s3.free np4
    rw [← List.map_append]
    refine ⟨_, rfl, .inl ⟨rfl, _, .inl (.inl upd_same)⟩, p4, _, _, rfl, rfl, upd_same, by rw [List.length_map]; show 29 < sizeLine; omega, ?_⟩
    rw [upd_upd]
    have s4 : Same H (upd H3 p4 (.lst ((aheadA ++ aheadB).map V.str ++ [.str "[abcdefghijkl]: "]))) := s3.trans (same_upd np4)
    have e4 : upd H3 p4 (.lst ((aheadA ++ aheadB).map V.str ++ [.str "[abcdefghijkl]: "])) p4 = some (.lst ((aheadA ++ aheadB ++ [("[abcdefghijkl]: " : Str)]).map V.str)) := by
      rw [upd_same, List.map_append (l₂ := [("[abcdefghijkl]: " : Str)])]
      rfl
    generalize upd H3 p4 (.lst ((aheadA ++ aheadB).map V.str ++ [.str "[abcdefghijkl]: "])) = H4 at s4 e4 ⊢
    -- behind
    refine ⟨by show 10 ≤ sizeLine; omega, fun p5 np5 => ?_⟩
    have e5 : (upd H4 p5 (.lst (behindA.map V.str))) p5 = some (.lst (behindA.map V.str)) := upd_same
    have e45 : (upd H4 p5 (.lst (behindA.map V.str))) p4 = some (.lst ((aheadA ++ aheadB ++ [("[abcdefghijkl]: " : Str)]).map V.str)) := by
      rw [upd_ne (ne_of_none e4 np5)]
      exact e4
    have s5 : Same H (upd H4 p5 (.lst (behindA.map V.str))) := s4.trans (same_upd np5)
    show tSeq _ _ _ _ (upd H4 p5 (.lst (behindA.map V.str)))
    generalize upd H4 p5 (.lst (behindA.map V.str)) = H5 at e5 e45 s5 ⊢
    -- the row's beginning
    obtain ⟨a, ha, haa⟩ := pick (ys := aheadA ++ aheadB ++ [("[abcdefghijkl]: " : Str)]) (i := c / 5 % 30) (by omega) (by show c / 5 % 30 < 30; omega)
    have hal := ahead_len a ha
    refine ⟨_, rfl, _, rfl, _, _, rfl, rfl, ⟨by decide, by decide⟩, _, _, rfl, rfl, (by show (0 : Int) < 30; decide), p4, _, _, _, rfl, rfl, .inl (.inl e45), haa, ?_⟩
    -- the signs
    refine ⟨_, rfl, _, _, rfl, rfl, ⟨by decide, by decide⟩, _, _, rfl, rfl, (by show (0 : Int) < 13; decide), (c / 150 % 13), rfl, by omega, by omega, ?_⟩
    refine for_range (lo := 0) (n := (c / 150 % 13).toNat) (fun i v H' => H' = H5 ∧ ∃ (x : Str) (o : Option V), v = [some (.int c), some (.str y), some (.ref p4), some (.ref p5), some (.str x), o] ∧ x.length ≤ 20 + i) ⟨rfl, a, none, rfl, by omega⟩ ?_ ?_
    · rintro i v H6 hi ⟨rfl, x, o, rfl, hx⟩
      refine ⟨_, rfl, _, rfl, _, rfl, _, rfl, c, (0 : Int) + i, rfl, by omega, by omega, fun m hm0 hm1 => ?_⟩
      have hyt := TL.len_tl y
      obtain ⟨d, hd⟩ := pickC (l := y.cps.toList) (i := m % (y.length : Int)) (Int.emod_nonneg _ (by omega)) (by
        have := Int.emod_lt_of_pos m (show (0 : Int) < (y.length : Int) by omega)
        have e : y.cps.toList.length = y.length := hyt.symm
        omega)
      refine ⟨_, rfl, _, rfl, by omega, _, _, rfl, rfl, (by show (0 : Int) < (y.length : Int); omega), y, _, d, rfl, rfl, by omega, hd, _, _, rfl, rfl, ?_, rfl, x ++ tx [d], _, rfl, ?_⟩
      · show x.length + 1 ≤ sizeLine
        omega
      · rw [TL.len_tl, TL.tl_append, List.length_append, ← TL.len_tl]
        show x.length + 1 ≤ _
        omega
    · rintro v H6 ⟨rfl, x, o, rfl, hx⟩
      obtain ⟨b, hb, hba⟩ := pick (ys := behindA) (i := c / 1950 % 10) (by omega) (by show c / 1950 % 10 < 10; omega)
      have hbl := behind_len b hb
      refine ⟨_, rfl, _, rfl, _, rfl, _, _, rfl, rfl, ⟨by decide, by decide⟩, _, _, rfl, rfl, (by show (0 : Int) < 10; decide), p5, _, _, _, rfl, rfl, .inl (.inl e5), hba, _, _, rfl, rfl, by omega, q _ _ s5 ?_⟩
      rw [TL.len_tl, TL.tl_append, List.length_append, ← TL.len_tl, ← TL.len_tl]
      omega
end
end KP
namespace KP
open PySem PySem.Spec PyProof.Rows L2 KM KT
theorem drop_at {l : List Nat} {i c : Nat} (h : l[i]? = some c) : l.drop i = c :: l.drop (i + 1) := by
  obtain ⟨hi, e⟩ := List.getElem?_eq_some_iff.mp h
  rw [List.drop_eq_getElem_cons hi, e]
section
variable {P : Program} {w : World} {K : PySem.W.Frag} {mg : Str → Option Value} {base : Heap}
/-! ### _law_words -/
theorem scLWords : FnScope ["_law_text", "_law_found", "_law_sign", "_law_word"] ["_law_text"] (defScope sLWords) := ⟨rfl, rfl, rfl, by decide +kernel, rfl, by decide +kernel, by decide +kernel⟩
theorem ok_lwords {f : Addr} {fd : FuncData} {k : Nat} (F : Fun K "_law_words" "_law_words" sLWords f fd) : FnOk P w K mg base CX0 (k + 1) f fd ["_law_text"] spWords := by
  refine F.ok scLWords (fun vs H Q E h => ?_) (fun cdv A outer s H vs Q E hr h => ?_)
  · obtain ⟨l, rfl, _⟩ := h
    rfl
  · obtain ⟨l, rfl, hl, q⟩ := h
    refine ⟨_, pss_cons (ps_set (i := 1) scLWords.nd rfl (.inl rfl) (pe_lst (pa_cons pe_str pa_nil)))
      (pss_cons (ps_for PassesOwn.never rfl (pi_str (pv 0)) (pg_name (i := 2) scLWords.nd rfl (.inl rfl))
        (pss_one (ps_if (pt_cmpR op_ne (pv 2) pe_str (nomark _))
            (pss_one (ps_asg (pe_op op_add_str (pe_ix ix_list (pv 1) (pe_un un_neg pe_int) (fun _ _ => rfl)) (pv 2)) (pg_sub (pv 1) (pe_un un_neg pe_int) set_list)))
            (pss_one (ps_if (pt_cmpR op_ne (pe_ix ix_list (pv 1) (pe_un un_neg pe_int) (fun _ _ => rfl)) pe_str (nomark _))
              (pss_one (ps_expr (pe_bm PySem.F.plainAttrs_list PySem.F.slot_list_append PySem.F.type_list_append mt_append (pv 1) (pa_cons pe_str pa_nil)))) pss_nil)))))
      (pss_one (ps_ret (pe_lc (own := [("_law_word", 3)]) (g := gName 3) rfl scLWords.nd (pi_list (pv 1))
        (blkOk_by (own := [("_law_word", 3)]) (N := ["_law_text", "_law_found", "_law_sign", "_law_word"]) (sc := defScope sLWords) (by decide +kernel))
        (fun _ _ _ _ _ => pg_name (i := 3) scLWords.nd rfl (Or.inl rfl)) (fun _ _ _ _ _ => pts_one (pt_cmpR op_ne (pv 3) pe_str (nomark _))) (fun _ _ _ _ _ => pv 3))))), ?_⟩
    have hsz : sizeLine = 16777216 := sizeLine_eq
    refine ⟨by show 1 ≤ sizeLine; omega, fun o no => ?_⟩
    refine ⟨_, rfl, _, rfl, for_str (l := l) (fun i v H' => ∃ acc cur y, v = [some (sv l), some (.ref o), y, none] ∧ Same H H' ∧ H' o = some (.lst ((acc ++ [cur]).map sv)) ∧ (∀ p ∈ acc, p ≠ []) ∧ acc ++ wl cur (l.drop i) = words l ∧ acc.length ≤ i ∧ cur.length ≤ i)
      ⟨[], [], none, rfl, same_upd no, by rw [upd_same, lit0]; rfl, by simp, rfl, Nat.le_refl _, Nat.le_refl _⟩ ?_ ?_⟩
    · rintro i c v H2 hc ⟨acc, cur, y, rfl, s2, ho, ha, he, hk, hk2⟩
      have hi : i < l.length := (List.getElem?_eq_some_iff.mp hc).1
      have hd := drop_at hc
      have nH : ∀ {u}, Same H (upd H2 o u) := fun {u} b x e => by
        rw [upd_ne (ne_of_none e no)]
        exact s2 b x e
      refine ⟨_, rfl, rfl, _, rfl, ?_⟩
      rw [lit32, dec_tx]
      by_cases h1 : c = 32
      · subst h1
        rw [decide_eq_true rfl]
        refine iteF ?_
        refine ⟨_, rfl, 1, rfl, o, _, -1, sv cur, rfl, rfl, .inl (.inl ho), at_last acc cur, rfl, _, rfl, ?_⟩
        rw [lit0, dec_tx]
        by_cases h2 : cur = []
        · rw [decide_eq_true h2]
          refine iteF ⟨acc, cur, some (sv [32]), rfl, s2, ho, ha, ?_, by omega, by omega⟩
          rw [hd, wl_blank, if_pos h2] at he
          rw [h2]
          exact he
        · rw [decide_eq_false h2]
          refine iteT ⟨_, rfl, .inl ⟨rfl, _, .inl (.inl ho)⟩, o, _, _, rfl, rfl, ho, ?_, ?_⟩
          · rw [List.length_map, List.length_append, List.length_singleton]; omega
          · refine ⟨acc ++ [cur], [], some (sv [32]), rfl, nH, ?_, fun p hp => ?_, ?_, by rw [List.length_append, List.length_singleton]; omega, Nat.zero_le _⟩
            · rw [upd_same]
              simp only [List.map_append]
              rfl
            · rcases List.mem_append.mp hp with z | z
              · exact ha p z
              · rw [List.mem_singleton.mp z]; exact h2
            · rw [hd, wl_blank, if_neg h2] at he
              rw [List.append_assoc]
              exact he
      · rw [decide_eq_false (show ¬ [c] = [32] from fun z => h1 (List.cons.inj z).1)]
        refine iteT ?_
        refine ⟨_, rfl, 1, rfl, o, _, -1, sv cur, rfl, rfl, .inl (.inl ho), at_last acc cur, _, rfl, _, _, rfl, rfl, by rw [tx_len, tx_len, List.length_singleton]; omega, ?_⟩
        refine ⟨_, rfl, 1, rfl, o, _, -1, acc.length, rfl, rfl, ho, ?_, ?_⟩
        · have := ix_last (acc.map sv) (sv cur)
          rw [List.length_map] at this
          rw [List.map_append]
          exact this
        · refine ⟨acc, cur ++ [c], some (sv [c]), rfl, nH, ?_, ha, ?_, by omega, by rw [List.length_append, List.length_singleton]; omega⟩
          · rw [upd_same, tx_add, List.map_append, List.map_append]
            have := set_last (acc.map sv) (sv cur) (sv (cur ++ [c]))
            rw [List.length_map] at this
            exact congrArg (fun z => some (HO.lst z)) this
          · rw [hd, wl_sign h1] at he
            exact he
    · rintro v H2 ⟨acc, cur, y, rfl, s2, ho, ha, he, hk, hk2⟩
      rw [List.drop_length, wl_nil] at he
      have hW : (acc ++ [cur]).filter (fun p => decide (p ≠ [])) = words l := by
        rw [← he, List.filter_append, List.filter_eq_self.mpr fun p hp => decide_eq_true (ha p hp)]
        by_cases h : cur = []
        · rw [if_pos h, h]; rfl
        · rw [if_neg h]; simp [h]
      have hz : (acc ++ [cur]).length ≤ l.length + 1 := by rw [List.length_append, List.length_singleton]; omega
      generalize acc ++ [cur] = ps at ho hW hz
      refine ⟨_, rfl, o, rfl, ⟨_, .inl (.inl ho)⟩, fun D nD => ?_⟩
      have hoD : o ≠ D := ne_of_none ho nD
      refine lc_list (K := K) (a := o) (xs := ps.map sv) (fun i H' => Same H H' ∧ H' o = some (.lst (ps.map sv)) ∧ H' D = some (.lst (((ps.take i).filter fun p => decide (p ≠ [])).map sv)))
        ⟨s2.trans (same_upd nD), by rw [upd_ne hoD]; exact ho, by rw [upd_same]; rfl⟩ (fun i H' _ h => .inl (.inl h.2.1)) ?_ ?_
      · rintro i x H3 hx ⟨s3, h1, h2⟩
        obtain ⟨u, hu, rfl⟩ := map_at hx
        have hi : i < ps.length := (List.getElem?_eq_some_iff.mp hu).1
        have nHD : ∀ {u}, Same H (upd H3 D u) := fun {u} b x e => by
          have hb : b ≠ D := fun z => by
            have := s2 b x e
            rw [z, nD] at this
            cases this
          rw [upd_ne hb]
          exact s3 b x e
        refine ⟨rfl, _, rfl, rfl, _, rfl, ?_⟩
        rw [lit0, dec_tx]
        by_cases hu0 : u = []
        · rw [decide_eq_true hu0]
          refine iteF ⟨s3, h1, ?_⟩
          rw [filt_step hu, if_neg (by simp [hu0]), List.append_nil]
          exact h2
        · rw [decide_eq_false hu0]
          refine iteT ⟨_, rfl, _, h2, small1000 ?_, nHD, ?_, ?_⟩
          · rw [List.length_map]
            have h3 := List.length_filter_le (fun p => decide (p ≠ [])) (ps.take i)
            rw [List.length_take] at h3
            omega
          · rw [upd_ne hoD]
            exact h1
          · rw [upd_same, filt_step hu, if_pos (by simp [hu0]), List.map_append]
            rfl
      · rintro H3 ⟨s3, h1, h2⟩
        rw [List.length_map, List.take_length, hW] at h2
        exact q H3 D s3 h2
/-! ### _law_tidy -/
theorem scLTidy : FnScope ["_law_text"] ["_law_text"] (defScope sLTidy) := ⟨rfl, rfl, rfl, by decide +kernel, rfl, by decide +kernel, by decide +kernel⟩
theorem ok_ltidy {f fW : Addr} {fd fdW : FuncData} (F : Fun K "_law_tidy" "_law_tidy" sLTidy f fd) (dW : Df K mg "_law_words" sLWords ["_law_text"] fW fdW) : FnOk P w K mg base CX0 2 f fd ["_law_text"] spTidy := by
  have GW : FnOk P w K mg base CX0 1 fW fdW ["_law_text"] spWords := ok_lwords dW.F
  refine F.ok scLTidy (fun vs H Q E h => ?_) (fun cdv A outer s H vs Q E hr h => ?_)
  · obtain ⟨l, rfl, _⟩ := h
    rfl
  · obtain ⟨l, rfl, hl, q⟩ := h
    refine ⟨_, pss_one (ps_ret (pe_join pe_str (pe_call GW hr (by rfl) dW.g dW.F.kp dW.b .nil pass0 (pa_cons (pv 0) pa_nil)))), ?_⟩
    refine ⟨⟨_, rfl⟩, _, rfl, l, rfl, hl, fun H' p sm hp => ?_⟩
    refine ⟨_, p, (words l).map tx, rfl, rfl, .inl (.inl (.inl (by rw [List.map_map]; exact hp))), join_fits hl, ?_⟩
    rw [lit32, join_tx]
    exact q H' sm
end
/-! ### where a row begins and ends -/
theorem bg_before : ∀ (l : List Nat) (i : Nat), i < bg l → l[i]? = some 32
  | [], i, h => absurd h (Nat.not_lt_zero _)
  | c :: r, i, h => by
    by_cases hc : c = 32
    · subst hc
      have e1 : bg (32 :: r) = bg r + 1 := by
        unfold bg
        rw [List.takeWhile_cons_of_pos (by rfl), List.length_cons]
      rw [e1] at h
      cases i with
      | zero => rfl
      | succ i =>
        rw [List.getElem?_cons_succ]
        exact bg_before r i (by omega)
    · have e1 : bg (c :: r) = 0 := by
        unfold bg
        rw [List.takeWhile_cons_of_neg (by simpa using hc)]
        rfl
      rw [e1] at h
      exact absurd h (Nat.not_lt_zero _)
theorem en_bounds (l : List Nat) : bg l ≤ en l ∧ en l ≤ l.length := by
  unfold en
  by_cases h : bg l = l.length
  · rw [if_pos h]
    exact ⟨Nat.le_refl _, bg_le l⟩
  · rw [if_neg h]
    have := bg_le l
    exact ⟨Nat.le_of_lt (bg_lt_rs (by omega)), rs_len l⟩
theorem en_behind {l : List Nat} {j : Nat} (h : en l ≤ j) (h2 : j < l.length) : l[j]? = some 32 := by
  unfold en at h
  by_cases hb : bg l = l.length
  · rw [if_pos hb] at h
    omega
  · rw [if_neg hb] at h
    obtain ⟨n, e⟩ := rs_pre l
    have h3 := congrArg List.length e
    rw [List.length_append, List.length_replicate] at h3
    have h4 : (rs l ++ List.replicate n 32)[j]? = some 32 := by
      rw [List.getElem?_append_right h, List.getElem?_replicate, if_pos (by omega)]
    rw [← e] at h4
    exact h4
theorem en_at {l : List Nat} (h : bg l < en l) : ∃ c, l[en l - 1]? = some c ∧ c ≠ 32 := by
  unfold en at h ⊢
  by_cases hb : bg l = l.length
  · rw [if_pos hb] at h
    exact absurd h (Nat.lt_irrefl _)
  · rw [if_neg hb] at h ⊢
    have hlt : (rs l).length - 1 < (rs l).length := by omega
    have h1 := rs_last l
    rw [List.getLast?_eq_getElem?, List.getElem?_eq_getElem hlt] at h1
    refine ⟨(rs l)[(rs l).length - 1], ?_, fun z => h1 (by rw [z])⟩
    have h2 : (l.take (rs l).length)[(rs l).length - 1]? = some (rs l)[(rs l).length - 1] := by
      rw [rs_take]
      exact List.getElem?_eq_getElem hlt
    rw [List.getElem?_take_of_lt hlt] at h2
    exact h2
section
variable {P : Program} {w : World} {K : PySem.W.Frag} {mg : Str → Option Value} {base : Heap}
/-! ### _law_bounds -/
theorem scBounds : FnScope ["_law_row_here", "_law_begin", "_law_end"] ["_law_row_here"] (defScope sLBounds) := ⟨rfl, rfl, rfl, by decide +kernel, rfl, by decide +kernel, by decide +kernel⟩
def spBounds : Sp := fun vs H Q _ => ∃ l : List Nat, vs = [sv l] ∧ l.length ≤ 900 ∧ ∀ H' p, Same H H' → H' p = some (.tup [.int (bg l : Int), .int (en l : Int)]) → Q (.ref p) H'
theorem ok_bounds {f : Addr} {fd : FuncData} {k : Nat} (F : Fun K "_law_bounds" "_law_bounds" sLBounds f fd) (T : Txt K mg) : FnOk P w K mg base CX0 (k + 1) f fd ["_law_row_here"] spBounds := by
  refine F.ok scBounds (fun vs H Q E h => ?_) (fun cdv A outer s H vs Q E hr h => ?_)
  · obtain ⟨l, rfl, _⟩ := h
    rfl
  · obtain ⟨l, rfl, hl, q⟩ := h
    refine ⟨_, pss_cons (ps_set (i := 1) scBounds.nd rfl (.inl rfl) pe_int)
      (pss_cons (ps_while PassesOwn.never (PW.pt (pw_and (pt_cmpR op_lt (pv 1) (pe_callB call_len_str (by rfl) T.len PySem.boot_len (pa_cons (pv 0) pa_nil)) (nomark _)) (pw_and1 (pt_cmpR op_eq (pe_ix ix_str (pv 0) (pv 1) (fun _ _ => rfl)) pe_str (nomark _)))))
        (pss_one (ps_set (i := 1) scBounds.nd rfl (.inl rfl) (pe_op op_add (pv 1) pe_int))))
      (pss_cons (ps_set (i := 2) scBounds.nd rfl (.inl rfl) (pe_callB call_len_str (by rfl) T.len PySem.boot_len (pa_cons (pv 0) pa_nil)))
      (pss_cons (ps_while PassesOwn.never (PW.pt (pw_and (pt_cmpR op_gt (pv 2) (pv 1) (nomark _)) (pw_and1 (pt_cmpR op_eq (pe_ix ix_str (pv 0) (pe_op op_sub (pv 2) pe_int) (fun _ _ => rfl)) pe_str (nomark _)))))
        (pss_one (ps_set (i := 2) scBounds.nd rfl (.inl rfl) (pe_op op_sub (pv 2) pe_int))))
      (pss_one (ps_ret (pe_tup (pa_cons (pv 1) (pa_cons (pv 2) pa_nil)))))))), ?_⟩
    have hsz : sizeLine = 16777216 := sizeLine_eq
    have hlt : (tx l).length ≤ sizeLine := by rw [tx_len]; omega
    refine ⟨fun m v H' => ∃ i, m + i = bg l ∧ v = [some (sv l), some (.int (i : Int)), none] ∧ H' = H, ⟨bg l, 0, rfl, rfl, rfl⟩, ?_⟩
    rintro m v H1 ⟨i, hm, rfl, rfl⟩
    have hble := bg_le l
    have after : tSeq (tAsg (tCB (fun xs H Q => ∃ z, xs = [.str z] ∧ z.length ≤ sizeLine ∧ Q (.int z.length) H) (tCons (tVar 0) tNil)) (gName 2))
        (tSeq (tWhile (tAnd (tTest (tOp (rI0 fun i j => .bl (decide (j < i))) (tVar 2) (tVar 1))) (tTest (tOp rEq (tOp rIxS (tVar 0) (tOp (rI0 fun i j => .int (i - j)) (tVar 2) (tC (.int 1)))) (tC (.str " ")))))
            (tAsg (tOp (rI0 fun i j => .int (i - j)) (tVar 2) (tC (.int 1))) (gName 2)))
          (tRet (tTup (tCons (tVar 1) (tCons (tVar 2) tNil))))) { nx := fun _ H' => Q .non H', rt := Q } [some (sv l), some (.int (bg l : Int)), none] H1 := by
      refine ⟨_, rfl, _, rfl, hlt, ?_⟩
      obtain ⟨he1, he2⟩ := en_bounds l
      refine ⟨fun m v H' => ∃ j, m + en l = j ∧ j ≤ l.length ∧ v = [some (sv l), some (.int (bg l : Int)), some (.int (j : Int))] ∧ H' = H1, ⟨l.length - en l, l.length, by omega, Nat.le_refl _, rfl, rfl⟩, ?_⟩
      rintro m v H2 ⟨j, hj, hjl, rfl, rfl⟩
      have stop : j = en l → tRet (tTup (tCons (tVar 1) (tCons (tVar 2) tNil))) { nx := fun _ H' => Q .non H', rt := Q } [some (sv l), some (.int (bg l : Int)), some (.int (j : Int))] H2 := by
        rintro rfl
        exact ⟨_, rfl, _, rfl, by show 2 ≤ sizeLine; omega, fun p np => q _ p (same_upd np) upd_same⟩
      refine ⟨_, rfl, _, rfl, _, _, rfl, rfl, _, rfl, ?_⟩
      by_cases h1 : (bg l : Int) < (j : Int)
      · rw [decide_eq_true h1]
        have hcast : (j : Int) - 1 = ((j - 1 : Nat) : Int) := by omega
        by_cases h2 : j = en l
        · obtain ⟨c, hc, hc2⟩ := en_at (l := l) (by omega)
          refine iteT ⟨_, rfl, _, rfl, _, _, rfl, rfl, _, _, c, rfl, rfl, hlt, ?_, rfl, _, rfl, ?_⟩
          · dsimp only
            rw [hcast, h2]
            exact atI_nat hc
          · rw [lit32, show (V.str ⟨#[c]⟩) = V.str (tx [c]) from rfl, dec_tx, decide_eq_false (show ¬ [c] = [32] from fun z => hc2 (List.cons.inj z).1)]
            exact iteF (stop h2)
        · have hc := en_behind (l := l) (j := j - 1) (by omega) (by omega)
          refine iteT ⟨_, rfl, _, rfl, _, _, rfl, rfl, _, _, 32, rfl, rfl, hlt, ?_, rfl, _, rfl, ?_⟩
          · dsimp only
            rw [hcast]
            exact atI_nat hc
          · rw [lit32, show (V.str ⟨#[32]⟩) = V.str (tx [32]) from rfl, dec_tx, decide_eq_true rfl]
            refine iteT ⟨fun v' H' => v' = [some (sv l), some (.int (bg l : Int)), some (.int ((j - 1 : Nat) : Int))] ∧ H' = H2, ?_, _, rfl, _, _, rfl, rfl, ?_, rfl⟩
            · rintro v' H' ⟨rfl, rfl⟩
              exact ⟨m - 1, by omega, j - 1, by omega, by omega, rfl, rfl⟩
            · dsimp only
              rw [hcast]
              rfl
      · rw [decide_eq_false h1]
        exact iteF (iteF (stop (by omega)))
    refine ⟨_, rfl, _, rfl, _, rfl, hlt, _, _, rfl, rfl, _, rfl, ?_⟩
    rw [tx_len]
    by_cases h1 : (i : Int) < (l.length : Int)
    · rw [decide_eq_true h1]
      by_cases h2 : i = bg l
      · obtain ⟨c, hc, hc2⟩ := bg_at (l := l) (by omega)
        refine iteT ⟨_, rfl, _, rfl, _, _, c, rfl, rfl, hlt, atI_nat (by rw [h2]; exact hc), rfl, _, rfl, ?_⟩
        rw [lit32, show (V.str ⟨#[c]⟩) = V.str (tx [c]) from rfl, dec_tx, decide_eq_false (show ¬ [c] = [32] from fun z => hc2 (List.cons.inj z).1)]
        refine iteF ?_
        rw [h2]
        rw [lit32] at after
        exact after
      · have hc := bg_before l i (by omega)
        refine iteT ⟨_, rfl, _, rfl, _, _, 32, rfl, rfl, hlt, atI_nat hc, rfl, _, rfl, ?_⟩
        rw [lit32, show (V.str ⟨#[32]⟩) = V.str (tx [32]) from rfl, dec_tx, decide_eq_true rfl]
        refine iteT ⟨fun v' H' => v' = [some (sv l), some (.int ((i + 1 : Nat) : Int)), none] ∧ H' = H1, ?_, _, rfl, _, _, rfl, rfl, rfl, rfl⟩
        rintro v' H' ⟨rfl, rfl⟩
        exact ⟨m - 1, by omega, i + 1, by omega, rfl, rfl⟩
    · rw [decide_eq_false h1]
      refine iteF (iteF ?_)
      rw [show i = bg l by omega]
      exact after
end
end KP
namespace KP
open PySem PySem.Spec PyProof.Rows L2 KM KT
theorem cw_sum : ∀ (l a cur : List Nat), (cw a cur l).length ≤ l.length + 1 ∧ ∀ p ∈ cw a cur l, p.length ≤ cur.length + l.length
  | [], a, cur => by
    rw [cw]
    refine ⟨Nat.le_refl _, fun p hp => ?_⟩
    rw [List.mem_singleton.mp hp]; exact Nat.le_refl _
  | c :: r, a, cur => by
    rw [cw]
    by_cases h : c ≠ 124
    · rw [if_pos h]
      obtain ⟨h1, h2⟩ := cw_sum r [c] (cur ++ [c])
      refine ⟨by rw [List.length_cons]; omega, fun p hp => ?_⟩
      have := h2 p hp
      rw [List.length_append, List.length_singleton] at this
      rw [List.length_cons]; omega
    · rw [if_neg h]
      by_cases h3 : a = [92]
      · rw [if_pos h3]
        obtain ⟨h1, h2⟩ := cw_sum r [c] (cur.dropLast ++ [124])
        refine ⟨by rw [List.length_cons]; omega, fun p hp => ?_⟩
        have := h2 p hp
        rw [List.length_append, List.length_singleton, List.length_dropLast] at this
        rw [List.length_cons]; omega
      · rw [if_neg h3]
        obtain ⟨h1, h2⟩ := cw_sum r [c] []
        refine ⟨by rw [List.length_cons, List.length_cons]; omega, fun p hp => ?_⟩
        rw [List.length_cons]
        rcases List.mem_cons.mp hp with e | e
        · rw [e]; omega
        · have := h2 p e
          rw [List.length_nil] at this; omega
/-- the sign ahead of the k-th -/
def ah (l : List Nat) (k : Nat) : List Nat := (l.take k).getLast?.toList
theorem ah_step {l : List Nat} {k c : Nat} (h : l[k]? = some c) : ah l (k + 1) = [c] := by
  unfold ah
  rw [take_step h, List.getLast?_concat]
  rfl
theorem ah_at {l : List Nat} {k : Nat} (h : k < l.length) (h0 : 0 < k) : ∃ d, l[k - 1]? = some d ∧ ah l k = [d] := by
  have hk : k - 1 < l.length := by omega
  refine ⟨l[k - 1], List.getElem?_eq_getElem hk, ?_⟩
  have := ah_step (List.getElem?_eq_getElem hk)
  rw [show k - 1 + 1 = k by omega] at this
  exact this
section
variable {P : Program} {w : World} {K : PySem.W.Frag} {mg : Str → Option Value} {base : Heap}
/-! ### _law_cells -/
theorem scLCells : FnScope ["_law_text", "_law_found", "_law_k", "_law_one"] ["_law_text"] (defScope sLCells) := ⟨rfl, rfl, rfl, by decide +kernel, rfl, by decide +kernel, by decide +kernel⟩
theorem ok_lcells {f fT : Addr} {fd fdT : FuncData} (F : Fun K "_law_cells" "_law_cells" sLCells f fd) (T : Txt K mg) (dT : Df K mg "_law_tidy" sLTidy ["_law_text"] fT fdT) (GT : FnOk P w K mg base CX0 2 fT fdT ["_law_text"] spTidy) :
    FnOk P w K mg base CX0 3 f fd ["_law_text"] spSplit := by
  refine F.ok scLCells (fun vs H Q E h => ?_) (fun cdv A outer s H vs Q E hr h => ?_)
  · obtain ⟨l, rfl, _⟩ := h
    rfl
  · obtain ⟨l, rfl, hl, q⟩ := h
    refine ⟨_, pss_cons (ps_set (i := 1) scLCells.nd rfl (.inl rfl) (pe_lst (pa_cons pe_str pa_nil)))
      (pss_cons (ps_for PassesOwn.never rfl (pi_range1 (by rfl) T.rng (pa_cons (pe_callB call_len_str (by rfl) T.len PySem.boot_len (pa_cons (pv 0) pa_nil)) pa_nil)) (pg_name (i := 2) scLCells.nd rfl (.inl rfl))
        (pss_one (ps_if (pt_cmpR op_ne (pe_ix ix_str (pv 0) (pv 2) (fun _ _ => rfl)) pe_str (nomark _))
            (pss_one (ps_asg (pe_op op_add_str (pe_ix ix_list (pv 1) (pe_un un_neg pe_int) (fun _ _ => rfl)) (pe_ix ix_str (pv 0) (pv 2) (fun _ _ => rfl))) (pg_sub (pv 1) (pe_un un_neg pe_int) set_list)))
            (pss_one (ps_if (PW.pt (pw_and (pt_cmpR op_gt (pv 2) pe_int (nomark _)) (pw_and1 (pt_cmpR op_eq (pe_ix ix_str (pv 0) (pe_op op_sub (pv 2) pe_int) (fun _ _ => rfl)) pe_str (nomark _)))))
              (pss_one (ps_asg (pe_op op_add_str (pe_slice sl_str (pe_ix ix_list (pv 1) (pe_un un_neg pe_int) (fun _ _ => rfl)) po_none (po_some (pe_un un_neg pe_int))) pe_str) (pg_sub (pv 1) (pe_un un_neg pe_int) set_list)))
              (pss_one (ps_expr (pe_bm PySem.F.plainAttrs_list PySem.F.slot_list_append PySem.F.type_list_append mt_append (pv 1) (pa_cons pe_str pa_nil)))))))))
      (pss_one (ps_ret (pe_lc (own := [("_law_one", 3)]) (g := gName 3) (tt := tYes) rfl scLCells.nd (pi_list (pv 1))
        (blkOk_by (own := [("_law_one", 3)]) (N := ["_law_text", "_law_found", "_law_k", "_law_one"]) (sc := defScope sLCells) (by decide +kernel))
        (fun _ _ _ _ _ => pg_name (i := 3) scLCells.nd rfl (Or.inl rfl)) (fun _ _ _ _ _ => pts_nil) (fun _ _ _ _ _ => pe_call GT hr (by rfl) dT.g dT.F.kp dT.b .nil pass0 (pa_cons (pv 3) pa_nil)))))), ?_⟩
    have hsz : sizeLine = 16777216 := sizeLine_eq
    have hlt : (tx l).length ≤ sizeLine := by rw [tx_len]; omega
    refine ⟨by show 1 ≤ sizeLine; omega, fun o no => ?_⟩
    refine ⟨_, rfl, _, rfl, hlt, (l.length : Int), by rw [tx_len], by omega, by omega, ?_⟩
    rw [Int.toNat_natCast]
    refine for_range (lo := 0) (n := l.length) (fun i v H' => ∃ acc cur y, v = [some (sv l), some (.ref o), y, none] ∧ Same H H' ∧ H' o = some (.lst ((acc ++ [cur]).map sv)) ∧ acc ++ cw (ah l i) cur (l.drop i) = cw [] [] l ∧ acc.length ≤ i ∧ cur.length ≤ i)
      ⟨[], [], none, rfl, same_upd no, by rw [upd_same, lit0]; rfl, rfl, Nat.le_refl _, Nat.le_refl _⟩ ?_ ?_
    · rintro i v H2 hi ⟨acc, cur, y, rfl, s2, ho, he, hk, hk2⟩
      have hc : l[i]? = some l[i] := List.getElem?_eq_getElem hi
      generalize l[i] = c at hc
      have hd := drop_at hc
      have hci : atI (tx l).cps.toList ((0 : Int) + i) = some c := by
        rw [Int.zero_add]
        exact atI_nat hc
      have nH : ∀ {u}, Same H (upd H2 o u) := fun {u} b x e => by
        rw [upd_ne (ne_of_none e no)]
        exact s2 b x e
      have put : ∀ {H3 : Hp} {d : List Nat} {y : Option V}, H3 = upd H2 o (.lst (((acc ++ [cur]).map sv).set acc.length (sv d))) → acc ++ cw [c] d (l.drop (i + 1)) = cw [] [] l → d.length ≤ i + 1 →
          ∃ acc cur y', ([some (sv l), some (.ref o), y, none] : L2.St) = [some (sv l), some (.ref o), y', none] ∧ Same H H3 ∧ H3 o = some (.lst ((acc ++ [cur]).map sv)) ∧ acc ++ cw (ah l (i + 1)) cur (l.drop (i + 1)) = cw [] [] l ∧ acc.length ≤ i + 1 ∧ cur.length ≤ i + 1 := by
        rintro H3 d y rfl e1 e2
        refine ⟨acc, d, y, rfl, nH, ?_, by rw [ah_step hc]; exact e1, by omega, e2⟩
        rw [upd_same, List.map_append, List.map_append]
        have := set_last (acc.map sv) (sv cur) (sv d)
        rw [List.length_map] at this
        exact congrArg (fun z => some (HO.lst z)) this
      have hix : ixN ((acc ++ [cur]).map sv).length (-1) = some acc.length := by
        have := ix_last (acc.map sv) (sv cur)
        rw [List.length_map] at this
        rw [List.map_append]
        exact this
      refine ⟨_, rfl, _, rfl, _, _, c, rfl, rfl, hlt, hci, rfl, _, rfl, ?_⟩
      rw [lit124, show (V.str ⟨#[c]⟩) = V.str (tx [c]) from rfl, dec_tx]
      by_cases h1 : c = 124
      · subst h1
        rw [decide_eq_true rfl]
        refine iteF ?_
        refine ⟨_, rfl, _, _, rfl, rfl, _, rfl, ?_⟩
        have app : ah l i ≠ [92] → tDrop (tBM K "list" rAppend (tVar 1) (tCons (tC (.str "")) tNil)) { nx := fun v2 H' => ∃ acc cur y, v2 = [some (sv l), some (.ref o), y, none] ∧ Same H H' ∧ H' o = some (.lst ((acc ++ [cur]).map sv)) ∧ acc ++ cw (ah l (i + 1)) cur (l.drop (i + 1)) = cw [] [] l ∧ acc.length ≤ i + 1 ∧ cur.length ≤ i + 1, rt := Q } [some (sv l), some (.ref o), some (.int ((0 : Int) + i)), none] H2 := by
          intro hn
          refine ⟨_, rfl, .inl ⟨rfl, _, .inl (.inl ho)⟩, o, _, _, rfl, rfl, ho, ?_, ?_⟩
          · rw [List.length_map, List.length_append, List.length_singleton]; omega
          · refine ⟨acc ++ [cur], [], _, rfl, nH, ?_, ?_, by rw [List.length_append, List.length_singleton]; omega, Nat.zero_le _⟩
            · rw [upd_same, lit0]
              simp only [List.map_append]
              rfl
            · rw [hd, cw, if_neg (by simp), if_neg hn] at he
              rw [List.append_assoc, ah_step hc]
              exact he
        by_cases h2 : (0 : Int) < (0 : Int) + (i : Int)
        · rw [decide_eq_true h2]
          obtain ⟨d, hd1, hd2⟩ := ah_at hi (show 0 < i by omega)
          have hdi : atI (tx l).cps.toList ((0 : Int) + i - 1) = some d := by
            rw [show (0 : Int) + (i : Int) - 1 = ((i - 1 : Nat) : Int) by omega]
            exact atI_nat hd1
          refine iteT ⟨_, rfl, _, rfl, _, _, rfl, rfl, _, _, d, rfl, rfl, hlt, hdi, rfl, _, rfl, ?_⟩
          rw [lit92, show (V.str ⟨#[d]⟩) = V.str (tx [d]) from rfl, dec_tx]
          by_cases h3 : d = 92
          · rw [decide_eq_true (show [d] = [92] by rw [h3])]
            refine iteT ?_
            refine ⟨_, rfl, 1, rfl, o, _, -1, sv cur, rfl, rfl, .inl (.inl ho), at_last acc cur, _, rfl, _, rfl, _, rfl, by rw [tx_len]; omega, ?_⟩
            rw [show cutS (tx cur) none (some (-1)) = tx cur.dropLast from cut_init cur]
            refine ⟨_, _, rfl, rfl, by rw [tx_len, List.length_dropLast]; show cur.length - 1 + 1 ≤ sizeLine; omega, ?_⟩
            refine ⟨_, rfl, 1, rfl, o, _, -1, acc.length, rfl, rfl, ho, hix, ?_⟩
            refine put (d := cur.dropLast ++ [124]) (by rw [tx_add]) ?_ (by rw [List.length_append, List.length_dropLast, List.length_singleton]; omega)
            rw [hd, cw, if_neg (by simp), if_pos (by rw [hd2, h3])] at he
            exact he
          · rw [decide_eq_false (show ¬ [d] = [92] from fun z => h3 (List.cons.inj z).1)]
            refine iteF ?_
            exact app (by rw [hd2]; exact fun z => h3 (List.cons.inj z).1)
        · rw [decide_eq_false h2]
          refine iteF (iteF ?_)
          have h0 : i = 0 := by omega
          refine app ?_
          rw [h0]
          unfold ah
          simp
      · rw [decide_eq_false (show ¬ [c] = [124] from fun z => h1 (List.cons.inj z).1)]
        refine iteT ?_
        refine ⟨_, rfl, 1, rfl, o, _, -1, sv cur, rfl, rfl, .inl (.inl ho), at_last acc cur, _, rfl, _, rfl, _, _, c, rfl, rfl, hlt, hci, _, _, rfl, rfl, by rw [tx_len]; show cur.length + 1 ≤ sizeLine; omega, ?_⟩
        refine ⟨_, rfl, 1, rfl, o, _, -1, acc.length, rfl, rfl, ho, hix, ?_⟩
        refine put (d := cur ++ [c]) (by rw [show (⟨#[c]⟩ : Str) = tx [c] from rfl, tx_add]) ?_ (by rw [List.length_append, List.length_singleton]; omega)
        rw [hd, cw, if_pos h1] at he
        exact he
    · rintro v H2 ⟨acc, cur, y, rfl, s2, ho, he, hk, hk2⟩
      rw [List.drop_length, cw] at he
      rw [he] at ho
      obtain ⟨hz1, hz2⟩ := cw_sum l [] []
      have hC : (cw [] [] l).map tidy = cells l := cells_law l
      generalize cw [] [] l = ps at ho hz1 hz2 hC
      refine ⟨_, rfl, o, rfl, ⟨_, .inl (.inl ho)⟩, fun D nD => ?_⟩
      have hoD : o ≠ D := ne_of_none ho nD
      refine lc_list (K := K) (a := o) (xs := ps.map sv) (fun i H' => Same H H' ∧ H' o = some (.lst (ps.map sv)) ∧ H' D = some (.lst (((ps.take i).map tidy).map sv)))
        ⟨s2.trans (same_upd nD), by rw [upd_ne hoD]; exact ho, by rw [upd_same]; rfl⟩ (fun i H' _ h => .inl (.inl h.2.1)) ?_ ?_
      · rintro i x H3 hx ⟨s3, h1, h2⟩
        obtain ⟨u, hu, rfl⟩ := map_at hx
        have hu2 : u.length ≤ 900 := by
          have := hz2 u (List.mem_of_getElem? hu)
          rw [List.length_nil] at this; omega
        have hi : i < ps.length := (List.getElem?_eq_some_iff.mp hu).1
        refine ⟨rfl, _, rfl, u, rfl, hu2, fun H4 s4 => ?_⟩
        refine ⟨_, s4 _ _ h2, ?_, ?_, ?_, ?_⟩
        · rw [List.length_map, List.length_map, List.length_take]; omega
        · intro b x e
          have hb : b ≠ D := fun z => by
            have := s2 b x e
            rw [z, nD] at this
            cases this
          rw [upd_ne hb]
          exact s4 _ _ (s3 b x e)
        · rw [upd_ne hoD]
          exact s4 _ _ h1
        · rw [upd_same, take_step hu, List.map_append, List.map_append]
          rfl
      · rintro H3 ⟨s3, h1, h2⟩
        rw [List.length_map, List.take_length, hC] at h2
        exact q H3 D s3 h2
end
end KP
namespace KP
open PySem PySem.Spec PyProof.Rows L2 KM KT
def great : Str := "ABCDEFGHIJKLMNOPQRSTUVWXYZ"
def small : Str := "abcdefghijklmnopqrstuvwxyz"
def allL : Str := great ++ small ++ ("0123456789" : Str)
theorem all_ok : ∀ c ∈ allL.cps.toList, lett c = true := by decide +kernel
theorem all_has : ∀ c, c < 123 → lett c = true → c ∈ allL.cps.toList := by decide +kernel
theorem mem_all (c : Nat) : decide (c ∈ allL.cps.toList) = lett c := by
  rw [Bool.eq_iff_iff, decide_eq_true_eq]
  constructor
  · exact all_ok c
  · intro h
    refine all_has c ?_ h
    unfold lett at h
    simp only [Bool.or_eq_true, Bool.and_eq_true, decide_eq_true_eq] at h
    omega
theorem great_ok : ∀ c ∈ great.cps.toList, 65 ≤ c ∧ c ≤ 90 := by decide +kernel
theorem great_has : ∀ c, c < 91 → 65 ≤ c → c ∈ great.cps.toList := by decide +kernel
theorem great_at : ∀ j, j < 26 → Builtin.Str.occurrences great (tx [j + 65]) 0 great.length 1 = [j] := by decide +kernel
theorem small_at : ∀ j, j < 26 → small.cps.toList[j]? = some (j + 97) := by decide +kernel
def nmV : Option (List Nat) → V
  | none => .non
  | some u => sv u
theorem nmV_none (o : Option (List Nat)) : decide (nmV o = .non) = !o.isSome := by
  cases o with
  | none => rfl
  | some u => exact decide_eq_false fun z => by cases z
section
variable {P : Program} {w : World} {K : PySem.W.Frag} {mg : Str → Option Value} {base : Heap}
/-! ### _law_name -/
theorem scLName : FnScope ["_law_text", "_law_great", "_law_small", "_law_found", "_law_sign"] ["_law_text"] (defScope sLName) := ⟨rfl, rfl, rfl, by decide +kernel, rfl, by decide +kernel, by decide +kernel⟩
def spNm : Sp := fun vs H Q _ => ∃ l : List Nat, vs = [sv l] ∧ l.length ≤ 900 ∧ Q (nmV (nm l)) H
theorem ok_lname {f : Addr} {fd : FuncData} {k : Nat} (F : Fun K "_law_name" "_law_name" sLName f fd) (T : Txt K mg) : FnOk P w K mg base CX0 (k + 1) f fd ["_law_text"] spNm := by
  refine F.ok scLName (fun vs H Q E h => ?_) (fun cdv A outer s H vs Q E hr h => ?_)
  · obtain ⟨l, rfl, _⟩ := h
    rfl
  · obtain ⟨l, rfl, hl, q⟩ := h
    refine ⟨_, pss_cons (ps_set (i := 1) scLName.nd rfl (.inl rfl) pe_str) (pss_cons (ps_set (i := 2) scLName.nd rfl (.inl rfl) pe_str) (pss_cons (ps_set (i := 3) scLName.nd rfl (.inl rfl) pe_str)
      (pss_cons (ps_for PassesOwn.never rfl (pi_str (pv 0)) (pg_name (i := 4) scLName.nd rfl (.inl rfl))
        (pss_cons (ps_if (pt_cmpR op_notIn_sign (pv 4) (pe_op op_add_str (pe_op op_add_str (pv 1) (pv 2)) pe_str) rfl) (pss_one (ps_ret pe_non)) pss_nil)
        (pss_one (ps_set (i := 3) scLName.nd rfl (.inl rfl) (pe_op op_add_str (pv 3) (pe_ifExp (pt_cmpR op_in_sign (pv 4) (pv 1) rfl)
          (pe_ix ix_str (pv 2) (pe_m1 PySem.F.slot_str_index PySem.F.type_str_index mt_sindex (pv 1) (pv 4)) (fun _ _ => rfl)) (pv 4)))))))
      (pss_one (ps_ret (pe_ifExp (pt_chain op_le op_le pe_int (pe_callB call_len_str (by rfl) T.len PySem.boot_len (pa_cons (pv 3) pa_nil)) pe_int) (pv 3) pe_non)))))), ?_⟩
    have hsz : sizeLine = 16777216 := sizeLine_eq
    refine ⟨_, rfl, _, rfl, for_str (l := l) (fun i v H' => H' = H ∧ (∃ y, v = [some (sv l), some (.str great), some (.str small), some (sv ((l.take i).map low)), y]) ∧ (l.take i).all lett = true)
      ⟨rfl, ⟨none, by rw [lit0]; rfl⟩, rfl⟩ ?_ ?_⟩
    · rintro i c v H2 hc ⟨rfl, ⟨y, rfl⟩, ha⟩
      have hi : i < l.length := (List.getElem?_eq_some_iff.mp hc).1
      refine ⟨_, rfl, _, rfl, _, rfl, _, _, rfl, rfl, by decide +kernel, _, _, rfl, rfl, by decide +kernel, c, _, rfl, rfl, _, rfl, ?_⟩
      rw [show (great ++ small ++ ("0123456789" : Str)) = allL from rfl, mem_all]
      cases hcl : lett c with
      | false =>
        refine iteT ?_
        have e : nm l = none := by
          have : l.all lett = false := by
            cases e : l.all lett with
            | false => rfl
            | true =>
              have := List.all_eq_true.mp e c (List.mem_of_getElem? hc)
              rw [hcl] at this
              cases this
          unfold nm isNm
          rw [this, Bool.and_false]
          rfl
        have q' := q
        rw [e] at q'
        exact q'
      | true =>
        refine iteF ?_
        have fin : ∀ d : Nat, low c = d → ∃ y, ([some (sv l), some (.str great), some (.str small), some (.str (tx ((l.take i).map low) ++ tx [d])), some (sv [c])] : L2.St) = [some (sv l), some (.str great), some (.str small), some (sv ((l.take (i + 1)).map low)), y] := by
          rintro d rfl
          refine ⟨some (sv [c]), ?_⟩
          rw [take_step hc, List.map_append, tx_add]
          rfl
        have hall : (l.take (i + 1)).all lett = true := by
          rw [take_step hc, List.all_append, ha]
          simp [hcl]
        have hsm : ((l.take i).map low).length ≤ 900 := by rw [List.length_map, List.length_take]; omega
        refine ⟨_, rfl, _, rfl, _, rfl, c, _, rfl, rfl, _, rfl, ?_⟩
        by_cases hg : c ∈ great.cps.toList
        · rw [decide_eq_true hg]
          obtain ⟨g1, g2⟩ := great_ok c hg
          obtain ⟨j, rfl⟩ : ∃ j, c = j + 65 := ⟨c - 65, by omega⟩
          have hj : j < 26 := by omega
          refine iteT ⟨_, rfl, _, rfl, ⟨_, rfl⟩, _, rfl, great, tx [j + 65], j, [], rfl, rfl, great_at j hj, small, _, j + 97, rfl, rfl, by decide +kernel, atI_nat (small_at j hj), _, _, rfl, rfl, ?_, rfl, ?_, hall⟩
          · rw [tx_len]
            show _ + 1 ≤ sizeLine
            omega
          · refine fin (j + 97) ?_
            unfold low
            rw [if_pos ⟨by omega, by omega⟩]
        · rw [decide_eq_false hg]
          refine iteF ⟨_, rfl, _, _, rfl, rfl, ?_, rfl, ?_, hall⟩
          · rw [tx_len]
            show _ + 1 ≤ sizeLine
            omega
          · refine fin c ?_
            unfold low
            rw [if_neg fun z => hg (great_has c (by omega) z.1)]
    · rintro v H2 ⟨rfl, ⟨y, rfl⟩, ha⟩
      rw [List.take_length] at ha ⊢
      refine ⟨_, rfl, _, rfl, ?_, 1, _, rfl, rfl, _, rfl, ?_⟩
      · rw [tx_len, List.length_map]; omega
      rw [tx_len, List.length_map]
      have no : isNm l = false → Q .non H2 := fun e => by
        have q' := q
        unfold nm at q'
        rw [e] at q'
        exact q'
      by_cases h1 : (1 : Int) ≤ (l.length : Int)
      · rw [decide_eq_true h1]
        refine iteT ⟨_, 12, rfl, rfl, _, rfl, ?_⟩
        by_cases h2 : (l.length : Int) ≤ 12
        · rw [decide_eq_true h2]
          refine iteT ⟨_, rfl, ?_⟩
          have e : isNm l = true := by
            unfold isNm
            rw [decide_eq_true (show 1 ≤ l.length by omega), decide_eq_true (show l.length ≤ 12 by omega), ha]
            rfl
          have q' := q
          unfold nm at q'
          rw [if_pos e] at q'
          exact q'
        · rw [decide_eq_false h2]
          refine iteF (no ?_)
          unfold isNm
          rw [decide_eq_false (show ¬ l.length ≤ 12 by omega), Bool.and_false, Bool.false_and]
      · rw [decide_eq_false h1]
        refine iteF ⟨_, rfl, iteF (no ?_)⟩
        unfold isNm
        rw [decide_eq_false (show ¬ 1 ≤ l.length by omega), Bool.false_and, Bool.false_and]
end
end KP
namespace KP
open PySem PySem.Spec PyProof.Rows L2 KM KT
/-- where the law's look for "]: " ends -/
def StopAt (l : List Nat) (i : Nat) : Prop := (∀ k, k < i → TL.pre [93, 58, 32] (l.drop k) = false) ∧ i ≤ l.length ∧ (i = l.length ∨ TL.pre [93, 58, 32] (l.drop i) = true)
theorem pre3 (l : List Nat) : TL.pre [93, 58, 32] l = decide (l.take 3 = [93, 58, 32]) := by
  show (l.take 3 == [93, 58, 32]) = _
  rw [Bool.eq_iff_iff]
  simp
theorem find_loop {l : List Nat} {H : Hp} {D : Ends} (hl : l.length ≤ 900) (fin : ∀ i : Nat, StopAt l i → D.nx [some (sv l), some (.int (i : Int)), none] H) :
    tWhile (tAnd (tTest (tOp (rI0 fun i j => .bl (decide (i < j))) (tVar 1) (tCB (fun xs H Q => ∃ z, xs = [.str z] ∧ z.length ≤ sizeLine ∧ Q (.int z.length) H) (tCons (tVar 0) tNil))))
        (tTest (tOp rNe (tSl rSlS (tVar 0) (tPart (tVar 1)) (tPart (tOp (rI0 fun i j => .int (i + j)) (tVar 1) (tC (.int 3))))) (tC (.str "]: ")))))
      (tAsg (tOp (rI0 fun i j => .int (i + j)) (tVar 1) (tC (.int 1))) (gName 1)) D [some (sv l), some (.int 0), none] H := by
  have hsz : sizeLine = 16777216 := sizeLine_eq
  have hlt : (tx l).length ≤ sizeLine := by rw [tx_len]; omega
  refine ⟨fun m v H' => ∃ i, m + i = l.length ∧ v = [some (sv l), some (.int (i : Int)), none] ∧ H' = H ∧ ∀ k, k < i → TL.pre [93, 58, 32] (l.drop k) = false, ⟨l.length, 0, rfl, rfl, rfl, fun k hk => absurd hk (Nat.not_lt_zero _)⟩, ?_⟩
  rintro m v H1 ⟨i, hm, rfl, rfl, hk⟩
  refine ⟨_, rfl, _, rfl, _, rfl, hlt, _, _, rfl, rfl, _, rfl, ?_⟩
  rw [tx_len]
  by_cases h1 : (i : Int) < (l.length : Int)
  · rw [decide_eq_true h1]
    refine iteT ⟨_, rfl, _, rfl, _, rfl, _, rfl, _, _, rfl, rfl, _, rfl, _, rfl, hlt, rfl, _, rfl, ?_⟩
    have ec : cutS (tx l) (some (i : Int)) (some ((i : Int) + 3)) = tx ((l.drop i).take 3) := by
      have := cut_mid l i (i + 3)
      rw [Nat.add_sub_cancel_left] at this
      exact this
    rw [ec, litP, dec_tx, ← pre3]
    cases hp : TL.pre [93, 58, 32] (l.drop i) with
    | true => exact iteF (fin i ⟨hk, by omega, .inr hp⟩)
    | false =>
      refine iteT ⟨fun v' H' => v' = [some (sv l), some (.int ((i + 1 : Nat) : Int)), none] ∧ H' = H1, ?_, _, rfl, _, _, rfl, rfl, rfl, rfl⟩
      rintro v' H' ⟨rfl, rfl⟩
      refine ⟨m - 1, by omega, i + 1, by omega, rfl, rfl, fun k hk2 => ?_⟩
      rcases Nat.lt_succ_iff_lt_or_eq.mp hk2 with z | z
      · exact hk k z
      · rw [z]; exact hp
  · rw [decide_eq_false h1]
    have e : i = l.length := by omega
    exact iteF (iteF (fin i ⟨hk, by omega, .inl e⟩))
theorem par_stop {l : List Nat} {i : Nat} (h : StopAt l i) (hp : TL.pre [93, 58, 32] (l.drop i) = true) : TL.par [93, 58, 32] [] l = some (l.take i, l.drop (i + 3)) := by
  have run := TL.par_run [93, 58, 32] l i 0 [] (by have := h.2.1; omega) (fun k _ k2 => h.1 k (by omega))
  rw [List.drop_zero, Nat.zero_add, List.nil_append, TL.par_at (by simp) hp] at run
  exact run
theorem par_all {l : List Nat} (h : StopAt l l.length) : TL.par [93, 58, 32] [] l = none := by
  have run := TL.par_run [93, 58, 32] l l.length 0 [] (by omega) (fun k _ k2 => h.1 k (by omega))
  rw [List.drop_zero, Nat.zero_add, List.drop_length] at run
  exact run
theorem nm_some {l : List Nat} (h : isNm l = true) : nm l = some (l.map low) := if_pos h
theorem nm_no {l : List Nat} (h : isNm l = false) : nm l = none := by
  unfold nm
  rw [h]
  rfl
section
variable {P : Program} {w : World} {K : PySem.W.Frag} {mg : Str → Option Value} {base : Heap}
/-! ### _law_named -/
theorem scLNamed : FnScope ["_law_bare", "_law_at", "_law_words_here"] ["_law_bare"] (defScope sLNamed) := ⟨rfl, rfl, rfl, by decide +kernel, rfl, by decide +kernel, by decide +kernel⟩
theorem ok_lnamed {f fW fN : Addr} {fd fdW fdN : FuncData} (F : Fun K "_law_named" "_law_named" sLNamed f fd) (T : Txt K mg) (dW : Df K mg "_law_words" sLWords ["_law_text"] fW fdW) (dN : Df K mg "_law_name" sLName ["_law_text"] fN fdN) :
    FnOk P w K mg base CX0 2 f fd ["_law_bare"] (spO named) := by
  have GW : FnOk P w K mg base CX0 1 fW fdW ["_law_text"] spWords := ok_lwords dW.F
  have GN : FnOk P w K mg base CX0 1 fN fdN ["_law_text"] spNm := ok_lname dN.F T
  refine F.ok scLNamed (fun vs H Q E h => ?_) (fun cdv A outer s H vs Q E hr h => ?_)
  · obtain ⟨l, rfl, _⟩ := h
    rfl
  · obtain ⟨l, rfl, hl, q⟩ := h
    refine ⟨_, pss_cons (ps_set (i := 1) scLNamed.nd rfl (.inl rfl) pe_int)
      (pss_cons (ps_while PassesOwn.never (PW.pt (pw_and (pt_cmpR op_lt (pv 1) (pe_callB call_len_str (by rfl) T.len PySem.boot_len (pa_cons (pv 0) pa_nil)) (nomark _))
          (pw_and1 (pt_cmpR op_ne (pe_slice sl_str (pv 0) (po_some (pv 1)) (po_some (pe_op op_add (pv 1) pe_int))) pe_str (nomark _)))))
        (pss_one (ps_set (i := 1) scLNamed.nd rfl (.inl rfl) (pe_op op_add (pv 1) pe_int))))
      (pss_cons (ps_if (PW.pt (pw_or (pt_cmpR op_ge (pv 1) (pe_callB call_len_str (by rfl) T.len PySem.boot_len (pa_cons (pv 0) pa_nil)) (nomark _)) (pw_or1 (pt_cmpR op_ne (pe_ix ix_str (pv 0) pe_int (fun _ _ => rfl)) pe_str (nomark _)))))
        (pss_one (ps_ret pe_non)) pss_nil)
      (pss_cons (ps_set (i := 2) scLNamed.nd rfl (.inl rfl) (pe_call GW hr (by rfl) dW.g dW.F.kp dW.b .nil pass0 (pa_cons (pe_slice sl_str (pv 0) (po_some (pe_op op_add (pv 1) pe_int)) po_none) pa_nil)))
      (pss_cons (ps_if (PW.pt (pw_and (pt_cmpR op_eq (pe_slice sl_str (pv 0) (po_some pe_int) (po_some pe_int)) pe_str (nomark _))
          (pw_and1 (pt_cmp (pc_notN (pe_call GN hr (by rfl) dN.g dN.F.kp dN.b .nil pass0 (pa_cons (pe_slice sl_str (pv 0) (po_some pe_int) (po_some (pv 1))) pa_nil)))))))
        (pss_one (ps_ret (pe_tup (pa_cons pe_str (pa_cons (pe_call GN hr (by rfl) dN.g dN.F.kp dN.b .nil pass0 (pa_cons (pe_slice sl_str (pv 0) (po_some pe_int) (po_some (pv 1))) pa_nil)) (pa_cons (pe_join pe_str (pv 2)) pa_nil)))))) pss_nil)
      (pss_cons (ps_if (PW.pt (pw_and (pt_cmp (pc_notN (pe_call GN hr (by rfl) dN.g dN.F.kp dN.b .nil pass0 (pa_cons (pe_slice sl_str (pv 0) (po_some pe_int) (po_some (pv 1))) pa_nil))))
          (pw_and1 (pt_cmpR op_eq (pe_callB call_len_seq (by rfl) T.len PySem.boot_len (pa_cons (pv 2) pa_nil)) pe_int (nomark _)))))
        (pss_one (ps_ret (pe_tup (pa_cons pe_str (pa_cons (pe_call GN hr (by rfl) dN.g dN.F.kp dN.b .nil pass0 (pa_cons (pe_slice sl_str (pv 0) (po_some pe_int) (po_some (pv 1))) pa_nil)) (pa_cons (pe_ix ix_list (pv 2) pe_int (fun _ _ => rfl)) pa_nil)))))) pss_nil)
      (pss_one (ps_ret pe_non))))))), ?_⟩
    have hsz : sizeLine = 16777216 := sizeLine_eq
    have hlt : (tx l).length ≤ sizeLine := by rw [tx_len]; omega
    have none_case : ∀ H', Same H H' → named l = none → Q .non H' := fun H' sm e => q H' .non sm (by rw [e]; rfl)
    refine find_loop hl fun i hS => ?_
    refine ⟨_, rfl, _, rfl, _, rfl, hlt, _, _, rfl, rfl, _, rfl, ?_⟩
    rw [tx_len]
    rcases hS.2.2 with e | hp
    · subst e
      rw [decide_eq_true (Int.le_refl _)]
      exact iteT (iteT (none_case _ (Same.refl H) (by unfold named; rw [par_all hS])))
    · have hab := par_stop hS hp
      have hn : named l = namedAt (l.take i) (l.drop (i + 3)) := by unfold named; rw [hab]
      have hi : i < l.length := by
        refine Nat.lt_of_not_le fun z => ?_
        rw [List.drop_eq_nil_of_le z] at hp
        cases hp
      rw [decide_eq_false (show ¬ (l.length : Int) ≤ (i : Int) by omega)]
      cases hlc : l with
      | nil => rw [hlc] at hi; exact absurd hi (Nat.not_lt_zero _)
      | cons c r =>
        rw [← hlc]
        have ha0 : atI (tx l).cps.toList 0 = some c := by
          rw [hlc]
          exact atI_nat (j := 0) rfl
        refine iteF ⟨_, rfl, _, 0, c, rfl, rfl, hlt, ha0, rfl, _, rfl, ?_⟩
        rw [lit91, show (V.str ⟨#[c]⟩) = V.str (tx [c]) from rfl, dec_tx]
        by_cases hc : c = 91
        · rw [decide_eq_true (show [c] = [91] by rw [hc])]
          have hi0 : 0 < i := by
            refine Nat.pos_of_ne_zero fun z => ?_
            rw [z, List.drop_zero, hlc, hc, pre3] at hp
            simp at hp
          obtain ⟨j, rfl⟩ : ∃ j, i = j + 1 := ⟨i - 1, by omega⟩
          have hhead : (l.take (j + 1)).head? = some 91 := by rw [hlc, hc]; rfl
          refine iteF ⟨_, rfl, _, rfl, _, _, rfl, rfl, _, rfl, _, rfl, hlt, ?_⟩
          rw [show cutS (tx l) (some (((j + 1 : Nat) : Int) + 3)) none = tx (l.drop (j + 1 + 3)) from cut_from l (j + 1 + 3)]
          refine ⟨_, rfl, by rw [List.length_drop]; omega, fun H1 p s1 h1 => ?_⟩
          refine ⟨_, rfl, _, rfl, _, rfl, _, rfl, hlt, rfl, _, rfl, ?_⟩
          rw [show cutS (tx l) (some 1) (some 2) = tx ((l.drop 1).take 1) from cut_mid l 1 2, lit94, dec_tx]
          have cut2 : cutS (tx l) (some 2) (some ((j + 1 : Nat) : Int)) = tx ((l.take (j + 1)).drop 2) := by
            exact (cut_mid l 2 (j + 1)).trans (by rw [List.drop_take])
          have cut1 : cutS (tx l) (some 1) (some ((j + 1 : Nat) : Int)) = tx ((l.take (j + 1)).drop 1) := by
            exact (cut_mid l 1 (j + 1)).trans (by rw [List.drop_take])
          have htwo : (l.take (j + 1)).take 2 = [91, 94] ↔ (l.drop 1).take 1 = [94] := by
            rw [hlc, hc]
            show (91 :: r.take j).take 2 = [91, 94] ↔ r.take 1 = [94]
            cases j with
            | zero =>
              have hr2 : r.take 3 = [93, 58, 32] := by
                have h3 := hp
                rw [hlc, pre3] at h3
                exact of_decide_eq_true h3
              constructor
              · intro z
                simp at z
              · intro z
                have := congrArg (List.take 1) hr2
                rw [List.take_take, show min 1 3 = 1 from rfl, z] at this
                simp at this
            | succ j =>
              show 91 :: (r.take (j + 1)).take 1 = [91, 94] ↔ r.take 1 = [94]
              rw [List.take_take, show min 1 (j + 1) = 1 by omega]
              constructor
              · intro z; injection z
              · intro z; rw [z]
          have hlen2 : ((l.take (j + 1)).drop 2).length ≤ 900 := by rw [List.length_drop, List.length_take]; omega
          have hlen1 : ((l.take (j + 1)).drop 1).length ≤ 900 := by rw [List.length_drop, List.length_take]; omega
          have hlenb : (l.drop (j + 1 + 3)).length ≤ 900 := by rw [List.length_drop]; omega
          generalize hA : l.take (j + 1) = a at hn hhead cut1 cut2 htwo hlen1 hlen2
          generalize hB : l.drop (j + 1 + 3) = b at hn h1 hlenb
          have else_case : ¬ (a.take 2 = [91, 94] ∧ isNm (a.drop 2) = true) →
              tSeq (tIfS (tAnd (tB (tNotN (tCall spNm [] E0 (tCons (tSl rSlS (tVar 0) (tPart (tC (.int 1))) (tPart (tVar 1))) tNil))))
                  (tTest (tOp rEq (tCB (fun xs H Q => ∃ p ys, xs = [.ref p] ∧ (SqL K H p ys ∨ SqT K H p ys) ∧ Q (.int ys.length) H) (tCons (tVar 2) tNil)) (tC (.int 1)))))
                (tRet (tTup (tCons (tC (.str "name")) (tCons (tCall spNm [] E0 (tCons (tSl rSlS (tVar 0) (tPart (tC (.int 1))) (tPart (tVar 1))) tNil)) (tCons (tOp (rIxL K) (tVar 2) (tC (.int 0))) tNil))))) tNext)
                (tRet (tC .non)) { nx := fun _ H' => Q .non H', rt := Q } [some (sv l), some (.int ((j + 1 : Nat) : Int)), some (.ref p)] H1 := by
            intro hno
            have hn2 : named l = match words b with
                | [w] => if isNm (a.drop 1) = true then some (.name ((a.drop 1).map low) w) else none
                | _ => none := by
              rw [hn]
              unfold namedAt
              rw [if_pos hhead, if_neg hno]
              try rfl
            refine ⟨_, rfl, _, rfl, _, rfl, _, rfl, _, rfl, hlt, ?_⟩
            rw [cut1]
            refine ⟨_, rfl, hlen1, _, rfl, ?_⟩
            rw [nmV_none]
            cases h5 : isNm (a.drop 1) with
            | false =>
              rw [nm_no h5]
              refine iteF (iteF (none_case _ s1 ?_))
              rw [hn2, h5]
              split <;> rfl
            | true =>
              rw [nm_some h5]
              refine iteT ⟨_, rfl, p, _, rfl, .inl (.inl (.inl h1)), rfl, _, rfl, ?_⟩
              rw [List.length_map]
              by_cases h6 : (words b).length = 1
              · obtain ⟨u, hu⟩ := List.length_eq_one_iff.mp h6
                rw [decide_eq_true (show V.int ((words b).length : Int) = V.int 1 by rw [h6]; rfl)]
                refine iteT ⟨_, rfl, _, rfl, _, rfl, _, rfl, _, rfl, hlt, ?_⟩
                rw [cut1]
                refine ⟨_, rfl, hlen1, ?_⟩
                rw [nm_some h5]
                refine ⟨_, rfl, p, _, 0, sv u, rfl, rfl, .inl (.inl h1), atI_nat (j := 0) (by rw [hu]; rfl), by show 3 ≤ sizeLine; omega, fun t nt => q _ _ (s1.trans (same_upd nt)) ?_⟩
                rw [hn2, hu, h5]
                exact ⟨t, rfl, upd_same⟩
              · rw [decide_eq_false (show ¬ V.int ((words b).length : Int) = V.int 1 from fun z => h6 (by have := V.int.inj z; omega))]
                refine iteF (none_case _ s1 ?_)
                rw [hn2]
                split
                · rename_i u hu
                  exact absurd (by rw [hu]; rfl) h6
                · rfl
          by_cases h2 : (l.drop 1).take 1 = [94]
          · rw [decide_eq_true h2]
            refine iteT ⟨_, rfl, _, rfl, _, rfl, _, rfl, _, rfl, hlt, ?_⟩
            rw [cut2]
            refine ⟨_, rfl, hlen2, _, rfl, ?_⟩
            rw [nmV_none]
            cases h3 : isNm (a.drop 2) with
            | true =>
              rw [nm_some h3]
              refine iteT ⟨_, rfl, _, rfl, _, rfl, _, rfl, _, rfl, hlt, ?_⟩
              rw [cut2]
              refine ⟨_, rfl, hlen2, ?_⟩
              rw [nm_some h3]
              refine ⟨⟨_, rfl⟩, _, rfl, _, p, (words b).map tx, rfl, rfl, .inl (.inl (.inl (by rw [List.map_map]; exact h1))), join_fits hlenb, ?_⟩
              rw [lit32, join_tx]
              refine ⟨by show 3 ≤ sizeLine; omega, fun t nt => q _ _ (s1.trans (same_upd nt)) ?_⟩
              rw [hn]
              unfold namedAt
              rw [if_pos hhead, if_pos ⟨htwo.mpr h2, h3⟩]
              exact ⟨t, rfl, upd_same⟩
            | false =>
              rw [nm_no h3]
              refine iteF ?_
              exact else_case fun z => by rw [h3] at z; cases z.2
          · rw [decide_eq_false h2]
            refine iteF (iteF ?_)
            exact else_case fun z => h2 (htwo.mp z.1)
        · rw [decide_eq_false (show ¬ [c] = [91] from fun z => hc (List.cons.inj z).1)]
          refine iteT (none_case _ (Same.refl H) ?_)
          rw [hn]
          unfold namedAt
          refine if_neg fun z => hc ?_
          rw [hlc] at z
          cases i with
          | zero => cases z
          | succ i =>
            injection z
end
end KP
namespace KP
open PySem PySem.Spec PyProof.Rows L2 KM KT
/-- text * int -/
theorem op_mulS {X : Cx} : OpR X (binaryOp .Mult) (fun x y H Q => ∃ z i, x = .str z ∧ y = .int i ∧ MulOk z i ∧ Q (.str (PySem.Txt.mul z i)) H) := by
  intro pn s v H x y a b Q I rx ry h
  obtain ⟨z, i, rfl, rfl, hok, q⟩ := h
  obtain ⟨t, rfl⟩ := rx
  obtain ⟨t2, rfl⟩ := ry
  exact PySem.SB.mul hok fun t' k => ⟨.str (PySem.Txt.mul z i), H, I.tok k, ⟨t', rfl⟩, q⟩
theorem lvl_at : ∀ {i : Nat} {x : V}, ([V.int 1, V.int 2, V.int 3] : List V)[i]? = some x → i < 3 ∧ x = V.int ((i + 1 : Nat) : Int)
  | 0, x, h => ⟨by decide, (Option.some.inj h).symm⟩
  | 1, x, h => ⟨by decide, (Option.some.inj h).symm⟩
  | 2, x, h => ⟨by decide, (Option.some.inj h).symm⟩
  | i + 3, x, h => by cases h
theorem mul_at : ∀ {i : Nat}, i < 3 → MulOk ("=" : Str) ((i + 1 : Nat) : Int) ∧ PySem.Txt.mul ("=" : Str) ((i + 1 : Nat) : Int) = tx (List.replicate (i + 1) 61)
  | 0, _ => ⟨⟨by decide +kernel, fun _ _ => by decide +kernel, fun _ _ => by decide +kernel⟩, by decide +kernel⟩
  | 1, _ => ⟨⟨by decide +kernel, fun _ _ => by decide +kernel, fun _ _ => by decide +kernel⟩, by decide +kernel⟩
  | 2, _ => ⟨⟨by decide +kernel, fun _ _ => by decide +kernel, fun _ _ => by decide +kernel⟩, by decide +kernel⟩
  | i + 3, h => absurd h (by omega)
section
variable {P : Program} {w : World} {K : PySem.W.Frag} {mg : Str → Option Value} {base : Heap}
/-! ### _law_flush -/
theorem scLFlush : FnScope ["_law_row_here", "_law_bare", "_law_level"] ["_law_row_here", "_law_bare"] (defScope sLFlush) := ⟨rfl, rfl, rfl, by decide +kernel, rfl, by decide +kernel, by decide +kernel⟩
def spLFlush : Sp := fun vs H Q _ => ∃ l b : List Nat, vs = [sv l, sv b] ∧ l.length ≤ 900 ∧ b.length ≤ 900 ∧ b ≠ [] ∧ ∀ H' v, Same H H' → OptV H' v (flush l b) → Q v H'
theorem ok_lflush {f fT fC fN : Addr} {fd fdT fdC fdN : FuncData} (F : Fun K "_law_flush" "_law_flush" sLFlush f fd) (T : Txt K mg) (dT : Df K mg "_law_tidy" sLTidy ["_law_text"] fT fdT) (GT : FnOk P w K mg base CX0 2 fT fdT ["_law_text"] spTidy)
    (dC : Df K mg "_law_cells" sLCells ["_law_text"] fC fdC) (GC : FnOk P w K mg base CX0 3 fC fdC ["_law_text"] spSplit) (dN : Df K mg "_law_named" sLNamed ["_law_bare"] fN fdN) (GN : FnOk P w K mg base CX0 2 fN fdN ["_law_bare"] (spO named)) :
    FnOk P w K mg base CX0 4 f fd ["_law_row_here", "_law_bare"] spLFlush := by
  refine F.ok scLFlush (fun vs H Q E h => ?_) (fun cdv A outer s H vs Q E hr h => ?_)
  · obtain ⟨l, b, rfl, _⟩ := h
    rfl
  · obtain ⟨l, b, rfl, hl, hb, hbn, q⟩ := h
    have hr2 := hr.mono (show 2 ≤ 3 by decide)
    refine ⟨_, pss_cons (ps_if (pt_cmpR op_eq (pe_ix ix_str (pv 1) pe_int (fun _ _ => rfl)) pe_str (nomark _))
        (pss_one (ps_ret (pe_tup (pa_cons pe_str (pa_cons (pe_ifExp (pt_cmpR op_eq (pe_slice sl_str (pv 0) (po_some pe_int) (po_some pe_int)) pe_str (nomark _))
          (pe_slice sl_str (pv 0) (po_some pe_int) po_none) (pe_slice sl_str (pv 0) (po_some pe_int) po_none)) pa_nil))))) pss_nil)
      (pss_cons (ps_if (pt_cmpR op_eq (pv 1) pe_str (nomark _)) (pss_one (ps_ret (pe_tup (pa_cons pe_str pa_nil)))) pss_nil)
      (pss_cons (ps_for PassesOwn.never rfl (pi_tup (pe_tup (pa_cons pe_int (pa_cons pe_int (pa_cons pe_int pa_nil))))) (pg_name (i := 2) scLFlush.nd rfl (.inl rfl))
        (pss_one (ps_if (pt_cmpR op_eq (pe_slice sl_str (pv 1) po_none (po_some (pe_op op_add (pv 2) pe_int))) (pe_op op_add_str (pe_op op_mulS pe_str (pv 2)) pe_str) (nomark _))
          (pss_one (ps_ret (pe_tup (pa_cons pe_str (pa_cons (pv 2) (pa_cons (pe_call GT hr2 (by rfl) dT.g dT.F.kp dT.b .nil pass0 (pa_cons (pe_slice sl_str (pv 1) (po_some (pv 2)) po_none) pa_nil)) pa_nil)))))) pss_nil)))
      (pss_cons (ps_if (PW.pt (pw_and (pt_cmpR op_gt (pe_callB call_len_str (by rfl) T.len PySem.boot_len (pa_cons (pv 1) pa_nil)) pe_int (nomark _))
          (pw_and (pt_cmpR op_eq (pe_ix ix_str (pv 1) pe_int (fun _ _ => rfl)) pe_str (nomark _)) (pw_and (pt_cmpR op_eq (pe_ix ix_str (pv 1) (pe_un un_neg pe_int) (fun _ _ => rfl)) pe_str (nomark _))
          (pw_and1 (pt_cmpR op_ne (pe_slice sl_str (pv 1) (po_some (pe_un un_neg pe_int)) (po_some (pe_un un_neg pe_int))) pe_str (nomark _)))))))
        (pss_one (ps_ret (pe_tup (pa_cons pe_str (pa_cons (pe_call GC hr (by rfl) dC.g dC.F.kp dC.b .nil pass0 (pa_cons (pe_slice sl_str (pv 1) (po_some pe_int) (po_some (pe_un un_neg pe_int))) pa_nil)) pa_nil))))) pss_nil)
      (pss_one (ps_ret (pe_call GN hr2 (by rfl) dN.g dN.F.kp dN.b .nil pass0 (pa_cons (pv 1) pa_nil))))))), ?_⟩
    have hsz : sizeLine = 16777216 := sizeLine_eq
    have hlt : (tx l).length ≤ sizeLine := by rw [tx_len]; omega
    have hbt : (tx b).length ≤ sizeLine := by rw [tx_len]; omega
    obtain ⟨c, r, rfl⟩ : ∃ c r, b = c :: r := by
      cases b with
      | nil => exact absurd rfl hbn
      | cons c r => exact ⟨c, r, rfl⟩
    refine ⟨_, rfl, _, 0, c, rfl, rfl, hbt, atI_nat (j := 0) rfl, rfl, _, rfl, ?_⟩
    rw [lit62, show (V.str ⟨#[c]⟩) = V.str (tx [c]) from rfl, dec_tx]
    by_cases h1 : c = 62
    · rw [decide_eq_true (show [c] = [62] by rw [h1])]
      have ef : flush l (c :: r) = some (.quote (if (l.drop 1).head? = some 32 then l.drop 2 else l.drop 1)) := if_pos (by rw [h1]; rfl)
      refine iteT ⟨_, rfl, _, rfl, _, rfl, _, rfl, hlt, rfl, _, rfl, ?_⟩
      rw [show cutS (tx l) (some 1) (some 2) = tx ((l.drop 1).take 1) from cut_mid l 1 2, lit32, dec_tx]
      by_cases h2 : (l.drop 1).take 1 = [32]
      · rw [decide_eq_true h2]
        refine iteT ⟨_, rfl, _, rfl, _, rfl, hlt, ?_⟩
        rw [show cutS (tx l) (some 2) none = tx (l.drop 2) from cut_from l 2]
        refine ⟨by show 2 ≤ sizeLine; omega, fun p np => q _ _ (same_upd np) ?_⟩
        rw [ef, if_pos ((take1 _ 32).mp h2)]
        exact ⟨p, rfl, upd_same⟩
      · rw [decide_eq_false h2]
        refine iteF ⟨_, rfl, _, rfl, _, rfl, hlt, ?_⟩
        rw [show cutS (tx l) (some 1) none = tx (l.drop 1) from cut_from l 1]
        refine ⟨by show 2 ≤ sizeLine; omega, fun p np => q _ _ (same_upd np) ?_⟩
        rw [ef, if_neg (fun z => h2 ((take1 _ 32).mpr z))]
        exact ⟨p, rfl, upd_same⟩
    · rw [decide_eq_false (show ¬ [c] = [62] from fun z => h1 (List.cons.inj z).1)]
      have h1' : ¬ (c :: r).head? = some 62 := fun z => h1 (Option.some.inj z)
      refine iteF ⟨_, rfl, rfl, _, rfl, ?_⟩
      rw [litF, dec_tx]
      by_cases h2 : c :: r = [126, 126, 126]
      · rw [decide_eq_true h2]
        refine iteT ⟨by show 1 ≤ sizeLine; omega, fun p np => q _ _ (same_upd np) ?_⟩
        rw [show flush l (c :: r) = some .fence from (if_neg h1').trans (if_pos h2)]
        exact ⟨p, rfl, upd_same⟩
      · rw [decide_eq_false h2]
        have ef : flush l (c :: r) = ((heading (c :: r)).or (cellsS (c :: r))).or (named (c :: r)) := (if_neg h1').trans (if_neg h2)
        have hc0 : atI (tx (c :: r)).cps.toList 0 = some c := atI_nat (j := 0) rfl
        have hhd : (c :: r).head? = some c := rfl
        have hlen1 : 1 ≤ (c :: r).length := by rw [List.length_cons]; omega
        generalize c :: r = b at hb hbn q hbt ef hc0 hhd hlen1 ⊢
        refine iteF ⟨by show 3 ≤ sizeLine; omega, fun t nt => ?_⟩
        have sT : Same H (upd H t (.tup [.int 1, .int 2, .int 3])) := same_upd nt
        have hT : upd H t (.tup [.int 1, .int 2, .int 3]) t = some (.tup [.int 1, .int 2, .int 3]) := upd_same
        generalize hG : upd H t (.tup [.int 1, .int 2, .int 3]) = G at sT hT
        refine ⟨t, rfl, ⟨_, .inl (.inl hT)⟩, for_tup (K := K) (a := t) (xs := [.int 1, .int 2, .int 3]) (fun i v H' => (∃ y, v = [some (sv l), some (sv b), y]) ∧ H' = G ∧ ∀ k, 1 ≤ k → k ≤ i → b.take (k + 1) ≠ List.replicate k 61 ++ [32])
          ⟨⟨none, rfl⟩, rfl, fun k h1 h2 => absurd h2 (by omega)⟩ (fun i v H' _ h => by rw [h.2.1]; exact .inl (.inl hT)) ?_ ?_⟩
        · rintro i x v H4 hx ⟨⟨y, rfl⟩, rfl, hk⟩
          obtain ⟨hi, rfl⟩ := lvl_at hx
          obtain ⟨m1, m2⟩ := mul_at hi
          refine ⟨_, rfl, _, rfl, _, _, rfl, rfl, _, rfl, _, rfl, hbt, ?_⟩
          rw [show cutS (tx b) none (some (((i + 1 : Nat) : Int) + 1)) = tx (b.take (i + 1 + 1)) from cut_to b (i + 1 + 1)]
          refine ⟨_, rfl, _, _, rfl, rfl, m1, ?_⟩
          rw [m2]
          refine ⟨_, _, rfl, rfl, ?_, rfl, _, rfl, ?_⟩
          · rw [tx_len, List.length_replicate]
            show i + 1 + 1 ≤ sizeLine
            omega
          rw [lit32, tx_add, dec_tx]
          by_cases h3 : b.take (i + 1 + 1) = List.replicate (i + 1) 61 ++ [32]
          · rw [decide_eq_true h3]
            refine iteT ⟨_, rfl, _, rfl, _, rfl, _, rfl, _, rfl, hbt, ?_⟩
            rw [cut_from]
            refine ⟨_, rfl, by rw [List.length_drop]; omega, fun H5 s5 => ⟨by show 3 ≤ sizeLine; omega, fun p np => q _ _ ((sT.trans s5).trans (same_upd np)) ?_⟩⟩
            rw [ef, heading_eq (k := i + 1) (by omega) (by omega) h3]
            exact ⟨p, rfl, upd_same⟩
          · rw [decide_eq_false h3]
            refine iteF ⟨⟨_, rfl⟩, rfl, fun k hk1 hk2 => ?_⟩
            by_cases z : k = i + 1
            · rw [z]; exact h3
            · exact hk k hk1 (by omega)
        · rintro v H4 ⟨⟨y, rfl⟩, rfl, hk⟩
          have hh : heading b = none := heading_none fun k h3 h4 => hk k h3 h4
          rw [hh, Option.none_or] at ef
          have else_case : cellsS b = none → tRet (tCall (spO named) [] E0 (tCons (tVar 1) tNil)) { nx := fun _ H' => Q .non H', rt := Q } [some (sv l), some (sv b), y] H4 := by
            intro e
            refine ⟨_, rfl, b, rfl, hb, fun H5 v5 s5 o5 => q _ _ (sT.trans s5) ?_⟩
            rw [ef, e, Option.none_or]
            exact o5
          refine ⟨_, rfl, _, rfl, hbt, _, 1, rfl, rfl, _, rfl, ?_⟩
          rw [tx_len]
          by_cases h3 : (1 : Int) < (b.length : Int)
          · rw [decide_eq_true h3]
            refine iteT ⟨_, rfl, _, 0, c, rfl, rfl, hbt, hc0, rfl, _, rfl, ?_⟩
            rw [lit124, show (V.str ⟨#[c]⟩) = V.str (tx [c]) from rfl, dec_tx]
            by_cases h4 : c = 124
            · rw [decide_eq_true (show [c] = [124] by rw [h4])]
              obtain ⟨d, hd⟩ : ∃ d, b.getLast? = some d := by
                cases e : b.getLast? with
                | some d => exact ⟨d, rfl⟩
                | none => exact absurd (List.getLast?_eq_none_iff.mp e) hbn
              have hda : atI (tx b).cps.toList (-1) = some d := by
                show atI b (-1) = some d
                rw [List.getLast?_eq_getElem?] at hd
                unfold atI ixN
                rw [if_neg (by decide), if_pos (by omega)]
                show b[((-1 : Int) + (b.length : Int)).toNat]? = some d
                rw [← hd]
                congr 1
                omega
              refine iteT ⟨_, rfl, 1, rfl, _, -1, d, rfl, rfl, hbt, hda, rfl, _, rfl, ?_⟩
              rw [show (V.str ⟨#[d]⟩) = V.str (tx [d]) from rfl, dec_tx]
              by_cases h5 : d = 124
              · rw [decide_eq_true (show [d] = [124] by rw [h5])]
                refine iteT ⟨_, rfl, 2, rfl, _, rfl, 1, rfl, _, rfl, _, rfl, hbt, rfl, _, rfl, ?_⟩
                rw [show cutS (tx b) (some (-2)) (some (-1)) = tx b.dropLast.getLast?.toList from cut_two b, lit92, dec_tx]
                by_cases h6 : b.dropLast.getLast?.toList = [92]
                · rw [decide_eq_true h6]
                  refine iteF (else_case (if_neg fun z => z.2.2.2 ?_))
                  cases e : b.dropLast.getLast? with
                  | none => rw [e] at h6; cases h6
                  | some g =>
                    rw [e] at h6
                    injection h6 with h6
                    rw [h6]
                · rw [decide_eq_false h6]
                  refine iteT ⟨_, rfl, _, rfl, _, rfl, _, rfl, _, rfl, hbt, ?_⟩
                  rw [cut_in]
                  refine ⟨_, rfl, by rw [List.length_dropLast, List.length_drop]; omega, fun H5 x s5 h7 => ⟨by show 2 ≤ sizeLine; omega, fun p np => q _ _ ((sT.trans s5).trans (same_upd np)) ?_⟩⟩
                  rw [ef, show cellsS b = some (.cells (cells (b.drop 1).dropLast)) from if_pos ⟨by omega, by rw [hhd, h4], by rw [hd, h5], fun z => h6 (by rw [z]; rfl)⟩]
                  exact ⟨p, x, rfl, upd_same, by rw [upd_ne (ne_of_none h7 np)]; exact h7⟩
              · rw [decide_eq_false (show ¬ [d] = [124] from fun z => h5 (List.cons.inj z).1)]
                exact iteF (iteF (else_case (if_neg fun z => h5 (Option.some.inj (hd.symm.trans z.2.2.1)))))
            · rw [decide_eq_false (show ¬ [c] = [124] from fun z => h4 (List.cons.inj z).1)]
              exact iteF (iteF (else_case (if_neg fun z => h4 (Option.some.inj (hhd.symm.trans z.2.1)))))
          · rw [decide_eq_false h3]
            exact iteF (iteF (else_case (if_neg fun z => h3 (by have := z.1; omega))))
end
end KP
namespace KP
open PySem PySem.Spec PyProof.Rows L2 KM KT
/-! ### data that is compared: nothing is asked of its texts' signs -/
def rEqP (K : PySem.W.Frag) : R2 := fun x y H Q => ∃ d e, Dp K H x d ∧ Dp K H y e ∧ d.plain = true ∧ e.plain = true ∧ d.depth ≤ 64 ∧ Q (.bl (PyData.eqv d e)) H
def rNeP (K : PySem.W.Frag) : R2 := fun x y H Q => ∃ d e, Dp K H x d ∧ Dp K H y e ∧ d.plain = true ∧ e.plain = true ∧ d.depth ≤ 64 ∧ Q (.bl (!PyData.eqv d e)) H
theorem op_eqP {X : Cx} (hu : X.A.units + 64 < cLine) : OpR X (compareOp .Eq) (rEqP X.K) := by
  intro pn s v H x y a b Q I rx ry ⟨d, e, hd, he, sd, se, hz, q⟩
  obtain ⟨as, r1⟩ := Dp.reads I d x a hd rx
  obtain ⟨bs, r2⟩ := Dp.reads I e y b he ry
  exact SeqAt.eq_plain r1 r2 sd se (by have := Nat.min_le_left d.depth e.depth; omega) ⟨.bl _, H, I, rfl, q⟩
theorem op_neP {X : Cx} (hu : X.A.units + 64 < cLine) : OpR X (compareOp .NotEq) (rNeP X.K) := by
  intro pn s v H x y a b Q I rx ry ⟨d, e, hd, he, sd, se, hz, q⟩
  obtain ⟨as, r1⟩ := Dp.reads I d x a hd rx
  obtain ⟨bs, r2⟩ := Dp.reads I e y b he ry
  exact SeqAt.ne_plain r1 r2 sd se (by have := Nat.min_le_left d.depth e.depth; omega) ⟨.bl _, H, I, rfl, q⟩
/-- a sort as data -/
def dat : Srt → PyData
  | .empty => .tuple [.str "empty"]
  | .quote r => .tuple [.str "quote", .str (tx r)]
  | .fence => .tuple [.str "fence"]
  | .heading n w => .tuple [.str "heading", .int (n : Int), .str (tx w)]
  | .cells cs => .tuple [.str "cells", .list (cs.map fun c => .str (tx c))]
  | .note n w => .tuple [.str "note", .str (tx n), .str (tx w)]
  | .name n t => .tuple [.str "name", .str (tx n), .str (tx t)]
  | .item far c w => .tuple [.str "item", .int (far : Int), .str (tx [c]), .str (tx w)]
  | .plain far w => .tuple [.str "plain", .int (far : Int), .str (tx w)]
theorem plain_texts : ∀ cs : List (List Nat), PyData.plainAll (cs.map fun c => PyData.str (tx c)) = true
  | [] => by simp [PyData.plainAll]
  | c :: r => by simp [PyData.plainAll, PyData.plain, plain_texts r]
theorem depth_texts : ∀ cs : List (List Nat), PyData.depthAll (cs.map fun c => PyData.str (tx c)) = 0
  | [] => by simp [PyData.depthAll]
  | c :: r => by simp [PyData.depthAll, PyData.depth, depth_texts r]
theorem dat_plain : ∀ s : Srt, (dat s).plain = true := by
  intro s
  cases s <;> simp [dat, PyData.plain, PyData.plainAll, plain_texts]
theorem dat_depth : ∀ s : Srt, (dat s).depth ≤ 64 := by
  intro s
  cases s <;> simp [dat, PyData.depth, PyData.depthAll, depth_texts]
theorem dp_texts {K : PySem.W.Frag} {H : Hp} : ∀ cs : List (List Nat), DpAll K H (cs.map sv) (cs.map fun c => PyData.str (tx c))
  | [] => .nil
  | c :: r => .cons (.str _) (dp_texts r)
theorem SrtV.dp {K : PySem.W.Frag} {H : Hp} {v : V} : ∀ {s : Srt}, SrtV H v s → Dp K H v (dat s)
  | .empty, ⟨a, e, h⟩ => by subst e; exact .tup (.inl (.inl h)) (.cons (.str _) .nil)
  | .quote _, ⟨a, e, h⟩ => by subst e; exact .tup (.inl (.inl h)) (.cons (.str _) (.cons (.str _) .nil))
  | .fence, ⟨a, e, h⟩ => by subst e; exact .tup (.inl (.inl h)) (.cons (.str _) .nil)
  | .heading _ _, ⟨a, e, h⟩ => by subst e; exact .tup (.inl (.inl h)) (.cons (.str _) (.cons (.int _) (.cons (.str _) .nil)))
  | .cells cs, ⟨a, b, e, h, h2⟩ => by subst e; exact .tup (.inl (.inl h)) (.cons (.str _) (.cons (.lst (.inl (.inl h2)) (dp_texts cs)) .nil))
  | .note _ _, ⟨a, e, h⟩ => by subst e; exact .tup (.inl (.inl h)) (.cons (.str _) (.cons (.str _) (.cons (.str _) .nil)))
  | .name _ _, ⟨a, e, h⟩ => by subst e; exact .tup (.inl (.inl h)) (.cons (.str _) (.cons (.str _) (.cons (.str _) .nil)))
  | .item _ _ _, ⟨a, e, h⟩ => by subst e; exact .tup (.inl (.inl h)) (.cons (.str _) (.cons (.int _) (.cons (.str _) (.cons (.str _) .nil))))
  | .plain _ _, ⟨a, e, h⟩ => by subst e; exact .tup (.inl (.inl h)) (.cons (.str _) (.cons (.int _) (.cons (.str _) .nil)))
/-! ### the row's parts as the law sees them -/
theorem bg_en (l : List Nat) : bg l = en l ↔ ls (rs l) = [] := by
  rw [ls_rs_nil]
  unfold en
  by_cases h : bg l = l.length
  · rw [if_pos h]
    exact ⟨fun _ => h, fun _ => rfl⟩
  · rw [if_neg h]
    have := bg_le l
    have := bg_lt_rs (l := l) (by omega)
    constructor
    · intro z; omega
    · intro z; exact absurd z h
theorem body_eq {l : List Nat} {c : Nat} (h : bg l < l.length) (hc : l[bg l]? = some c) : ls (rs l) = c :: (l.drop (bg l + 1)).take (en l - (bg l + 1)) ∧ bg l < en l ∧ en l = (rs l).length := by
  have he : en l = (rs l).length := if_neg (Nat.ne_of_lt h)
  have hlt := bg_lt_rs h
  refine ⟨?_, by omega, he⟩
  rw [ls_rs h, ← rs_take l, List.drop_take, drop_at hc, he]
  have e1 : (l.take (rs l).length).length = (rs l).length := by rw [rs_take]
  rw [show (rs l).length - bg l = (rs l).length - (bg l + 1) + 1 by omega, List.take_succ_cons]
section
variable {P : Program} {w : World} {K : PySem.W.Frag} {mg : Str → Option Value} {base : Heap}
/-! ### _law_due -/
theorem scLDue : FnScope ["_law_row_here", "_law_begin", "_law_end"] ["_law_row_here"] (defScope sLDue) := ⟨rfl, rfl, rfl, by decide +kernel, rfl, by decide +kernel, by decide +kernel⟩
theorem ok_ldue {f fB fF fT : Addr} {fd fdB fdF fdT : FuncData} (F : Fun K "_law_due" "_law_due" sLDue f fd) (T : Txt K mg) (dB : Df K mg "_law_bounds" sLBounds ["_law_row_here"] fB fdB) (dF : Df K mg "_law_flush" sLFlush ["_law_row_here", "_law_bare"] fF fdF)
    (GF : FnOk P w K mg base CX0 4 fF fdF ["_law_row_here", "_law_bare"] spLFlush) (dT : Df K mg "_law_tidy" sLTidy ["_law_text"] fT fdT) (GT : FnOk P w K mg base CX0 2 fT fdT ["_law_text"] spTidy) :
    FnOk P w K mg base CX0 5 f fd ["_law_row_here"] spSort := by
  have GB : FnOk P w K mg base CX0 1 fB fdB ["_law_row_here"] spBounds := ok_bounds dB.F T
  refine F.ok scLDue (fun vs H Q E h => ?_) (fun cdv A outer s H vs Q E hr h => ?_)
  · obtain ⟨l, rfl, _⟩ := h
    rfl
  · obtain ⟨l, rfl, hl, q⟩ := h
    have hr1 := hr.mono (show 1 ≤ 4 by decide)
    have hr2 := hr.mono (show 2 ≤ 4 by decide)
    refine ⟨_, pss_cons (ps_asg (pe_call GB hr1 (by rfl) dB.g dB.F.kp dB.b .nil pass0 (pa_cons (pv 0) pa_nil)) (pg_tup rfl (pgs_cons (pg_name (i := 1) scLDue.nd rfl (.inl rfl)) (pgs_cons (pg_name (i := 2) scLDue.nd rfl (.inl rfl)) pgs_nil))))
      (pss_cons (ps_if (pt_cmpR op_eq (pv 1) (pv 2) (nomark _)) (pss_one (ps_ret (pe_tup (pa_cons pe_str pa_nil)))) pss_nil)
      (pss_cons (ps_if (PW.pt (pw_and (pt_cmpR op_eq (pv 1) pe_int (nomark _)) (pw_and1 (pt_cmp (pc_notN (pe_call GF hr (by rfl) dF.g dF.F.kp dF.b .nil pass0 (pa_cons (pv 0) (pa_cons (pe_slice sl_str (pv 0) po_none (po_some (pv 2))) pa_nil))))))))
        (pss_one (ps_ret (pe_call GF hr (by rfl) dF.g dF.F.kp dF.b .nil pass0 (pa_cons (pv 0) (pa_cons (pe_slice sl_str (pv 0) po_none (po_some (pv 2))) pa_nil))))) pss_nil)
      (pss_cons (ps_if (PW.pt (pw_and (pt_cmpR op_in_sign (pe_ix ix_str (pv 0) (pv 1) (fun _ _ => rfl)) pe_str rfl)
          (pw_and (pt_cmpR op_eq (pe_slice sl_str (pv 0) (po_some (pe_op op_add (pv 1) pe_int)) (po_some (pe_op op_add (pv 1) pe_int))) pe_str (nomark _)) (pw_and1 (pt_cmpR op_lt (pe_op op_add (pv 1) pe_int) (pv 2) (nomark _))))))
        (pss_one (ps_ret (pe_tup (pa_cons pe_str (pa_cons (pv 1) (pa_cons (pe_ix ix_str (pv 0) (pv 1) (fun _ _ => rfl)) (pa_cons (pe_call GT hr2 (by rfl) dT.g dT.F.kp dT.b .nil pass0 (pa_cons (pe_slice sl_str (pv 0) (po_some (pe_op op_add (pv 1) pe_int)) (po_some (pv 2))) pa_nil)) pa_nil))))))) pss_nil)
      (pss_one (ps_ret (pe_tup (pa_cons pe_str (pa_cons (pv 1) (pa_cons (pe_call GT hr2 (by rfl) dT.g dT.F.kp dT.b .nil pass0 (pa_cons (pv 0) pa_nil)) pa_nil))))))))), ?_⟩
    have hsz : sizeLine = 16777216 := sizeLine_eq
    have hlt : (tx l).length ≤ sizeLine := by rw [tx_len]; omega
    refine ⟨_, rfl, l, rfl, hl, fun H1 p s1 hp => ?_⟩
    refine ⟨p, _, rfl, .inl (.inl hp), rfl, _, _, rfl, _, _, rfl, rfl, ?_⟩
    refine ⟨_, rfl, _, rfl, rfl, _, rfl, ?_⟩
    by_cases h0 : bg l = en l
    · rw [decide_eq_true (show V.int (bg l : Int) = V.int (en l : Int) by rw [h0])]
      refine iteT ⟨by show 1 ≤ sizeLine; omega, fun t nt => q _ _ (s1.trans (same_upd nt)) ?_⟩
      rw [show sortL l = .empty from if_pos ((bg_en l).mp h0)]
      exact ⟨t, rfl, upd_same⟩
    · rw [decide_eq_false (show ¬ V.int (bg l : Int) = V.int (en l : Int) from fun z => h0 (by have := V.int.inj z; omega))]
      have hne : ls (rs l) ≠ [] := fun z => h0 ((bg_en l).mpr z)
      have hbg : bg l < l.length := Nat.lt_of_le_of_ne (bg_le l) fun z => hne ((ls_rs_nil l).mpr z)
      obtain ⟨c, hc, hc2⟩ := bg_at hbg
      obtain ⟨hbody, hlt2, hen⟩ := body_eq hbg hc
      have hrl := rs_len l
      have es : sortL l = if bg l = 0 then (flush l (rs l)).getD (KM.rest l) else KM.rest l := if_neg hne
      have cut_e : cutS (tx l) none (some (en l : Int)) = tx (rs l) := by
        rw [cut_to, hen, rs_take]
      have hrn : rs l ≠ [] := fun z => by
        rw [z] at hen
        rw [hen] at hlt2
        exact absurd hlt2 (Nat.not_lt_zero _)
      refine iteF ⟨_, rfl, rfl, _, rfl, ?_⟩
      have fin : ∀ H2, Same H H2 → sortL l = KM.rest l →
          tSeq (tIfS (tAnd (tTest (tOp (fun x y H Q => ∃ (c : Nat) (z : Str), x = .str ⟨#[c]⟩ ∧ y = .str z ∧ Q (.bl (decide (c ∈ z.cps.toList))) H) (tOp rIxS (tVar 0) (tVar 1)) (tC (.str "-+"))))
              (tAnd (tTest (tOp rEq (tSl rSlS (tVar 0) (tPart (tOp (rI0 fun i j => .int (i + j)) (tVar 1) (tC (.int 1)))) (tPart (tOp (rI0 fun i j => .int (i + j)) (tVar 1) (tC (.int 2))))) (tC (.str " "))))
                (tTest (tOp (rI0 fun i j => .bl (decide (i < j))) (tOp (rI0 fun i j => .int (i + j)) (tVar 1) (tC (.int 1))) (tVar 2)))))
            (tRet (tTup (tCons (tC (.str "item")) (tCons (tVar 1) (tCons (tOp rIxS (tVar 0) (tVar 1)) (tCons (tCall spTidy [] E0 (tCons (tSl rSlS (tVar 0) (tPart (tOp (rI0 fun i j => .int (i + j)) (tVar 1) (tC (.int 1)))) (tPart (tVar 2))) tNil)) tNil)))))) tNext)
            (tRet (tTup (tCons (tC (.str "plain")) (tCons (tVar 1) (tCons (tCall spTidy [] E0 (tCons (tVar 0) tNil)) tNil))))) { nx := fun _ H' => Q .non H', rt := Q }
            [some (sv l), some (.int (bg l : Int)), some (.int (en l : Int))] H2 := by
        intro H2 s2 er
        have plain_case : isItem (ls (rs l)) = false → tRet (tTup (tCons (tC (.str "plain")) (tCons (tVar 1) (tCons (tCall spTidy [] E0 (tCons (tVar 0) tNil)) tNil)))) { nx := fun _ H' => Q .non H', rt := Q } [some (sv l), some (.int (bg l : Int)), some (.int (en l : Int))] H2 := by
          intro hi
          refine ⟨_, rfl, _, rfl, l, rfl, hl, fun H3 s3 => ⟨by show 3 ≤ sizeLine; omega, fun t nt => q _ _ ((s2.trans s3).trans (same_upd nt)) ?_⟩⟩
          rw [er]
          unfold KM.rest
          rw [if_neg (by rw [hi]; exact Bool.false_ne_true)]
          exact ⟨t, rfl, upd_same⟩
        have hca : atI (tx l).cps.toList (bg l : Int) = some c := atI_nat hc
        have ec : cutS (tx l) (some ((bg l : Int) + 1)) (some ((bg l : Int) + 2)) = tx ((l.drop (bg l + 1)).take 1) := by
          have := cut_mid l (bg l + 1) (bg l + 2)
          rw [show bg l + 2 - (bg l + 1) = 1 by omega] at this
          exact this
        have ed : cutS (tx l) (some ((bg l : Int) + 1)) (some (en l : Int)) = tx ((l.drop (bg l + 1)).take (en l - (bg l + 1))) := cut_mid l (bg l + 1) (en l)
        have hitem : isItem (ls (rs l)) = decide ((c = 45 ∨ c = 43) ∧ ((l.drop (bg l + 1)).take (en l - (bg l + 1))).take 1 = [32]) := by
          rw [hbody]
          generalize (l.drop (bg l + 1)).take (en l - (bg l + 1)) = t
          unfold isItem
          rw [List.take_succ_cons, Bool.eq_iff_iff]
          simp only [Bool.or_eq_true, decide_eq_true_eq, List.cons.injEq]
          constructor
          · rintro (⟨h1, h2⟩ | ⟨h1, h2⟩)
            · exact ⟨.inl h1, h2⟩
            · exact ⟨.inr h1, h2⟩
          · rintro ⟨h1 | h1, h2⟩
            · exact .inl ⟨h1, h2⟩
            · exact .inr ⟨h1, h2⟩
        have hmem : ∀ z : Nat, decide (z ∈ ("-+" : Str).cps.toList) = decide (z = 45 ∨ z = 43) := by
          intro z
          rw [litMP, Bool.eq_iff_iff]
          simp only [decide_eq_true_eq]
          show z ∈ [45, 43] ↔ _
          simp
        refine ⟨_, rfl, _, rfl, _, _, c, rfl, rfl, hlt, hca, c, _, rfl, rfl, _, rfl, ?_⟩
        rw [hmem]
        by_cases h1 : c = 45 ∨ c = 43
        · rw [decide_eq_true h1]
          refine iteT ⟨_, rfl, _, rfl, _, _, rfl, rfl, _, rfl, _, rfl, _, _, rfl, rfl, _, rfl, _, rfl, hlt, rfl, _, rfl, ?_⟩
          rw [ec, lit32, dec_tx]
          by_cases h2 : (l.drop (bg l + 1)).take 1 = [32]
          · rw [decide_eq_true h2]
            refine iteT ⟨_, rfl, _, _, rfl, rfl, _, rfl, _, _, rfl, rfl, _, rfl, ?_⟩
            by_cases h3 : (bg l : Int) + 1 < (en l : Int)
            · rw [decide_eq_true h3]
              have h4 : ((l.drop (bg l + 1)).take (en l - (bg l + 1))).take 1 = [32] := by
                rw [List.take_take, show min 1 (en l - (bg l + 1)) = 1 by omega]
                exact h2
              refine iteT ⟨_, rfl, _, rfl, _, rfl, _, _, c, rfl, rfl, hlt, hca, _, rfl, _, rfl, _, _, rfl, rfl, _, rfl, _, rfl, _, rfl, _, rfl, hlt, ?_⟩
              rw [ed]
              refine ⟨_, rfl, by rw [List.length_take, List.length_drop]; omega, fun H3 s3 => ⟨by show 4 ≤ sizeLine; omega, fun t nt => q _ _ ((s2.trans s3).trans (same_upd nt)) ?_⟩⟩
              rw [er]
              unfold KM.rest
              rw [if_pos (by rw [hitem]; exact decide_eq_true ⟨h1, h4⟩), hbody]
              have h5 : tidy ((c :: (l.drop (bg l + 1)).take (en l - (bg l + 1))).drop 2) = tidy ((l.drop (bg l + 1)).take (en l - (bg l + 1))) := by
                generalize (l.drop (bg l + 1)).take (en l - (bg l + 1)) = t at h4
                cases t with
                | nil => cases h4
                | cons d t =>
                  injection h4 with h4
                  rw [h4, tidy_front]
                  rfl
              rw [h5]
              exact ⟨t, rfl, upd_same⟩
            · rw [decide_eq_false h3]
              refine iteF (plain_case ?_)
              rw [hitem, show en l - (bg l + 1) = 0 by omega]
              refine decide_eq_false fun z => ?_
              have := z.2
              simp at this
          · rw [decide_eq_false h2]
            refine iteF (iteF (plain_case ?_))
            rw [hitem]
            refine decide_eq_false fun z => h2 ?_
            have h4 := z.2
            by_cases h3 : bg l + 1 < en l
            · rw [List.take_take, show min 1 (en l - (bg l + 1)) = 1 by omega] at h4
              exact h4
            · rw [show en l - (bg l + 1) = 0 by omega] at h4
              simp at h4
        · rw [decide_eq_false h1]
          refine iteF (iteF (plain_case ?_))
          rw [hitem]
          exact decide_eq_false fun z => h1 z.1
      by_cases h2 : bg l = 0
      · rw [decide_eq_true (show V.int (bg l : Int) = V.int 0 by rw [h2]; rfl)]
        refine iteT ⟨_, rfl, _, rfl, _, rfl, _, rfl, _, rfl, hlt, ?_⟩
        rw [cut_e]
        refine ⟨l, rs l, rfl, hl, by omega, hrn, fun H2 v s2 o => ⟨_, rfl, ?_⟩⟩
        rw [if_pos h2] at es
        cases e : flush l (rs l) with
        | none =>
          rw [e] at o es
          have o : v = .non := o
          subst o
          exact iteF (fin H2 (s1.trans s2) es)
        | some u =>
          rw [e] at o es
          rw [decide_eq_false (show ¬ v = .non from SrtV.ne o)]
          refine iteT ⟨_, rfl, _, rfl, _, rfl, _, rfl, _, rfl, hlt, ?_⟩
          rw [cut_e]
          refine ⟨l, rs l, rfl, hl, by omega, hrn, fun H3 v3 s3 o3 => q _ _ ((s1.trans s2).trans s3) ?_⟩
          rw [e] at o3
          rw [es]
          exact o3
      · rw [decide_eq_false (show ¬ V.int (bg l : Int) = V.int 0 from fun z => h2 (by have := V.int.inj z; omega))]
        rw [if_neg h2] at es
        exact iteF (iteF (fin H1 s1 es))
end
end KP
namespace KP
open PySem PySem.Spec PyProof.Rows L2 KM KT
/-! ### a sort's tag, parts and words -/
def tagOf : Srt → Str
  | .empty => "empty"
  | .quote _ => "quote"
  | .fence => "fence"
  | .heading _ _ => "heading"
  | .cells _ => "cells"
  | .note _ _ => "note"
  | .name _ _ => "name"
  | .item _ _ _ => "item"
  | .plain _ _ => "plain"
theorem in_yes1 : inV (.str "heading") [.str "heading", .str "note", .str "item", .str "plain"] = true := by decide +kernel
theorem in_yes2 : inV (.str "note") [.str "heading", .str "note", .str "item", .str "plain"] = true := by decide +kernel
theorem in_yes3 : inV (.str "item") [.str "heading", .str "note", .str "item", .str "plain"] = true := by decide +kernel
theorem in_yes4 : inV (.str "plain") [.str "heading", .str "note", .str "item", .str "plain"] = true := by decide +kernel
theorem in_no1 : inV (.str "empty") [.str "heading", .str "note", .str "item", .str "plain"] = false := by decide +kernel
theorem in_no2 : inV (.str "quote") [.str "heading", .str "note", .str "item", .str "plain"] = false := by decide +kernel
theorem in_no3 : inV (.str "fence") [.str "heading", .str "note", .str "item", .str "plain"] = false := by decide +kernel
theorem in_no4 : inV (.str "cells") [.str "heading", .str "note", .str "item", .str "plain"] = false := by decide +kernel
theorem in_no5 : inV (.str "name") [.str "heading", .str "note", .str "item", .str "plain"] = false := by decide +kernel
theorem tag_in : ∀ s : Srt, inV (.str (tagOf s)) [.str "heading", .str "note", .str "item", .str "plain"] = (wordsOf s).isSome
  | .empty => in_no1
  | .quote _ => in_no2
  | .fence => in_no3
  | .heading _ _ => in_yes1
  | .cells _ => in_no4
  | .note _ _ => in_yes2
  | .name _ _ => in_no5
  | .item _ _ _ => in_yes3
  | .plain _ _ => in_yes4
inductive Part (H : Hp) : V → Prop where
  | str (z : Str) : Part H (.str z)
  | int (i : Int) : Part H (.int i)
  | lst {b : Addr} {xs : List V} (e : H b = some (.lst xs)) : Part H (.ref b)
theorem Part.same {H H' : Hp} {v : V} (z : Same H H') (h : Part H v) : Part H' v := by
  cases h with
  | str y => exact .str y
  | int i => exact .int i
  | lst e => exact .lst (z _ _ e)
theorem SrtV.look {H : Hp} {v : V} : ∀ {s : Srt}, SrtV H v s → ∃ a xs, v = .ref a ∧ H a = some (.tup (.str (tagOf s) :: xs)) ∧ (∀ y ∈ xs, Part H y) ∧ ∀ u, wordsOf s = some u → ∃ ys, xs = ys ++ [sv u]
  | .empty, ⟨a, e, h⟩ => ⟨a, [], e, h, by simp, fun u z => by cases z⟩
  | .quote r, ⟨a, e, h⟩ => ⟨a, [sv r], e, h, by simpa using Part.str _, fun u z => by cases z⟩
  | .fence, ⟨a, e, h⟩ => ⟨a, [], e, h, by simp, fun u z => by cases z⟩
  | .heading n w, ⟨a, e, h⟩ => ⟨a, [.int (n : Int), sv w], e, h, by simpa using ⟨Part.int _, Part.str _⟩, fun u z => ⟨[.int (n : Int)], by rw [← Option.some.inj z]; rfl⟩⟩
  | .cells cs, ⟨a, b, e, h, h2⟩ => ⟨a, [.ref b], e, h, by simpa using Part.lst h2, fun u z => by cases z⟩
  | .note n w, ⟨a, e, h⟩ => ⟨a, [sv n, sv w], e, h, by simpa using ⟨Part.str _, Part.str _⟩, fun u z => ⟨[sv n], by rw [← Option.some.inj z]; rfl⟩⟩
  | .name n w, ⟨a, e, h⟩ => ⟨a, [sv n, sv w], e, h, by simpa using ⟨Part.str _, Part.str _⟩, fun u z => by cases z⟩
  | .item f c w, ⟨a, e, h⟩ => ⟨a, [.int (f : Int), sv [c], sv w], e, h, by simpa using ⟨Part.int _, Part.str _, Part.str _⟩, fun u z => ⟨[.int (f : Int), sv [c]], by rw [← Option.some.inj z]; rfl⟩⟩
  | .plain f w, ⟨a, e, h⟩ => ⟨a, [.int (f : Int), sv w], e, h, by simpa using ⟨Part.int _, Part.str _⟩, fun u z => ⟨[.int (f : Int)], by rw [← Option.some.inj z]; rfl⟩⟩
/-! ### words are no longer than twice their row -/
theorem heading_len {l u : List Nat} {s : Srt} (h : heading l = some s) (hu : wordsOf s = some u) : u.length ≤ 2 * l.length := by
  unfold heading at h
  split at h
  · rw [← Option.some.inj h] at hu
    rw [← Option.some.inj hu]
    have h1 := tidy_len (l.drop (lev l))
    have h2 : (l.drop (lev l)).length ≤ l.length := by rw [List.length_drop]; omega
    omega
  · cases h
theorem named_len {l u : List Nat} {s : Srt} (h : named l = some s) (hu : wordsOf s = some u) : u.length ≤ 2 * l.length := by
  unfold named at h
  split at h
  · cases h
  · rename_i a b e
    have hb := (par_len l [] e).2
    unfold namedAt at h
    split at h
    · split at h
      · rw [← Option.some.inj h] at hu
        rw [← Option.some.inj hu]
        have h1 := tidy_len b
        omega
      · split at h
        · split at h
          · rw [← Option.some.inj h] at hu
            cases hu
          · cases h
        · cases h
    · cases h
theorem flush_len {l b u : List Nat} {s : Srt} (h : flush l b = some s) (hu : wordsOf s = some u) : u.length ≤ 2 * b.length := by
  unfold flush at h
  split at h
  · rw [← Option.some.inj h] at hu; cases hu
  · split at h
    · rw [← Option.some.inj h] at hu; cases hu
    · rcases or_some h with h | h
      · rcases or_some h with h | h
        · exact heading_len h hu
        · obtain ⟨cs, rfl⟩ := cells_shape h
          cases hu
      · exact named_len h hu
theorem rest_len {l u : List Nat} (hu : wordsOf (KM.rest l) = some u) : u.length ≤ 2 * l.length := by
  unfold KM.rest at hu
  split at hu
  · rw [← Option.some.inj hu]
    have h1 := tidy_len ((ls (rs l)).drop 2)
    have h2 : ((ls (rs l)).drop 2).length ≤ (ls (rs l)).length := by rw [List.length_drop]; omega
    have h3 : (ls (rs l)).length ≤ (rs l).length := (List.dropWhile_sublist _).length_le
    have h4 := rs_len l
    omega
  · rw [← Option.some.inj hu]
    exact tidy_len l
theorem sort_len {l u : List Nat} (hu : wordsOf (sortL l) = some u) : u.length ≤ 2 * l.length := by
  unfold sortL at hu
  split at hu
  · cases hu
  · split at hu
    · cases e : flush l (rs l) with
      | none =>
        rw [e] at hu
        exact rest_len hu
      | some s =>
        rw [e] at hu
        have := flush_len e hu
        have := rs_len l
        omega
    · exact rest_len hu
theorem cut_first (x : V) (xs : List V) : cutV (x :: xs) (some 1) none = xs := by
  unfold cutV
  rw [show HT.sIx (x :: xs).length 0 (some 1) = min 1 (x :: xs).length from HT.sIx_nat _ 0 1, HT.sIx_none, show min 1 (x :: xs).length = 1 by rw [List.length_cons]; omega]
  show List.take ((x :: xs).length - 1) xs = xs
  rw [List.length_cons, Nat.add_sub_cancel, List.take_length]
theorem cut_12 (xs : List V) : cutV xs none (some 12) = xs.take 12 := by
  unfold cutV
  rw [show HT.sIx xs.length xs.length (some 12) = min 12 xs.length from HT.sIx_nat _ _ 12, HT.sIx_none, List.drop_zero, Nat.sub_zero]
  by_cases h : 12 ≤ xs.length
  · rw [Nat.min_eq_left h]
  · rw [Nat.min_eq_right (by omega), List.take_length, List.take_of_length_le (by omega)]
section
variable {P : Program} {w : World} {K : PySem.W.Frag} {mg : Str → Option Value} {base : Heap}
/-! ### the law -/
theorem scLaw : FnScope ["_law_script", "_law_rows", "_law_row_here", "_law_found", "_law_k", "_law_cell", "_law_part"] ["_law_script"] (defScope sLaw) := ⟨rfl, rfl, rfl, by decide +kernel, rfl, by decide +kernel, by decide +kernel⟩
def spLaw (K : PySem.W.Frag) : Sp := fun vs H Q _ => ∃ (a : Addr) (ns : List Int), vs = [.ref a] ∧ SqL K H a (ns.map V.int) ∧ ∀ H', Q (.bl true) H'
theorem ok_law {f fR fM fS fD fT : Addr} {fd fdR fdM fdS fdD fdT : FuncData} (F : Fun K "law" "law" sLaw f fd) (T : Txt K mg) (dR : Df K mg "_law_row" sLRow ["_law_cell"] fR fdR) (GR : FnOk P w K mg base CX0 2 fR fdR ["_law_cell"] spRow)
    (dM : Df K mg "_law_mixed" sLMixed ["_law_cell", "_law_k"] fM fdM) (dS : Df K mg "sort_of" sSort ["row"] fS fdS) (GS : FnN 385 P w K mg base 6 fS fdS ["row"] spSort) (dD : Df K mg "_law_due" sLDue ["_law_row_here"] fD fdD) (GD : FnOk P w K mg base CX0 5 fD fdD ["_law_row_here"] spSort)
    (dT : Df K mg "_law_tidy" sLTidy ["_law_text"] fT fdT) (GT : FnOk P w K mg base CX0 2 fT fdT ["_law_text"] spTidy) : FnN 385 P w K mg base 7 f fd ["_law_script"] (spLaw K) := by
  have GM : FnOk P w K mg base CX0 1 fM fdM ["_law_cell", "_law_k"] spMixed := ok_mixed dM.F
  refine fnN F scLaw (fun vs H Q E h => ?_) (fun cdv A outer s H vs Q E hr h => ?_)
  · obtain ⟨a, ns, rfl, _⟩ := h
    rfl
  · obtain ⟨a, ns, rfl, hS, q⟩ := h
    have hr5 := hr.mono (show 5 ≤ 6 by decide)
    have hr2 := hr.mono (show 2 ≤ 6 by decide)
    have hr1 := hr.mono (show 1 ≤ 6 by decide)
    refine ⟨_, nb_cons (ns_of (ps_setLc (i := 1) (own := [("_law_k", 4), ("_law_cell", 5)]) (g := gTup K 2 (gCons (gName 4) (gCons (gName 5) gNil))) (tt := tYes) rfl scLaw.nd rfl rfl (sw_true rfl rfl rfl (by decide +kernel))
        (pi_enum (by rfl) T.enu (pa_cons (pe_slice sl_list (pv 0) po_none (po_some pe_int)) pa_nil))
        (blkOk_by (own := [("_law_k", 4), ("_law_cell", 5)]) (N := ["_law_script", "_law_rows", "_law_row_here", "_law_found", "_law_k", "_law_cell", "_law_part"]) (sc := defScope sLaw) (by decide +kernel))
        (fun _ _ _ _ _ => by exact pg_tup rfl (pgs_cons (pg_name (i := 4) scLaw.nd rfl (Or.inl rfl)) (pgs_cons (pg_name (i := 5) scLaw.nd rfl (Or.inl rfl)) pgs_nil))) (fun _ _ _ _ _ => pts_nil)
        (fun _ _ _ _ _ => pe_call GR hr2 (by rfl) dR.g dR.F.kp dR.b .nil pass0 (pa_cons (pe_call GM hr1 (by rfl) dM.g dM.F.kp dM.b .nil pass0 (pa_cons (pv 5) (pa_cons (pv 4) pa_nil))) pa_nil))))
      (nb_cons (ns_for PassesOwn.never rfl (ni_of (pi_list (pe_op op_cat (pv 1) (pe_revL (pv 1))))) (pg_name (i := 2) scLaw.nd rfl (.inl rfl))
        (nb_cons (ns_set (i := 3) scLaw.nd rfl (.inl rfl) (ne_call GS hr (by rfl) dS.g dS.F.kp dS.b (pa_cons (pv 2) pa_nil)))
        (nb_of (pss_cons (ps_if (PW.pt (pw_or (pt_not (pt_val (pe_callB call_isi (by rfl) T.isi (by decide +kernel) (pa_cons (pv 3) (pa_cons (pe_bltn (v := .ty "tuple") (by rfl) T.tup (by decide +kernel) rfl) pa_nil)))))
              (pw_or1 (pt_cmpR (op_neP hr.units) (pv 3) (pe_call GD hr5 (by rfl) dD.g dD.F.kp dD.b .nil pass0 (pa_cons (pv 2) pa_nil)) (nomark _)))))
            (pss_one (ps_ret pe_bl)) pss_nil)
          (pss_cons (ps_if (pt_cmpR (op_neP hr.units) (pe_lc (own := [("_law_part", 6)]) (g := gName 6) (tt := tB (tCB (rIsi K) (tCons (tVar 6) (tCons (tC (.ty "bool")) tNil)))) rfl scLaw.nd (pi_tup (pe_slice sl_tup (pv 3) (po_some pe_int) po_none))
              (blkOk_by (own := [("_law_part", 6)]) (N := ["_law_script", "_law_rows", "_law_row_here", "_law_found", "_law_k", "_law_cell", "_law_part"]) (sc := defScope sLaw) (by decide +kernel))
              (fun _ _ _ _ _ => pg_name (i := 6) scLaw.nd rfl (Or.inl rfl)) (fun _ _ _ _ _ => by exact pts_one (pt_val (pe_callB call_isi (by rfl) T.isi (by decide +kernel) (pa_cons (pv 6) (pa_cons (pe_bltn (v := .ty "bool") (by rfl) T.bool (by decide +kernel) rfl) pa_nil))))) (fun _ _ _ _ _ => pv 6))
              (pe_lst pa_nil) (nomark _)) (pss_one (ps_ret pe_bl)) pss_nil)
          (pss_one (ps_if (PW.pt (pw_and (pt_cmpR op_in_seq (pe_ix ix_tup (pv 3) pe_int (fun _ _ => rfl)) (pe_tup (pa_cons pe_str (pa_cons pe_str (pa_cons pe_str (pa_cons pe_str pa_nil))))) rfl)
              (pw_and1 (pt_cmpR op_ne (pe_ix ix_tup (pv 3) (pe_un un_neg pe_int) (fun _ _ => rfl)) (pe_call GT hr2 (by rfl) dT.g dT.F.kp dT.b .nil pass0 (pa_cons (pe_ix ix_tup (pv 3) (pe_un un_neg pe_int) (fun _ _ => rfl)) pa_nil)) (nomark _)))))
            (pss_one (ps_ret pe_bl)) pss_nil)))))))
      (nb_one (ns_ret (ne_cmp (op_eqP hr.units) (ne_call GS hr (by rfl) dS.g dS.F.kp dS.b (pa_cons pe_str pa_nil)) (ne_of (pe_tup (pa_cons pe_str pa_nil))) (nomark _))))), ?_⟩
    have hsz : sizeLine = 16777216 := sizeLine_eq
    -- the rows
    refine ⟨_, rfl, _, rfl, a, _, rfl, hS, fun p1 np1 => ?_⟩
    rw [cut_12, ← List.map_take]
    generalize hms : ns.take 12 = ms
    have hml : ms.length ≤ 12 := by rw [← hms, List.length_take]; omega
    refine ⟨p1, _, rfl, .inl (.inl upd_same), fun D nD => ?_⟩
    have hpD : p1 ≠ D := ne_of_none upd_same nD
    refine ⟨fun i m H' => m = ms.length - i ∧ i ≤ ms.length ∧ H' p1 = some (.lst (ms.map V.int)) ∧ ∃ rows : List Str, rows.length = i ∧ (∀ z ∈ rows, z.length ≤ 100) ∧ H' D = some (.lst (rows.map V.str)),
      ⟨ms.length, by simp, Nat.zero_le _, by rw [upd_ne hpD, upd_same], [], rfl, by simp, by rw [upd_same]; rfl⟩, ?_⟩
    rintro i m H1 ⟨rfl, hi, e1, rows, hrl, hz, e2⟩
    by_cases hlt : i < ms.length
    · refine .inr ⟨⟨_, .int ms[i], .inl (.inl e1), by rw [List.getElem?_map, List.getElem?_eq_getElem hlt]; rfl⟩,
        fun H' => H' p1 = some (.lst (ms.map V.int)) ∧ ∃ rows : List Str, rows.length = i + 1 ∧ (∀ z ∈ rows, z.length ≤ 100) ∧ H' D = some (.lst (rows.map V.str)), fun H' h' => ⟨ms.length - (i + 1), by omega, rfl, by omega, h'⟩, fun x H' y => ?_⟩
      obtain ⟨t, u, rfl, nt, rfl, hu⟩ := y
      obtain ⟨c, hc, rfl⟩ := map_at (hu _ (.inl (.inl e1)))
      have nDt : D ≠ t := ne_of_none e2 nt
      have npt : p1 ≠ t := ne_of_none e1 nt
      refine ⟨t, _, rfl, .inl (.inl upd_same), rfl, _, _, rfl, _, _, rfl, rfl, rfl, ?_⟩
      refine ⟨_, rfl, _, rfl, c, (i : Int), rfl, by omega, by omega, fun m' h0 h1 => ⟨m', rfl, h0, h1, fun z H3 s3 hz3 => ?_⟩⟩
      have e3 : H3 D = some (.lst (rows.map V.str)) := s3 _ _ (by rw [upd_ne nDt]; exact e2)
      have e4 : H3 p1 = some (.lst (ms.map V.int)) := s3 _ _ (by rw [upd_ne npt]; exact e1)
      refine ⟨_, e3, small1000 (by rw [List.length_map]; omega), by rw [upd_ne hpD]; exact e4, rows ++ [z], by rw [List.length_append, hrl]; rfl, fun y hy => ?_, ?_⟩
      · rcases List.mem_append.mp hy with g | g
        · exact hz y g
        · rw [List.mem_singleton.mp g]; exact hz3
      · rw [upd_same, List.map_append]
        rfl
    · refine .inl ⟨⟨_, .inl (.inl e1), by rw [List.length_map]; omega⟩, ?_⟩
      -- forwards and back
      refine ⟨_, rfl, _, rfl, D, _, rfl, .inl (.inl e2), fun p3 np3 => ?_⟩
      refine ⟨D, p3, _, _, rfl, rfl, by rw [upd_ne (ne_of_none e2 np3)]; exact e2, upd_same, by rw [List.length_reverse, List.length_map]; omega, fun p4 np4 => ?_⟩
      rw [← List.map_reverse, ← List.map_append]
      have hall : ∀ z ∈ rows ++ rows.reverse, z.length ≤ 100 := fun z hm => by
        rcases List.mem_append.mp hm with g | g
        · exact hz z g
        · exact hz z (List.mem_reverse.mp g)
      generalize rows ++ rows.reverse = all at hall
      refine ⟨p4, rfl, ⟨_, .inl (.inl upd_same)⟩, for_list (K := K) (a := p4) (xs := all.map V.str) (fun i v H' => (∃ y2 y3, v = [some (.ref a), some (.ref D), y2, y3, none, none, none]) ∧ H' p4 = some (.lst (all.map V.str)))
        ⟨⟨none, none, rfl⟩, upd_same⟩ (fun i v H' _ h => .inl (.inl h.2)) ?_ ?_⟩
      · rintro j x v H2 hx ⟨⟨y2, y3, rfl⟩, g4⟩
        obtain ⟨z, hzz, rfl⟩ := map_at hx
        have hzl := hall z (List.mem_of_getElem? hzz)
        obtain ⟨l, rfl⟩ : ∃ l, z = tx l := ⟨TL.tl z, (TL.mk_tl z).symm⟩
        rw [tx_len] at hzl
        refine ⟨_, rfl, l, rfl, by omega, fun H3 v3 s3 o3 => ?_⟩
        obtain ⟨t, xs, rfl, ht, hparts, hwords⟩ := o3.look
        -- a tuple, the one that is due
        refine ⟨_, rfl, _, _, _, _, true, rfl, .ty "tuple", .base (.tup ht), kit_ty (by decide +kernel), _, rfl, iteF ?_⟩
        refine ⟨_, rfl, _, rfl, l, rfl, by omega, fun H4 v4 s4 o4 => ?_⟩
        refine ⟨dat (sortL l), dat (sortL l), (SrtV.same s4 o3).dp, o4.dp, dat_plain _, dat_plain _, dat_depth _, _, rfl, ?_⟩
        rw [SeqAt.eqv_refl_plain _ (dat_plain _)]
        refine iteF ?_
        have ht4 : H4 t = some (.tup (.str (tagOf (sortL l)) :: xs)) := s4 _ _ ht
        have hp4 : ∀ y ∈ xs, Part H4 y := fun y hy => (hparts y hy).same s4
        have g44 : H4 p4 = some (.lst (all.map V.str)) := s4 _ _ (s3 _ _ g4)
        -- no truths
        refine ⟨_, rfl, _, rfl, t, _, rfl, .inl (.inl ht4), ?_, fun p5 np5 => ?_⟩
        · intro hh
          have := hh.1
          rw [show HT.sIx (V.str (tagOf (sortL l)) :: xs).length 0 (some 1) = min 1 (V.str (tagOf (sortL l)) :: xs).length from HT.sIx_nat _ 0 1, List.length_cons] at this
          omega
        rw [cut_first]
        refine ⟨p5, rfl, ⟨_, .inl (.inl upd_same)⟩, fun D2 nD2 => ?_⟩
        have s5 : Same H4 (upd (upd H4 p5 (.tup xs)) D2 (.lst [])) := (same_upd np5).trans (same_upd nD2)
        have h5D : p5 ≠ D2 := ne_of_none upd_same nD2
        refine lc_tup (K := K) (a := p5) (xs := xs) (fun i H' => Same H4 H' ∧ H' p5 = some (.tup xs) ∧ H' D2 = some (.lst []))
          ⟨s5, by rw [upd_ne h5D, upd_same], upd_same⟩ (fun i H' _ h => .inl (.inl h.2.1)) ?_ ?_
        · rintro i2 y H5 hy ⟨s6, k1, k2⟩
          have hP : Part H5 y := (hp4 y (List.mem_of_getElem? hy)).same s6
          cases hP with
          | str y => exact ⟨rfl, _, rfl, _, _, _, _, false, rfl, .ty "bool", .base (.str _), kit_ty (by decide +kernel), _, rfl, s6, k1, k2⟩
          | int y => exact ⟨rfl, _, rfl, _, _, _, _, false, rfl, .ty "bool", .base (.int _), kit_ty (by decide +kernel), _, rfl, s6, k1, k2⟩
          | lst e => exact ⟨rfl, _, rfl, _, _, _, _, false, rfl, .ty "bool", .base (.lst e), kit_ty (by decide +kernel), _, rfl, s6, k1, k2⟩
        · rintro H5 ⟨s6, k1, k2⟩
          refine ⟨Nat.zero_le _, fun p6 np6 => ?_⟩
          have e6 : (upd H5 p6 (.lst [])) D2 = some (.lst []) := by
            rw [upd_ne (ne_of_none k2 np6)]
            exact k2
          refine ⟨.list [], .list [], .lst (.inl (.inl e6)) .nil, .lst (.inl (.inl upd_same)) .nil, by simp [PyData.plain, PyData.plainAll], by simp [PyData.plain, PyData.plainAll], by simp [PyData.depth, PyData.depthAll], _, rfl, ?_⟩
          rw [SeqAt.eqv_refl_plain (.list []) (by simp [PyData.plain, PyData.plainAll])]
          refine iteF ?_
          have s7 : Same H4 (upd H5 p6 (.lst [])) := s6.trans (same_upd np6)
          generalize upd H5 p6 (.lst []) = H6 at s7
          -- the words are tidy
          have ht6 : H6 t = some (.tup (.str (tagOf (sortL l)) :: xs)) := s7 _ _ ht4
          refine ⟨_, rfl, t, _, 0, _, rfl, rfl, .inl (.inl ht6), atI_nat (j := 0) rfl, by show 4 ≤ sizeLine; omega, fun p7 np7 => ?_⟩
          have s8 : Same H6 (upd H6 p7 (.tup [.str "heading", .str "note", .str "item", .str "plain"])) := same_upd np7
          have e7 : upd H6 p7 (.tup [.str "heading", .str "note", .str "item", .str "plain"]) p7 = some (.tup [.str "heading", .str "note", .str "item", .str "plain"]) := upd_same
          refine ⟨p7, _, rfl, .inr (.inl (.inl e7)), rfl, by decide +kernel, _, rfl, ?_⟩
          generalize upd H6 p7 (.tup [.str "heading", .str "note", .str "item", .str "plain"]) = H7 at s8
          have g7 : H7 p4 = some (.lst (all.map V.str)) := s8 _ _ (s7 _ _ g44)
          have ht7 : H7 t = some (.tup (.str (tagOf (sortL l)) :: xs)) := s8 _ _ ht6
          rw [tag_in]
          cases hw : wordsOf (sortL l) with
          | none => exact iteF (iteF ⟨⟨_, _, rfl⟩, g7⟩)
          | some u =>
            have hu := sort_len hw
            have hat : atI (V.str (tagOf (sortL l)) :: xs) (-1) = some (sv u) := by
              obtain ⟨ys, rfl⟩ := hwords u hw
              exact atI_last (V.str (tagOf (sortL l)) :: ys) (sv u)
            refine iteT ⟨_, rfl, 1, rfl, t, _, -1, sv u, rfl, rfl, .inl (.inl ht7), hat, _, rfl, 1, rfl, t, _, -1, sv u, rfl, rfl, .inl (.inl ht7), hat, u, rfl, by omega, fun H8 s9 => ⟨rfl, _, rfl, ?_⟩⟩
            rw [dec_tx, sort_tidy hw, decide_eq_true rfl]
            exact iteF ⟨⟨_, _, rfl⟩, s9 _ _ g7⟩
      · rintro v H2 ⟨⟨y2, y3, rfl⟩, g4⟩
        have e0 : sortL [] = .empty := if_pos rfl
        refine ⟨[], by rw [lit0]; rfl, Nat.zero_le _, fun H3 v3 s3 o3 => ⟨by show 1 ≤ sizeLine; omega, fun p5 np5 => ?_⟩⟩
        rw [e0] at o3
        have o5 := (SrtV.same (same_upd (o := .tup [.str "empty"]) np5) o3).dp (K := K)
        refine ⟨dat .empty, dat .empty, o5, .tup (.inl (.inl upd_same)) (.cons (.str _) .nil), dat_plain _, dat_plain _, dat_depth _, ?_⟩
        rw [SeqAt.eqv_refl_plain _ (dat_plain _)]
        exact q _
end
end KP
namespace KP
open PySem PySem.Spec PyProof.Rows L2 KM KT
/-! ### the law's call, with its tokens -/
section
variable {t k : Nat} {P : Program} {w : World} {K : PySem.W.Frag} {mg mb : Str → Option Value} {fa a : Addr} {fd : FuncData} {x : Str} {sp : Sp} {s : Shared} {vs : List Value} {ns : List Int}
theorem coreN (ht : t ≤ s.toks) (KX : K.In s.heap) (hns : s.heap.Ns mainGlobals mg) (hb : s.heap.Ns builtinsNs mb) (hbb : ∀ y : Str, y ≠ "__name__" → mb y = bootBuiltins y) (hlim : s.heap.NoLimit) (hg : s.gens = #[])
    (ha : s.heap.get? a = some { cls := .type "list", data := .seq vs.toArray }) (hr : Room k callerA) (F : ∀ base : Heap, K.In base → base.Ns mainGlobals mg → FnN t P w K mg base k fa fd [x] sp)
    (hbind : ∀ (u : Shared) (v : Value), BindsTo u fd ⟨[v], []⟩ [(x, v)]) (H : Hp) (hO : Only H) (hsp : sp [.ref a] H (fun v _ => v = .bl true) fun _ _ _ => False) (hok : HOk P w H s.heap) (hA : ∀ b, H b ≠ none → b = a) (hK : H a ≠ none → K.lookup a = none) :
    codeAny (model P w) callerA (.call (.ref fa) ⟨[.ref a], []⟩) (fun r u => r = .ok (.ret (.bool true)) ∧ OldK s.heap u.heap ∧ u.os = s.os ∧ AllBare u.gens) s := by
  have only_a : ∀ {b : Addr} {z : HO}, H b = some z → b = a := fun {b z} e => hA b (by rw [e]; simp)
  have dictFree : ∀ {b : Addr} {o : Obj} {es : Array DictEntry} {ep : Nat}, s.heap.get? b = some o → o.data = .dict es ep → H b = none := fun {b o es ep} e1 e2 => by
    cases z : H b with
    | none => rfl
    | some u =>
      obtain rfl := only_a z
      rw [ha] at e1
      cases e1
      have : Data.seq vs.toArray _ = Data.dict es ep := e2
      cases this
  have names : ∀ {b : Addr} {m : Str → Option Value}, s.heap.Ns b m → (hidT s.heap H).Ns b m := fun {b m} ⟨o, es, ep, e1, e2, rr⟩ => ⟨o, es, ep, hidT_get e1 (dictFree e1 e2), e2, rr⟩
  have KB : K.In (hidT s.heap H) := fun b o e => hidT_get (KX b o e) (by
    cases z : H b with
    | none => rfl
    | some u =>
      obtain rfl := only_a z
      rw [hK (by rw [z]; simp)] at e
      cases e)
  have M : Mod K mg (hidT s.heap H) := ⟨KB, names hns, ⟨mb, names hb, hbb⟩, let ⟨mc, z1, z2⟩ := hlim; ⟨mc, names z1, z2⟩⟩
  have e0 : Env0 P w K mg (hidT s.heap H) callerA [] s H := ⟨rfl, M, fun b o e => of_hidT e, Nat.le_of_eq (hidT_size _ _), trivial, fun b z => absurd (show b ∈ ([] : List Addr) from z) (by simp), hok, .of_eq hg⟩
  refine codeAny_mono ((F _ KB (names hns)).run callerA [] s H ⟨[.ref a], []⟩ [.ref a] [.ref a] _ _ ht hr e0 (hbind s (.ref a)) (.cons rfl .nil) hsp) fun r u z => ?_
  cases r with
  | error e => exact (show False from z).elim
  | ok fl =>
    cases fl with
    | next => exact (show False from z).elim
    | brk => exact (show False from z).elim
    | cont => exact (show False from z).elim
    | ret v =>
      obtain ⟨y, H2, os, bare, un, ok2, r2, qq⟩ := z
      have qq : y = .bl true := qq
      subst qq
      obtain rfl : v = Value.bool true := r2
      refine ⟨rfl, OldK.of_keep fun b o e => ?_, os, bare⟩
      cases z : H b with
      | none => exact un.keep b o e z (by intro g; exact absurd (show b ∈ ([] : List Addr) from g) (by simp)) (by simp)
      | some g =>
        rcases hO b with c | ⟨ob, xs, c⟩
        · rw [z] at c; cases c
        · obtain ⟨f1, _⟩ := hok b _ c
          obtain ⟨f2, _⟩ := ok2 b _ (un.frzs b ob _ c)
          rw [e] at f1
          cases f1
          exact f2
theorem callN (ht : t ≤ s.toks) (KX : K.In s.heap) (hns : s.heap.Ns mainGlobals mg) (hb : s.heap.Ns builtinsNs mb) (hbb : ∀ y : Str, y ≠ "__name__" → mb y = bootBuiltins y) (hlim : s.heap.NoLimit) (hg : s.gens = #[])
    (ha : s.heap.get? a = some { cls := .type "list", data := .seq vs.toArray }) (hi : IntsAre vs ns) (hl : ns.length ≤ sizeLine) (hr : Room k callerA) (F : ∀ base : Heap, K.In base → base.Ns mainGlobals mg → FnN t P w K mg base k fa fd [x] sp)
    (hbind : ∀ (u : Shared) (v : Value), BindsTo u fd ⟨[v], []⟩ [(x, v)]) (hsp : ∀ H : Hp, SqL K H a (ns.map V.int) → sp [.ref a] H (fun v _ => v = .bl true) fun _ _ _ => False) :
    codeAny (model P w) callerA (.call (.ref fa) ⟨[.ref a], []⟩) (fun r u => r = .ok (.ret (.bool true)) ∧ OldK s.heap u.heap ∧ u.os = s.os ∧ AllBare u.gens) s := by
  have rv := vals_ints hi
  have lenV := hi.length
  cases hk : K.lookup a with
  | some o =>
    have e := KX a o hk
    rw [ha] at e
    cases e
    have hq : SqL K (fun _ => none) a (ns.map V.int) := .inr ⟨_, vs.toArray, _, hk, rfl, rfl, rfl, by rw [List.size_toArray, lenV]; exact hl, by simpa using rv⟩
    exact coreN ht KX hns hb hbb hlim hg ha hr F hbind (fun _ => none) (fun _ => .inl rfl) (hsp _ hq) (fun b u z => by cases (show (none : Option HO) = some u from z)) (fun b z => absurd rfl z) fun z => absurd rfl z
  | none =>
    generalize hob : ({ cls := .type "list", data := .seq vs.toArray } : Obj) = ob at ha
    have hat : ∀ b, (fun c : Addr => if c = a then some (HO.frz ob (.lst (ns.map V.int))) else none) b ≠ none → b = a := fun b z => by
      by_cases hb : b = a
      · exact hb
      · exact absurd (show (if b = a then some (HO.frz ob (.lst (ns.map V.int))) else none) = none from if_neg hb) z
    have hq : SqL K (fun c : Addr => if c = a then some (HO.frz ob (.lst (ns.map V.int))) else none) a (ns.map V.int) := .inl (.inr ⟨ob, if_pos rfl⟩)
    subst hob
    refine coreN ht KX hns hb hbb hlim hg ha hr F hbind _ (fun b => ?_) (hsp _ hq) (fun b u z => ?_) hat fun _ => hk
    · by_cases hb : b = a
      · exact .inr ⟨_, _, if_pos hb⟩
      · exact .inl (if_neg hb)
    · obtain rfl : b = a := hat b (fun e => by cases (z.symm.trans e))
      have z2 := (if_pos rfl).symm.trans z
      cases z2
      exact ⟨ha, by rw [List.length_map]; exact hl, vs, _, rv, ha⟩
end
/-- what z_head leaves, from the law's promise -/
theorem law_end {l : PySem.W.OpenLaw} {n k t : Nat} {q : Program} {loose : List Str} {XP : (Str → Option Value) → Heap → Prop} {x : Str} {K : PySem.W.Frag} {w : World} {s0 s1 : Shared} {mg mb : Str → Option Value} {fa : Addr} {sp : Sp} {args : List PySem.W.WData} {vals : List Value}
    (hn : l.most = some n) (hn2 : n ≤ sizeLine) (hr : Room k callerA) (G : PySem.W.Ground q loose l.row.toRowW.records XP w s0 mg mb s1.heap) (KX : K.In s1.heap) (ht : t ≤ s1.toks) (hg : s1.gens = #[])
    (hpre : l.row.toRowW.claim.pre args = true) (hwl : PySem.W.WellAll w.params s1.heap vals args)
    (F : ∃ fd : FuncData, (∀ (u : Shared) (v : Value), BindsTo u fd ⟨[v], []⟩ [(x, v)]) ∧ ∀ base : Heap, K.In base → base.Ns mainGlobals mg → FnN t l.prog w K mg base k fa fd [x] sp)
    (hsp : ∀ (H : Hp) (a : Addr) (ns : List Int), SqL K H a (ns.map V.int) → sp [.ref a] H (fun v _ => v = .bl true) fun _ _ _ => False) :
    wpAny (model l.prog w) callerA (PySem.call (.ref fa) vals) (fun v u => PySem.W.GoodWG l.row.toRowW.claim (classAt s0.heap) (ExcName.means s0.heap) args s1 (.ok (.ret v)) u)
      (fun e u => PySem.W.GoodWG l.row.toRowW.claim (classAt s0.heap) (ExcName.means s0.heap) args s1 (.error e) u) s1 := by
  obtain ⟨a, vs, ns, rfl, rfl, hobj, hints, hlen⟩ := Att.script_of hn hpre hwl
  obtain ⟨fd, hbind, hF⟩ := F
  refine PySem.W.enter_call (codeAny_mono (callN ht KX G.T.g G.T.b G.T.builtins G.T.nolimit hg hobj hints (Nat.le_trans hlen hn2) hr hF hbind fun H hS => hsp H a ns hS) fun r u hq => ?_)
  obtain ⟨rfl, h2, h3, h4⟩ := hq
  refine ⟨.inl ⟨.bool true, .bool true, [], rfl, fun _ => rfl, .bool true, Att.post_true l _, fun _ => ⟨List.Pairwise.nil, fun _ z => nomatch z⟩⟩, h2, h3, h4⟩
/-! ### what the top has written -/
theorem df_mk {K : PySem.W.Frag} {h : Heap} {mg : Str → Option Value} {x : Str} {st : Stmt} {ps : List Str} {f : Addr} {od an : Option Addr} {sl : Array (Option Value)} {oc kV dc pm cd ct : Value} (X : K.In h) (G : h.Ns mainGlobals mg)
    (e1 : PySem.W.nsIn K mainGlobals x = some (some (.ref f))) (e2 : K.lookup f = some ⟨oc, od, .func (PySem.W.fnOf x x (defArgs st) (defBody st) (defScope st) .none kV dc pm an cd ct), sl⟩) (e3 : PySem.W.codeIn K cd x = true) (e4 : PySem.W.keepIn K (.ref f) = true)
    (hb : ∀ (kV doc pm : Value) (an : Option Addr) (cdv ct : Value) (us : List Value), us.length = ps.length → bindArgs (PySem.W.fnOf x x (defArgs st) (defBody st) (defScope st) .none kV doc pm an cdv ct) ⟨us, []⟩ = pure (ps.zip us)) :
    Df K mg x st ps f (PySem.W.fnOf x x (defArgs st) (defBody st) (defScope st) .none kV dc pm an cd ct) := by
  have F := fun_mk (st := st) e2 e3 e4
  exact ⟨F, F.binds hb, PySem.W.mg_of X G e1⟩
/-- all that the walk asks -/
structure Defs (K : PySem.W.Frag) (mg : Str → Option Value) : Prop where
  isName : ∃ f fd, Df K mg "is_name" sIsName ["thing"] f fd
  words : ∃ f fd, Df K mg "words_of" sWords ["text"] f fd
  tidy : ∃ f fd, Df K mg "tidy" sTidy ["text"] f fd
  split : ∃ f fd, Df K mg "split_cells" sSplit ["text"] f fd
  head : ∃ f fd, Df K mg "heading_sort" sHead ["bare"] f fd
  cells : ∃ f fd, Df K mg "cells_sort" sCells ["bare"] f fd
  named : ∃ f fd, Df K mg "named_sort" sNamed ["bare"] f fd
  flush : ∃ f fd, Df K mg "flush_sort" sFlush ["row", "bare"] f fd
  sort : ∃ f fd, Df K mg "sort_of" sSort ["row"] f fd
  mixed : ∃ f fd, Df K mg "_law_mixed" sLMixed ["_law_cell", "_law_k"] f fd
  signs : ∃ f fd, Df K mg "_law_signs" sLSigns [] f fd
  row : ∃ f fd, Df K mg "_law_row" sLRow ["_law_cell"] f fd
  lwords : ∃ f fd, Df K mg "_law_words" sLWords ["_law_text"] f fd
  ltidy : ∃ f fd, Df K mg "_law_tidy" sLTidy ["_law_text"] f fd
  lbounds : ∃ f fd, Df K mg "_law_bounds" sLBounds ["_law_row_here"] f fd
  lcells : ∃ f fd, Df K mg "_law_cells" sLCells ["_law_text"] f fd
  lname : ∃ f fd, Df K mg "_law_name" sLName ["_law_text"] f fd
  lnamed : ∃ f fd, Df K mg "_law_named" sLNamed ["_law_bare"] f fd
  lflush : ∃ f fd, Df K mg "_law_flush" sLFlush ["_law_row_here", "_law_bare"] f fd
  ldue : ∃ f fd, Df K mg "_law_due" sLDue ["_law_row_here"] f fd
theorem all_ok_law {P : Program} {w : World} {K : PySem.W.Frag} {mg : Str → Option Value} {base : Heap} {f : Addr} {fd : FuncData} (T : Txt K mg) (S : Defs K mg) (L : Df K mg "law" sLaw ["_law_script"] f fd) : FnN 385 P w K mg base 7 f fd ["_law_script"] (spLaw K) := by
  obtain ⟨_, _, d1⟩ := S.isName
  obtain ⟨_, _, d2⟩ := S.words
  obtain ⟨_, _, d3⟩ := S.tidy
  obtain ⟨_, _, d4⟩ := S.split
  obtain ⟨_, _, d5⟩ := S.head
  obtain ⟨_, _, d6⟩ := S.cells
  obtain ⟨_, _, d7⟩ := S.named
  obtain ⟨_, _, d8⟩ := S.flush
  obtain ⟨_, _, d9⟩ := S.sort
  obtain ⟨_, _, m1⟩ := S.mixed
  obtain ⟨_, _, m2⟩ := S.signs
  obtain ⟨_, _, m3⟩ := S.row
  obtain ⟨_, _, m4⟩ := S.lwords
  obtain ⟨_, _, m5⟩ := S.ltidy
  obtain ⟨_, _, m6⟩ := S.lbounds
  obtain ⟨_, _, m7⟩ := S.lcells
  obtain ⟨_, _, m8⟩ := S.lname
  obtain ⟨_, _, m9⟩ := S.lnamed
  obtain ⟨_, _, ma⟩ := S.lflush
  obtain ⟨_, _, mz⟩ := S.ldue
  have GT := ok_tidy (P := P) (w := w) (base := base) d3.F d2.F d2.b d2.g
  have GSp := ok_split d4.F T d3.F d3.b d3.g GT
  have GH := ok_head d5.F T d3 GT
  have GC := ok_cells d6.F T d4 GSp
  have GN := ok_named d7.F T d3 GT d2 d1
  have GF := ok_flush d8.F T d5 GH d6 GC d7 GN
  have GS := ok_sort d9.F T d8 GF d3 GT
  have GR := ok_row (P := P) (w := w) (base := base) m3.F T m2 m1
  have LT := ok_ltidy (P := P) (w := w) (base := base) m5.F m4
  have LC := ok_lcells m7.F T m5 LT
  have LN := ok_lnamed (P := P) (w := w) (base := base) m9.F T m4 m8
  have LF := ok_lflush ma.F T m5 LT m7 LC m9 LN
  have LD := ok_ldue mz.F T m6 ma LF m5 LT
  exact ok_law L.F T m3 GR m1 d9 GS mz LD m5 LT
theorem ofPy_ints (ns : List Int) : PySem.W.ofPy (PyData.list (ns.map PyData.int)) = PySem.W.WData.list (ns.map PySem.W.WData.int) := by
  rw [PySem.W.ofPy, PySem.W.ofPys_eq, List.map_map]
  rfl
/-- all of it, for the last step -/
theorem all_end {l : PySem.W.OpenLaw} {q : Program} {loose : List Str} {XP : (Str → Option Value) → Heap → Prop} {K : PySem.W.Frag} {w : World} {s0 s1 : Shared} {mg mb : Str → Option Value} {fa : Addr} {args : List PySem.W.WData} {vals : List Value}
    (hn : l.most = some 63) (G : PySem.W.Ground q loose l.row.toRowW.records XP w s0 mg mb s1.heap) (KX : K.In s1.heap) (ht : 385 ≤ s1.toks) (hg : s1.gens = #[])
    (hpre : l.row.toRowW.claim.pre args = true) (hwl : PySem.W.WellAll w.params s1.heap vals args) (hmg : mg "law" = some (.ref fa))
    (F : Txt K mg ∧ Defs K mg ∧ ∃ f fd, Df K mg "law" sLaw ["_law_script"] f fd ∧ ∀ (u : Shared) (v : Value), BindsTo u fd ⟨[v], []⟩ [("_law_script", v)]) :
    wpAny (model l.prog w) callerA (PySem.call (.ref fa) vals) (fun v u => PySem.W.GoodWG l.row.toRowW.claim (classAt s0.heap) (ExcName.means s0.heap) args s1 (.ok (.ret v)) u)
      (fun e u => PySem.W.GoodWG l.row.toRowW.claim (classAt s0.heap) (ExcName.means s0.heap) args s1 (.error e) u) s1 := by
  obtain ⟨T, D, f, fd, d, hb⟩ := F
  have e := hmg.symm.trans d.g
  cases e
  exact law_end (t := 385) hn (by decide) (k := 7) ⟨rfl, by decide, by decide⟩ G KX ht hg hpre hwl ⟨fd, hb, fun base _ _ => all_ok_law T D d⟩ fun H a ns hS => ⟨a, ns, rfl, hS, fun _ => rfl⟩
end KP
open PySem PySem.W PySem.W.X PySem.W.ZRun PyProof.Rows
set_option maxHeartbeats 0 in
theorem PySem.Challenge.cw_lightmark_k03_whole_sorts_of_any_rows_holds : PySem.Challenge.rw_lightmark_k03_whole_sorts_of_any_rows.Holds := by
  w_on; o_law; z_head; (case hw => w_witness2)
  k_fill
  intro w s₀ s₁ mg mb G y fa o pm cd doc dV kV ho hd hcd hD hmg hg args vals as L hpre hlay hrd hwl hlo
  z_open y L KX ZH ZN ZT
  have htk : 385 ≤ s₁.toks := by
    obtain ⟨a, vs, ns, rfl, rfl, _, _, _⟩ := Att.script_of (l := PySem.Challenge.rw_lightmark_k03_whole_sorts_of_any_rows) (n := 63) rfl hpre hwl
    exact script_toks (ns := ns) (by rw [KP.ofPy_ints]; exact L) ZT
  refine KP.all_end (l := PySem.Challenge.rw_lightmark_k03_whole_sorts_of_any_rows) rfl G KX htk hg hpre hwl hmg ?_
  have GG := G.T.g
  clear hmg ho hd hcd hD L hpre hlay hrd hwl hlo ZH hg htk ZN ZT G
  refine ⟨?_, ?_, ?_⟩
  · constructor
    case len => exact mg_none_of KX GG (by k_is)
    case all => exact mg_none_of KX GG (by k_is)
    case isi => exact mg_none_of KX GG (by k_is)
    case str => exact mg_none_of KX GG (by k_is)
    case tup => exact mg_none_of KX GG (by k_is)
    case bool => exact mg_none_of KX GG (by k_is)
    case rng => exact mg_none_of KX GG (by k_is)
    case enu => exact mg_none_of KX GG (by k_is)
    case lts => have h := mg_of KX GG (n := "LETTERS") (by k_is); exact ⟨_, h⟩
    case most => have h := mg_of KX GG (n := "MOST_LETTERS") (by k_is); exact ⟨_, h⟩
    case bar => have h := mg_of KX GG (n := "BAR") (by k_is); exact ⟨_, h, by decide, by decide⟩
    case slash => have h := mg_of KX GG (n := "SLASH") (by k_is); exact ⟨_, h⟩
    case fen => have h := mg_of KX GG (n := "FENCE") (by k_is); exact ⟨_, h⟩
    case lvl => have h := mg_of KX GG (n := "MOST_LEVEL") (by k_is); exact ⟨_, h⟩
  · constructor
    case isName => refine' ⟨_, _, KP.df_mk KX GG ?a ?l ?c ?k fun _ _ _ _ _ _ us hl => match us, hl with | [_], _ => rfl⟩; (case a => k_is); (case l => k_is); (case c => k_is); (case k => k_is)
    case words => refine' ⟨_, _, KP.df_mk KX GG ?a ?l ?c ?k fun _ _ _ _ _ _ us hl => match us, hl with | [_], _ => rfl⟩; (case a => k_is); (case l => k_is); (case c => k_is); (case k => k_is)
    case tidy => refine' ⟨_, _, KP.df_mk KX GG ?a ?l ?c ?k fun _ _ _ _ _ _ us hl => match us, hl with | [_], _ => rfl⟩; (case a => k_is); (case l => k_is); (case c => k_is); (case k => k_is)
    case split => refine' ⟨_, _, KP.df_mk KX GG ?a ?l ?c ?k fun _ _ _ _ _ _ us hl => match us, hl with | [_], _ => rfl⟩; (case a => k_is); (case l => k_is); (case c => k_is); (case k => k_is)
    case head => refine' ⟨_, _, KP.df_mk KX GG ?a ?l ?c ?k fun _ _ _ _ _ _ us hl => match us, hl with | [_], _ => rfl⟩; (case a => k_is); (case l => k_is); (case c => k_is); (case k => k_is)
    case cells => refine' ⟨_, _, KP.df_mk KX GG ?a ?l ?c ?k fun _ _ _ _ _ _ us hl => match us, hl with | [_], _ => rfl⟩; (case a => k_is); (case l => k_is); (case c => k_is); (case k => k_is)
    case named => refine' ⟨_, _, KP.df_mk KX GG ?a ?l ?c ?k fun _ _ _ _ _ _ us hl => match us, hl with | [_], _ => rfl⟩; (case a => k_is); (case l => k_is); (case c => k_is); (case k => k_is)
    case flush => refine' ⟨_, _, KP.df_mk KX GG ?a ?l ?c ?k fun _ _ _ _ _ _ us hl => match us, hl with | [_, _], _ => rfl⟩; (case a => k_is); (case l => k_is); (case c => k_is); (case k => k_is)
    case sort => refine' ⟨_, _, KP.df_mk KX GG ?a ?l ?c ?k fun _ _ _ _ _ _ us hl => match us, hl with | [_], _ => rfl⟩; (case a => k_is); (case l => k_is); (case c => k_is); (case k => k_is)
    case mixed => refine' ⟨_, _, KP.df_mk KX GG ?a ?l ?c ?k fun _ _ _ _ _ _ us hl => match us, hl with | [_, _], _ => rfl⟩; (case a => k_is); (case l => k_is); (case c => k_is); (case k => k_is)
    case signs => refine' ⟨_, _, KP.df_mk KX GG ?a ?l ?c ?k fun _ _ _ _ _ _ us hl => match us, hl with | [], _ => rfl⟩; (case a => k_is); (case l => k_is); (case c => k_is); (case k => k_is)
    case row => refine' ⟨_, _, KP.df_mk KX GG ?a ?l ?c ?k fun _ _ _ _ _ _ us hl => match us, hl with | [_], _ => rfl⟩; (case a => k_is); (case l => k_is); (case c => k_is); (case k => k_is)
    case lwords => refine' ⟨_, _, KP.df_mk KX GG ?a ?l ?c ?k fun _ _ _ _ _ _ us hl => match us, hl with | [_], _ => rfl⟩; (case a => k_is); (case l => k_is); (case c => k_is); (case k => k_is)
    case ltidy => refine' ⟨_, _, KP.df_mk KX GG ?a ?l ?c ?k fun _ _ _ _ _ _ us hl => match us, hl with | [_], _ => rfl⟩; (case a => k_is); (case l => k_is); (case c => k_is); (case k => k_is)
    case lbounds => refine' ⟨_, _, KP.df_mk KX GG ?a ?l ?c ?k fun _ _ _ _ _ _ us hl => match us, hl with | [_], _ => rfl⟩; (case a => k_is); (case l => k_is); (case c => k_is); (case k => k_is)
    case lcells => refine' ⟨_, _, KP.df_mk KX GG ?a ?l ?c ?k fun _ _ _ _ _ _ us hl => match us, hl with | [_], _ => rfl⟩; (case a => k_is); (case l => k_is); (case c => k_is); (case k => k_is)
    case lname => refine' ⟨_, _, KP.df_mk KX GG ?a ?l ?c ?k fun _ _ _ _ _ _ us hl => match us, hl with | [_], _ => rfl⟩; (case a => k_is); (case l => k_is); (case c => k_is); (case k => k_is)
    case lnamed => refine' ⟨_, _, KP.df_mk KX GG ?a ?l ?c ?k fun _ _ _ _ _ _ us hl => match us, hl with | [_], _ => rfl⟩; (case a => k_is); (case l => k_is); (case c => k_is); (case k => k_is)
    case lflush => refine' ⟨_, _, KP.df_mk KX GG ?a ?l ?c ?k fun _ _ _ _ _ _ us hl => match us, hl with | [_, _], _ => rfl⟩; (case a => k_is); (case l => k_is); (case c => k_is); (case k => k_is)
    case ldue => refine' ⟨_, _, KP.df_mk KX GG ?a ?l ?c ?k fun _ _ _ _ _ _ us hl => match us, hl with | [_], _ => rfl⟩; (case a => k_is); (case l => k_is); (case c => k_is); (case k => k_is)
  · refine' ⟨_, _, KP.df_mk KX GG ?a ?l ?c ?k fun _ _ _ _ _ _ us hl => match us, hl with | [_], _ => rfl, fun u v => .of_eq rfl⟩; (case a => k_is); (case l => k_is); (case c => k_is); (case k => k_is)
