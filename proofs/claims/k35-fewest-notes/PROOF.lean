import PyProof.Rows.All
import Wide.All
import OpenK.AllK
import Wide.FinOn
import HandS.ForMost
import HandS.SetBool
import PyProof.Rows.SortShellAny
import HandS.DictComp
import HandS.TupLe
import HandS.IsInst
import HandS.Codes
import HandS.Conv
import HandS.TupAny
import HandS.Star
import HandS.More
import HandS.SortKw
import HandS.Zip0
import HandS.Iter
import HandS.Walk
import PyProof.EnumMake
import PyProof.EnumIter
import PyProof.EnumFor
import PyProof.EnumStmt
import HandS.Defaults
import PySem.Challenge.RW_hearthdue_k35_fewest_notes
set_option linter.all false
/-! plain mathematics: words, their order, the search by breadth -/
namespace Bfs
section
variable {α κ : Type} [DecidableEq α] [DecidableEq κ]

/-- the order of words of one length; and of any words, by letters -/
def wlt (lt : κ → κ → Bool) : List κ → List κ → Bool
  | [], [] => false
  | [], _ :: _ => true
  | _ :: _, [] => false
  | x :: xs, y :: ys => if x = y then wlt lt xs ys else lt x y
/-- shorter first, then by letters -/
def klt (lt : κ → κ → Bool) (u v : List κ) : Bool := if u.length = v.length then wlt lt u v else decide (u.length < v.length)
def kle (lt : κ → κ → Bool) (u v : List κ) : Bool := klt lt u v || decide (u = v)

structure Ord (lt : κ → κ → Bool) : Prop where
  irr : ∀ x, lt x x = false
  tr : ∀ x y z, lt x y = true → lt y z = true → lt x z = true
  tot : ∀ x y, x ≠ y → lt x y = true ∨ lt y x = true

variable {lt : κ → κ → Bool}

theorem wlt_cons {x y : κ} {xs ys : List κ} : wlt lt (x :: xs) (y :: ys) = if x = y then wlt lt xs ys else lt x y := rfl

theorem wlt_irr (o : Ord lt) : ∀ u : List κ, wlt lt u u = false
  | [] => rfl
  | x :: xs => by rw [wlt_cons, if_pos rfl]; exact wlt_irr o xs

theorem wlt_tr (o : Ord lt) : ∀ u v w : List κ, wlt lt u v = true → wlt lt v w = true → wlt lt u w = true
  | [], [], _, h, _ => by simp [wlt] at h
  | [], _ :: _, [], _, h => by simp [wlt] at h
  | [], _ :: _, _ :: _, _, _ => rfl
  | _ :: _, [], _, h, _ => by simp [wlt] at h
  | _ :: _, _ :: _, [], _, h => by simp [wlt] at h
  | x :: xs, y :: ys, z :: zs, h1, h2 => by
    rw [wlt_cons] at h1 h2 ⊢
    by_cases e1 : x = y
    · rw [if_pos e1] at h1
      by_cases e2 : y = z
      · rw [if_pos e2] at h2
        rw [if_pos (e1.trans e2)]
        exact wlt_tr o xs ys zs h1 h2
      · rw [if_neg e2] at h2
        rw [e1, if_neg e2]
        exact h2
    · rw [if_neg e1] at h1
      by_cases e2 : y = z
      · rw [← e2, if_neg e1]
        exact h1
      · rw [if_neg e2] at h2
        have h3 := o.tr _ _ _ h1 h2
        have e3 : x ≠ z := fun q => by rw [q, o.irr] at h3; cases h3
        rw [if_neg e3]
        exact h3

theorem wlt_snoc (a b : κ) : ∀ u v : List κ, u.length = v.length → wlt lt u v = true → wlt lt (u ++ [a]) (v ++ [b]) = true
  | [], [], _, h => by simp [wlt] at h
  | [], _ :: _, e, _ => by simp at e
  | _ :: _, [], e, _ => by simp at e
  | x :: xs, y :: ys, e, h => by
    rw [wlt_cons] at h
    rw [List.cons_append, List.cons_append, wlt_cons]
    by_cases q : x = y
    · rw [if_pos q] at h ⊢
      exact wlt_snoc a b xs ys (by simpa using e) h
    · rw [if_neg q] at h ⊢
      exact h
theorem wlt_last (o : Ord lt) {a b : κ} (h : lt a b = true) : ∀ u : List κ, wlt lt (u ++ [a]) (u ++ [b]) = true
  | [] => by
    have e : a ≠ b := fun q => by rw [q, o.irr] at h; cases h
    show (if a = b then _ else lt a b) = true
    rw [if_neg e]
    exact h
  | x :: xs => by
    rw [List.cons_append, List.cons_append, wlt_cons, if_pos rfl]
    exact wlt_last o h xs

theorem klt_irr (o : Ord lt) (u : List κ) : klt lt u u = false := by
  unfold klt
  rw [if_pos rfl]
  exact wlt_irr o u
theorem klt_len {u v : List κ} (h : klt lt u v = true) : u.length ≤ v.length := by
  unfold klt at h
  split at h
  · omega
  · have := of_decide_eq_true h
    omega
theorem klt_tr (o : Ord lt) {u v w : List κ} (h1 : klt lt u v = true) (h2 : klt lt v w = true) : klt lt u w = true := by
  have l1 := klt_len h1
  have l2 := klt_len h2
  unfold klt at h1 h2 ⊢
  by_cases e1 : u.length = v.length
  · rw [if_pos e1] at h1
    by_cases e2 : v.length = w.length
    · rw [if_pos e2] at h2
      rw [if_pos (e1.trans e2)]
      exact wlt_tr o u v w h1 h2
    · rw [if_neg e2] at h2
      have := of_decide_eq_true h2
      rw [if_neg (by omega)]
      exact decide_eq_true (by omega)
  · rw [if_neg e1] at h1
    have := of_decide_eq_true h1
    rw [if_neg (by omega)]
    exact decide_eq_true (by omega)
theorem klt_snoc {a b : κ} {u v : List κ} (h : klt lt u v = true) : klt lt (u ++ [a]) (v ++ [b]) = true := by
  unfold klt at h ⊢
  rw [List.length_append, List.length_append, List.length_singleton, List.length_singleton]
  by_cases e : u.length = v.length
  · rw [if_pos e] at h
    rw [if_pos (by omega)]
    exact wlt_snoc a b u v e h
  · rw [if_neg e] at h
    have := of_decide_eq_true h
    rw [if_neg (by omega)]
    exact decide_eq_true (by omega)
theorem klt_last (o : Ord lt) {a b : κ} (h : lt a b = true) (u : List κ) : klt lt (u ++ [a]) (u ++ [b]) = true := by
  unfold klt
  rw [if_pos (by simp)]
  exact wlt_last o h u
theorem klt_nil {u : List κ} {a : κ} : klt lt [] (u ++ [a]) = true := by
  unfold klt
  rw [if_neg (by simp)]
  simp
theorem kle_refl (u : List κ) : kle lt u u = true := by simp [kle]
theorem kle_of {u v : List κ} (h : klt lt u v = true) : kle lt u v = true := by simp [kle, h]
theorem kle_cases {u v : List κ} (h : kle lt u v = true) : klt lt u v = true ∨ u = v := by
  unfold kle at h
  rcases Bool.or_eq_true _ _ |>.mp h with q | q
  · exact .inl q
  · exact .inr (of_decide_eq_true q)
theorem kle_tr (o : Ord lt) {u v w : List κ} (h1 : kle lt u v = true) (h2 : kle lt v w = true) : kle lt u w = true := by
  rcases kle_cases h1 with a | rfl
  · rcases kle_cases h2 with b | rfl
    · exact kle_of (klt_tr o a b)
    · exact kle_of a
  · exact h2
theorem kle_snoc {u v : List κ} (a : κ) (h : kle lt u v = true) : kle lt (u ++ [a]) (v ++ [a]) = true := by
  rcases kle_cases h with q | rfl
  · exact kle_of (klt_snoc q)
  · exact kle_refl _

/-- the way of a word -/
def run (step : α → κ → α) : α → List κ → α
  | s, [] => s
  | s, c :: r => run step (step s c) r
theorem run_nil (step : α → κ → α) (s : α) : run step s [] = s := rfl
theorem run_snoc (step : α → κ → α) (c : κ) : ∀ (w : List κ) (s : α), run step s (w ++ [c]) = step (run step s w) c
  | [], _ => rfl
  | d :: r, s => run_snoc step c r (step s d)
theorem run_append (step : α → κ → α) (v : List κ) : ∀ (w : List κ) (s : α), run step s (w ++ v) = run step (run step s w) v
  | [], _ => rfl
  | d :: r, s => run_append step v r (step s d)

/-! ### the search as the program does it -/
variable (step : α → κ → α) (causes : List κ)
/-- one cause tried from the status s with the word w -/
def try1 (s : α) (w : List κ) (F : List (α × List κ)) (c : κ) : List (α × List κ) :=
  if step s c ∈ F.map (·.1) then F else F ++ [(step s c, w ++ [c])]
def row (s : α) (w : List κ) (F : List (α × List κ)) : List (α × List κ) := causes.foldl (try1 step s w) F
def search : Nat → Nat → List (α × List κ) → List (α × List κ)
  | 0, _, F => F
  | n + 1, at', F => match F[at']? with
    | none => F
    | some (s, w) => search n (at' + 1) (row step causes s w F)

structure BInv (lt : κ → κ → Bool) (S : List α) (start : α) (at' : Nat) (pre : List κ) (F : List (α × List κ)) : Prop where
  head : F[0]? = some (start, [])
  nodup : (F.map (·.1)).Nodup
  sub : ∀ p ∈ F, p.1 ∈ S
  way : ∀ p ∈ F, run step start p.2 = p.1 ∧ ∀ c ∈ p.2, c ∈ causes
  sorted : F.Pairwise (fun p q => klt lt p.2 q.2 = true)
  closed : ∀ (j : Nat) (p : α × List κ) (c : κ), F[j]? = some p → c ∈ causes → (j < at' ∨ (j = at' ∧ c ∈ pre)) → ∃ w, (step p.1 c, w) ∈ F ∧ kle lt w (p.2 ++ [c]) = true
  par : ∀ p ∈ F, p.2 = [] ∨ ∃ (j : Nat) (q : α × List κ) (c : κ), F[j]? = some q ∧ c ∈ causes ∧ p.2 = q.2 ++ [c] ∧ (j < at' ∨ (j = at' ∧ c ∈ pre))
  le : at' ≤ F.length

variable {step causes}
variable {S : List α} {start : α}

theorem BInv.lenS {at' : Nat} {pre : List κ} {F : List (α × List κ)} (I : BInv step causes lt S start at' pre F) : F.length ≤ S.length := by
  have h : (F.map (·.1)) ⊆ S := fun x hx => by
    obtain ⟨p, hp, rfl⟩ := List.mem_map.mp hx
    exact I.sub p hp
  have := I.nodup.length_le_of_subset h
  simpa using this

theorem BInv.begin (hs : start ∈ S) : BInv step causes lt S start 0 [] [(start, [])] where
  head := rfl
  nodup := by simp
  sub := fun p hp => by
    have e : p = (start, []) := by simpa using hp
    rw [e]; exact hs
  way := fun p hp => by
    have e : p = (start, []) := by simpa using hp
    subst e
    exact ⟨rfl, fun c hc => nomatch hc⟩
  sorted := by simp
  closed := fun j p c _ _ h => by
    rcases h with h | ⟨_, h⟩
    · omega
    · nomatch h
  par := fun p hp => by
    have e : p = (start, []) := by simpa using hp
    subst e
    exact .inl rfl
  le := by simp

theorem getElem?_snoc_lt {β : Type} {F : List β} {x p : β} {j : Nat} (h : F[j]? = some p) : (F ++ [x])[j]? = some p := by
  have := (List.getElem?_eq_some_iff.mp h).1
  rw [List.getElem?_append_left this]
  exact h
theorem getElem?_snoc_inv {β : Type} {F : List β} {x p : β} {j : Nat} (h : (F ++ [x])[j]? = some p) : F[j]? = some p ∨ (j = F.length ∧ p = x) := by
  rcases Nat.lt_trichotomy j F.length with q | q | q
  · rw [List.getElem?_append_left q] at h
    exact .inl h
  · subst q
    rw [List.getElem?_append_right (Nat.le_refl _)] at h
    simp at h
    exact .inr ⟨rfl, h.symm⟩
  · rw [List.getElem?_eq_none (by rw [List.length_append, List.length_singleton]; omega)] at h
    cases h

theorem BInv.try1 (o : Ord lt) {at' : Nat} {pre : List κ} {F : List (α × List κ)} {s : α} {w : List κ} {c : κ} (I : BInv step causes lt S start at' pre F) (hF : F[at']? = some (s, w)) (hc : c ∈ causes) (hpre : ∀ d ∈ pre, lt d c = true) (hS : step s c ∈ S) :
    BInv step causes lt S start at' (pre ++ [c]) (Bfs.try1 step s w F c) ∧ (Bfs.try1 step s w F c)[at']? = some (s, w) := by
  have hlt : at' < F.length := (List.getElem?_eq_some_iff.mp hF).1
  have hmem : (s, w) ∈ F := List.mem_of_getElem? hF
  -- every listed word stands ahead of the new one
  have below : ∀ p ∈ F, klt lt p.2 (w ++ [c]) = true := fun p hp => by
    rcases I.par p hp with e | ⟨j, q, d, hq, _, e, hj⟩
    · rw [e]; exact klt_nil
    · rw [e]
      rcases hj with hj | ⟨hj, hd⟩
      · have h1 : klt lt q.2 w = true := by
          have hjl : j < F.length := (List.getElem?_eq_some_iff.mp hq).1
          have := List.pairwise_iff_getElem.mp I.sorted j at' hjl hlt hj
          rw [(List.getElem?_eq_some_iff.mp hq).2, (List.getElem?_eq_some_iff.mp hF).2] at this
          exact this
        exact klt_snoc h1
      · subst hj
        rw [hF] at hq
        cases hq
        exact klt_last o (hpre d hd) _
  have weak : ∀ {j : Nat} {d : κ}, (j < at' ∨ (j = at' ∧ d ∈ pre)) → (j < at' ∨ (j = at' ∧ d ∈ pre ++ [c])) := fun h => h.imp id fun h => ⟨h.1, List.mem_append_left _ h.2⟩
  unfold Bfs.try1
  split
  · rename_i hin
    obtain ⟨⟨s', w'⟩, hp, he⟩ := List.mem_map.mp hin
    refine ⟨⟨I.head, I.nodup, I.sub, I.way, I.sorted, fun j p d hj hd h => ?_, fun p hp => ?_, I.le⟩, hF⟩
    · rcases h with h | ⟨h, h2⟩
      · exact I.closed j p d hj hd (.inl h)
      · rcases List.mem_append.mp h2 with h2 | h2
        · exact I.closed j p d hj hd (.inr ⟨h, h2⟩)
        · have e : d = c := by simpa using h2
          subst e
          subst h
          rw [hF] at hj
          cases hj
          refine ⟨w', ?_, kle_of (below _ hp)⟩
          rw [← he]
          exact hp
    · rcases I.par p hp with e | ⟨j, q, d, h1, h2, h3, h4⟩
      · exact .inl e
      · exact .inr ⟨j, q, d, h1, h2, h3, weak h4⟩
  · rename_i hin
    refine ⟨⟨?_, ?_, fun p hp => ?_, fun p hp => ?_, ?_, fun j p d hj hd h => ?_, fun p hp => ?_, ?_⟩, getElem?_snoc_lt hF⟩
    · exact getElem?_snoc_lt I.head
    · rw [List.map_append, List.map_singleton]
      rw [List.nodup_append]
      refine ⟨I.nodup, by simp, fun a ha b hb => ?_⟩
      have e : b = step s c := by simpa using hb
      rw [e]
      exact fun q => hin (q ▸ ha)
    · rcases List.mem_append.mp hp with hp | hp
      · exact I.sub p hp
      · have e : p = (step s c, w ++ [c]) := by simpa using hp
        rw [e]; exact hS
    · rcases List.mem_append.mp hp with hp | hp
      · exact I.way p hp
      · have e : p = (step s c, w ++ [c]) := by simpa using hp
        subst e
        obtain ⟨h1, h2⟩ := I.way _ hmem
        have h1 : run step start w = s := h1
        refine ⟨?_, fun d hd => ?_⟩
        · show run step start (w ++ [c]) = step s c
          rw [run_snoc, h1]
        · rcases List.mem_append.mp hd with hd | hd
          · exact h2 d hd
          · have e : d = c := by simpa using hd
            rw [e]; exact hc
    · rw [List.pairwise_append]
      refine ⟨I.sorted, by simp, fun p hp q hq => ?_⟩
      have e : q = (step s c, w ++ [c]) := by simpa using hq
      rw [e]
      exact below p hp
    · have old : F[j]? = some p → ∃ w', (step p.1 d, w') ∈ F ++ [(step s c, w ++ [c])] ∧ kle lt w' (p.2 ++ [d]) = true := fun hj => by
        by_cases hdc : j = at' ∧ d = c
        · obtain ⟨e1, e2⟩ := hdc
          rw [e1, hF] at hj
          cases hj
          rw [e2]
          exact ⟨w ++ [c], List.mem_append_right _ (by simp), kle_refl _⟩
        · have : j < at' ∨ (j = at' ∧ d ∈ pre) := by
            rcases h with h | ⟨h, h2⟩
            · exact .inl h
            · rcases List.mem_append.mp h2 with h2 | h2
              · exact .inr ⟨h, h2⟩
              · exact (hdc ⟨h, by simpa using h2⟩).elim
          obtain ⟨w', h1, h2⟩ := I.closed j p d hj hd this
          exact ⟨w', List.mem_append_left _ h1, h2⟩
      rcases getElem?_snoc_inv hj with hj | ⟨hj, hp⟩
      · exact old hj
      · omega
    · rcases List.mem_append.mp hp with hp | hp
      · rcases I.par p hp with e | ⟨j, q, d, h1, h2, h3, h4⟩
        · exact .inl e
        · exact .inr ⟨j, q, d, getElem?_snoc_lt h1, h2, h3, weak h4⟩
      · have e : p = (step s c, w ++ [c]) := by simpa using hp
        subst e
        exact .inr ⟨at', (s, w), c, getElem?_snoc_lt hF, hc, rfl, .inr ⟨rfl, List.mem_append_right _ (by simp)⟩⟩
    · rw [List.length_append]
      have := I.le
      omega

/-- all causes of a row -/
theorem BInv.fold (o : Ord lt) {at' : Nat} {s : α} {w : List κ} (hS : ∀ c ∈ causes, step s c ∈ S) : ∀ (post pre : List κ) (F : List (α × List κ)), causes = pre ++ post → causes.Pairwise (fun a b => lt a b = true) → BInv step causes lt S start at' pre F → F[at']? = some (s, w) →
    BInv step causes lt S start at' causes (post.foldl (Bfs.try1 step s w) F) ∧ (post.foldl (Bfs.try1 step s w) F)[at']? = some (s, w)
  | [], pre, F, e, _, I, hF => by
    have e' : causes = pre := by rw [e, List.append_nil]
    rw [← e'] at I
    exact ⟨I, hF⟩
  | c :: post, pre, F, e, hp, I, hF => by
    have hc : c ∈ causes := by rw [e]; simp
    have hpre : ∀ d ∈ pre, lt d c = true := fun d hd => by
      rw [e, List.pairwise_append] at hp
      exact hp.2.2 d hd c (by simp)
    obtain ⟨I', hF'⟩ := I.try1 o hF hc hpre (hS c hc)
    exact BInv.fold o hS post (pre ++ [c]) _ (by rw [e]; simp) hp I' hF'
theorem BInv.next (o : Ord lt) {at' : Nat} {F : List (α × List κ)} (I : BInv step causes lt S start at' causes F) (h : at' < F.length) : BInv step causes lt S start (at' + 1) [] F := by
  refine ⟨I.head, I.nodup, I.sub, I.way, I.sorted, fun j p c hj hc hh => I.closed j p c hj hc ?_, fun p hp => ?_, h⟩
  · rcases hh with q | ⟨_, q⟩
    · rcases Nat.lt_or_ge j at' with r | r
      · exact .inl r
      · exact .inr ⟨by omega, hc⟩
    · nomatch q
  · rcases I.par p hp with e | ⟨j, q, c, h1, h2, h3, h4⟩
    · exact .inl e
    · refine .inr ⟨j, q, c, h1, h2, h3, .inl ?_⟩
      rcases h4 with r | ⟨r, _⟩ <;> omega
theorem BInv.row (o : Ord lt) {at' : Nat} {s : α} {w : List κ} {F : List (α × List κ)} (I : BInv step causes lt S start at' [] F) (hF : F[at']? = some (s, w)) (hS : ∀ c ∈ causes, step s c ∈ S) (hp : causes.Pairwise (fun a b => lt a b = true)) :
    BInv step causes lt S start (at' + 1) [] (Bfs.row step causes s w F) := by
  obtain ⟨I1, h1⟩ := BInv.fold o hS causes [] F rfl hp I hF
  exact BInv.next o I1 (List.getElem?_eq_some_iff.mp h1).1

/-- what the search finds -/
structure Found (step : α → κ → α) (causes : List κ) (lt : κ → κ → Bool) (S : List α) (start : α) (F : List (α × List κ)) : Prop where
  head : F[0]? = some (start, [])
  nodup : (F.map (·.1)).Nodup
  sub : ∀ p ∈ F, p.1 ∈ S
  way : ∀ p ∈ F, run step start p.2 = p.1 ∧ ∀ c ∈ p.2, c ∈ causes
  sorted : F.Pairwise (fun p q => klt lt p.2 q.2 = true)
  closed : ∀ p ∈ F, ∀ c ∈ causes, ∃ w, (step p.1 c, w) ∈ F ∧ kle lt w (p.2 ++ [c]) = true
  lens : ∀ p ∈ F, p.2.length < F.length

theorem BInv.search (o : Ord lt) (hS : ∀ s ∈ S, ∀ c ∈ causes, step s c ∈ S) (hp : causes.Pairwise (fun a b => lt a b = true)) : ∀ (n at' : Nat) (F : List (α × List κ)), BInv step causes lt S start at' [] F → S.length ≤ n + at' →
    ∃ at2, BInv step causes lt S start at2 [] (Bfs.search step causes n at' F) ∧ (Bfs.search step causes n at' F).length = at2
  | 0, at', F, I, hn => by
    have h1 := I.le
    have h2 := I.lenS
    exact ⟨at', I, show F.length = at' by omega⟩
  | n + 1, at', F, I, hn => by
    show ∃ at2, BInv step causes lt S start at2 [] (match F[at']? with | none => F | some (s, w) => Bfs.search step causes n (at' + 1) (Bfs.row step causes s w F)) ∧ _
    cases e : F[at']? with
    | none =>
      have h1 := I.le
      have h2 := List.getElem?_eq_none_iff.mp e
      refine ⟨at', I, ?_⟩
      show (match F[at']? with | none => F | some (s, w) => Bfs.search step causes n (at' + 1) (Bfs.row step causes s w F)).length = at'
      rw [e]
      show F.length = at'
      omega
    | some p =>
      obtain ⟨s, w⟩ := p
      have I' := I.row o e (hS s (I.sub _ (List.mem_of_getElem? e))) hp
      obtain ⟨at2, h1, h2⟩ := BInv.search o hS hp n (at' + 1) _ I' (by omega)
      refine ⟨at2, h1, ?_⟩
      show (match F[at']? with | none => F | some (s, w) => Bfs.search step causes n (at' + 1) (Bfs.row step causes s w F)).length = at2
      rw [e]
      exact h2

/-- words are no longer than their place -/
theorem lens_of {F : List (α × List κ)} (hs : F.Pairwise (fun p q => klt lt p.2 q.2 = true)) (hpar : ∀ p ∈ F, p.2 = [] ∨ ∃ (q : α × List κ) (c : κ), q ∈ F ∧ p.2 = q.2 ++ [c]) (o : Ord lt) : ∀ (j : Nat) (p : α × List κ), F[j]? = some p → p.2.length ≤ j := by
  intro j
  induction j using Nat.strongRecOn with
  | _ j ih =>
    intro p hj
    rcases hpar p (List.mem_of_getElem? hj) with e | ⟨q, c, hq, e⟩
    · rw [e]; exact Nat.zero_le _
    · obtain ⟨i, hi, hqi⟩ := List.getElem_of_mem hq
      have hj' := (List.getElem?_eq_some_iff.mp hj)
      have hij : i < j := by
        rcases Nat.lt_trichotomy i j with r | r | r
        · exact r
        · subst r
          have : q = p := by rw [← hqi, ← hj'.2]
          rw [this] at e
          have := congrArg List.length e
          simp at this
        · have := List.pairwise_iff_getElem.mp hs j i hj'.1 hi r
          rw [hj'.2, hqi, e] at this
          have := klt_len this
          simp at this
          omega
      have := ih i hij q (by rw [List.getElem?_eq_getElem hi, hqi])
      rw [e, List.length_append, List.length_singleton]
      omega

theorem found (o : Ord lt) (hs : start ∈ S) (hS : ∀ s ∈ S, ∀ c ∈ causes, step s c ∈ S) (hp : causes.Pairwise (fun a b => lt a b = true)) (n : Nat) (hn : S.length ≤ n) : Found step causes lt S start (search step causes n 0 [(start, [])]) := by
  obtain ⟨at2, I, e⟩ := BInv.search o hS hp n 0 _ (BInv.begin hs) (by omega)
  refine ⟨I.head, I.nodup, I.sub, I.way, I.sorted, fun p hp c hc => ?_, fun p hp => ?_⟩
  · obtain ⟨j, hj, rfl⟩ := List.getElem_of_mem hp
    exact I.closed j _ c (List.getElem?_eq_getElem hj) hc (.inl (by omega))
  · obtain ⟨j, hj, rfl⟩ := List.getElem_of_mem hp
    have := lens_of I.sorted (fun p hp => (I.par p hp).imp id fun ⟨j, q, c, h1, _, h3, _⟩ => ⟨q, c, List.mem_of_getElem? h1, h3⟩) o j _ (List.getElem?_eq_getElem hj)
    omega

/-- each word's end is listed, with a word that comes no later -/
theorem Found.any {F : List (α × List κ)} (f : Found step causes lt S start F) (o : Ord lt) (u : List κ) : (∀ c ∈ u, c ∈ causes) → ∃ w, (run step start u, w) ∈ F ∧ kle lt w u = true := by
  suffices h : ∀ (n : Nat) (u : List κ), u.length = n → (∀ c ∈ u, c ∈ causes) → ∃ w, (run step start u, w) ∈ F ∧ kle lt w u = true from h _ u rfl
  intro n
  induction n with
  | zero =>
    intro u e _
    have : u = [] := List.eq_nil_of_length_eq_zero e
    subst this
    exact ⟨[], List.mem_of_getElem? f.head, kle_refl _⟩
  | succ n ih =>
    intro u e hu
    obtain ⟨v, c, rfl⟩ : ∃ v c, u = v ++ [c] := ⟨u.dropLast, u.getLast (by intro q; rw [q] at e; simp at e), (List.dropLast_concat_getLast _).symm⟩
    obtain ⟨w, h1, h2⟩ := ih v (by simpa using e) (fun d hd => hu d (List.mem_append_left _ hd))
    obtain ⟨w2, h3, h4⟩ := f.closed _ h1 c (hu c (by simp))
    refine ⟨w2, ?_, kle_tr o h4 (kle_snoc c h2)⟩
    rw [run_snoc]
    exact h3
end
end Bfs

set_option Elab.async false
set_option linter.all false
set_option maxRecDepth 100000
set_option maxHeartbeats 4000000
/-! sets of texts that can be walked: their comprehension, sorted of one (after the layer's sets of truth values and of ints) -/
namespace SSt
open PySem PySem.Spec PyProof.Rows L2 PpSet
def keyS (e : Int × Value) : Str := match e.2 with | .str k _ => k | _ => Str.empty
def GoodS (w : World) (e : Int × Value) : Prop := ∃ k tk, e.2 = Value.str k tk ∧ e.1 = hashStr w k
/-- the set of texts at a: S its members, n their number; it can be walked -/
def SetS (w : World) (h : Heap) (a : Addr) (S : Str → Bool) (n : Nat) : Prop :=
  ∃ o es ep t, h.get? a = some o ∧ o.ExactSet ∧ o.data = .set es ep t ∧ (∀ e ∈ es.toList, GoodS w e) ∧ (es.toList.map keyS).Nodup ∧ (∀ k, S k = true ↔ k ∈ es.toList.map keyS) ∧
    es.size < scanBound ∧ t.fits es.size = true ∧ es.size = n ∧ Ris t.place.toList ∧ (w.params.followText "set-order" = true ∨ t.led = true)

section
variable {P : Program} {w : World} {h h' : Heap} {a : Addr} {S : Str → Bool} {n : Nat}

theorem SetS.at (R : SetS w h a S n) (k : ∀ o, h.get? a = some o → h'.get? a = some o) : SetS w h' a S n := by
  obtain ⟨o, es, ep, t, ho, r⟩ := R
  exact ⟨o, es, ep, t, k o ho, r⟩
theorem SetS.lt (R : SetS w h a S n) : a < h.objs.size := by
  obtain ⟨o, es, ep, t, ho, r⟩ := R
  exact Heap.lt_size ho
theorem SetS.congr {S' : Str → Bool} (R : SetS w h a S n) (e : ∀ k, S' k = S k) : SetS w h a S' n := by
  have q : S' = S := funext e
  rw [q]; exact R
theorem goodS_elems {l : List (Int × Value)} (g : ∀ e ∈ l, GoodS w e) : ElemsOf (PySem.strKind P w) l := fun e he => by
  obtain ⟨k, tk, h1, h2⟩ := g e he
  exact ⟨⟨k, by rw [h1]; exact PySem.strKind_is P w k tk, h2⟩, by rw [h1] <;> rfl⟩
theorem goodS_is {e : Int × Value} (g : GoodS w e) (k : Str) : (PySem.strKind P w).is k e.2 = true ↔ keyS e = k := by
  obtain ⟨k0, tk, h1, _⟩ := g
  unfold keyS
  rw [h1]
  constructor
  · intro h
    obtain ⟨t, q⟩ := Value.isStrOf_shape (x := k) (v := Value.str k0 tk) h
    injection q
  · intro h
    subst h
    exact PySem.strKind_is P w _ _
theorem goodS_mem {l : List (Int × Value)} (g : ∀ e ∈ l, GoodS w e) (k : Str) : k ∈ l.map keyS ↔ ∃ e ∈ l, (PySem.strKind P w).is k e.2 = true := by
  rw [List.mem_map]
  constructor
  · rintro ⟨e, he, q⟩
    exact ⟨e, he, (goodS_is (g e he) k).2 q⟩
  · rintro ⟨e, he, q⟩
    exact ⟨e, he, (goodS_is (g e he) k).1 q⟩
theorem SetS.setOf (R : SetS w h a S n) : h.SetOf (PySem.strKind P w) a S n := by
  obtain ⟨o, es, ep, t, ho, hx, hd, g, nd, hm, hb, hf, hn, _⟩ := R
  exact ⟨o, es, ep, t, ho, hx, hd, goodS_elems g, fun k => (hm k).trans (goodS_mem g k), hb, hf, hn⟩
end

section
variable {P : Program} {w : World} {A : Around} {E : Value → Shared → Prop} {s : Shared} {a : Addr} {S : Str → Bool} {n : Nat}

/-! ### add -/
theorem setS_add_tail {g : Bool → Sem Unit} (hg : ∀ (b : Bool) (s₁ : Shared) (Q' : Unit → Shared → Prop), Q' () s₁ → wpAny (model P w) A (g b) Q' E s₁)
    {o : Obj} {es : Array (Int × Value)} {ep : Nat} {t : SetTable} (ho : s.heap.get? a = some o) (hex : o.ExactSet) (hd : o.data = .set es ep t)
    {es1 : Array (Int × Value)} {t2 : SetTable} {S' : Str → Bool} (g1 : ∀ e ∈ es1.toList, GoodS w e) (nd1 : (es1.toList.map keyS).Nodup) (m1 : ∀ k, S' k = true ↔ k ∈ es1.toList.map keyS)
    (hb1 : es1.size < scanBound) (hf2 : t2.fits es1.size = true) (hr : Ris t2.place.toList) (hl : w.params.followText "set-order" = true ∨ t2.led = true) {wasDummy : Bool} {R : Option Bool → Shared → Prop}
    (hR : ∀ h', Heap.SameBut a s.heap h' → SetS w h' a S' es1.size → R (some true) { s with heap := h' }) :
    wpAny (model P w) A (do
        storeSet a es1 t2
        if (!wasDummy && t2.tooFull) = true then do
            g (relayAll t2 es1 (SetTable.grown es1.size)).2.2
            storeSet a (relayAll t2 es1 (SetTable.grown es1.size)).1 (relayAll t2 es1 (SetTable.grown es1.size)).2.1
            pure (some true)
          else pure (some true)) R E s := by
  refine wpAny_bind (wpAny_storeSet_of ho hd ?_ (fits_of_scanBound hb1))
  have ho1 := storeB_at (es' := es1) (t' := t2) ho hd
  have sb1 := Heap.SameBut.update s.heap a (Obj.putSet es1 t2)
  split
  · have pm := relayAll_perm t2 es1 (SetTable.grown es1.size)
    have hf3 := relayAll_fits t2 es1 (SetTable.grown es1.size)
    have hr3 := relayAll_ris t2 es1 (SetTable.grown es1.size)
    have hl3 := relayAll_led t2 es1 (SetTable.grown es1.size)
    generalize relayAll t2 es1 (SetTable.grown es1.size) = Z at pm hf3 hr3 hl3 ⊢
    obtain ⟨es2, t3, gave⟩ := Z
    dsimp only at pm hf3 hr3 hl3 ⊢
    have hsz : es2.size = es1.size := by rw [← Array.length_toList, pm.length_eq, Array.length_toList]
    have hb2 : es2.size < scanBound := by rw [hsz]; exact hb1
    refine wpAny_bind (hg _ _ _ ?_)
    refine wpAny_bind (wpAny_storeSet_of ho1 rfl ?_ (fits_of_scanBound hb2))
    have ho2 := storeB_at (es' := es2) (t' := t3) ho1 rfl
    refine wpAny_pure (hR _ (sb1.trans (Heap.SameBut.update _ a _)) ?_)
    exact ⟨_, es2, _, t3, ho2, hex, rfl, fun e he => g1 e (pm.mem_iff.mp he), (pm.map keyS).nodup_iff.mpr nd1, fun k => (m1 k).trans (pm.map keyS).mem_iff.symm, hb2, hf3, hsz, hr3,
      hl.imp id fun z => by rw [hl3]; exact z⟩
  · exact wpAny_pure (hR _ sb1 ⟨_, es1, _, t2, ho1, hex, rfl, g1, nd1, m1, hb1, hf2, rfl, hr, hl⟩)

theorem setS_add_hashed {k : Str} {tk : Tok} {Q : Bool → Shared → Prop} (R : SetS w s.heap a S n) (room : n + 1 < scanBound)
    (hQ : ∀ h', Heap.SameBut a s.heap h' → SetS w h' a (fun j => S j || decide (j = k)) (if S k = true then n else n + 1) → Q (!S k) { s with heap := h' }) :
    wpAny (model P w) A (setAddHashed a (.str k tk) ((PySem.strKind P w).hash k)) Q E s := by
  obtain ⟨o, es, ep, t, ho, hex, hd, g, nd, hm, hb, hf, hn, hr, hl⟩ := R
  have hkey : (PySem.strKind P w).is k (.str k tk) = true := strKind_is P w k tk
  have hsc : (Value.str k tk).scannable = true := rfl
  have hel : ElemsOf (PySem.strKind P w) es.toList := goodS_elems g
  unfold setAddHashed setAddHashedIn
  refine wpAny_holding (wpAny_bind (wpAny_setState_of ho hd hf ?_))
  dsimp only
  rw [byScan_of hsc hb hel]
  simp only [↓reduceIte]
  unfold setAddByScan
  refine wpAny_bind ?_
  refine wpAny_bind (wpAny_rule ?_)
  refine wpAny_bind (wpAny_setScan_of hkey ho hd hf hel ?_)
  cases hfi : List.findIdx? (fun e => (PySem.strKind P w).is k e.2) es.toList with
  | some j =>
    dsimp only
    obtain ⟨hj, pj, _⟩ := List.findIdx?_eq_some_iff_getElem.mp hfi
    have hSk : S k = true := (hm k).2 ((goodS_mem (P := P) (w := w) g k).2 ⟨es.toList[j], List.getElem_mem hj, pj⟩)
    refine wpAny_pure (wpAny_pure ?_)
    have q := hQ s.heap (Heap.SameBut.refl a s.heap) ⟨o, es, ep, t, ho, hex, hd, g, nd, fun i => by
      rw [Bool.or_eq_true, decide_eq_true_eq, ← hm i]
      exact ⟨fun z => z.elim id (fun e => e ▸ hSk), .inl⟩, hb, hf, by rw [if_pos hSk]; exact hn, hr, hl⟩
    rw [hSk] at q
    exact q
  | none =>
    dsimp only
    have hnk : k ∉ es.toList.map keyS := fun z => by
      obtain ⟨e, he, q⟩ := (goodS_mem (P := P) (w := w) g k).1 z
      have c := List.findIdx?_eq_none_iff.mp hfi e he
      rw [q] at c
      cases c
    have hSk : S k = false := by
      cases q : S k with
      | false => rfl
      | true => exact absurd ((hm k).1 q) hnk
    have hgw : ∀ (b : Bool) {s₁ : Shared} {Q' : Unit → Shared → Prop}, Q' () s₁ → wpAny (model P w) A (match b with | true => rule "set.scan.the-table-gave-way" | false => pure ()) Q' E s₁ :=
      fun b s₁ Q' q => by cases b <;> first | exact wpAny_pure q | exact wpAny_rule q
    have pm := layNew_perm t es ((PySem.strKind P w).hash k) (.str k tk)
    have hf1 := layNew_fits t es ((PySem.strKind P w).hash k) (.str k tk)
    have hr1 := layNew_ris t es ((PySem.strKind P w).hash k) (.str k tk) hr
    have hl1 := layNew_led t es ((PySem.strKind P w).hash k) (.str k tk)
    generalize layNew t es ((PySem.strKind P w).hash k) (.str k tk) = Z at pm hf1 hr1 hl1 ⊢
    obtain ⟨es1, t1, wasDummy, gave⟩ := Z
    dsimp only at pm hf1 hr1 hl1 ⊢
    rw [Array.toList_push] at pm
    have pc : es1.toList.Perm (((PySem.strKind P w).hash k, Value.str k tk) :: es.toList) := pm.trans (List.perm_append_singleton _ _)
    have pk : (es1.toList.map keyS).Perm (k :: es.toList.map keyS) := pc.map keyS
    have g1 : ∀ e ∈ es1.toList, GoodS w e := fun e he => by
      rcases List.mem_cons.mp (pc.mem_iff.mp he) with z | z
      · rw [z]; exact ⟨k, tk, rfl, rfl⟩
      · exact g e z
    have nd1 : (es1.toList.map keyS).Nodup := pk.nodup_iff.mpr (List.nodup_cons.mpr ⟨hnk, nd⟩)
    have m1 : ∀ i, (S i || decide (i = k)) = true ↔ i ∈ es1.toList.map keyS := fun i => by
      rw [Bool.or_eq_true, decide_eq_true_eq, hm i, pk.mem_iff, List.mem_cons]
      exact Or.comm
    have hsz : es1.size = n + 1 := by rw [← Array.length_toList, pc.length_eq, List.length_cons, Array.length_toList, hn]
    have hb1 : es1.size < scanBound := by rw [hsz]; exact room
    have hled : w.params.followText "set-order" = true ∨ t1.led = true := hl.imp id fun z => by rw [hl1]; exact z
    have fin : ∀ h', Heap.SameBut a s.heap h' → SetS w h' a (fun j => S j || decide (j = k)) es1.size → Q true { s with heap := h' } := fun h' sb r => by
      have q := hQ h' sb
      rw [hSk] at q
      rw [hsz] at r
      exact q r
    refine wpAny_bind (hgw _ ?_)
    split
    · refine wpAny_bind ?_
      rw [hashByValue_scannable 8 hsc]
      refine wpAny_pure ?_
      refine setS_add_tail ?_ ho hex hd g1 nd1 m1 hb1 ?_ ?_ ?_ ?_
      · intro b s₁ Q' q; cases b <;> first | exact wpAny_pure q | exact wpAny_rule q
      · first | (split <;> first | exact hf1 | exact SetTable.fits_plain_off hf1) | exact hf1
      · first | (split <;> exact hr1) | exact hr1
      · first | (split <;> exact hled) | exact hled
      · intro h' sb r; dsimp only; exact wpAny_pure (fin h' sb r)
    · refine wpAny_bind (wpAny_pure ?_)
      simp only [↓reduceIte]
      refine setS_add_tail ?_ ho hex hd g1 nd1 m1 hb1 hf1 hr1 hled ?_
      · intro b s₁ Q' q; cases b <;> first | exact wpAny_pure q | exact wpAny_rule q
      · intro h' sb r; dsimp only; exact wpAny_pure (fin h' sb r)

/-- found.add(k) -/
theorem setS_add {k : Str} {tk : Tok} {Q : Value → Shared → Prop} (R : SetS w s.heap a S n) (room : n + 1 < scanBound)
    (hQ : ∀ h', Heap.SameBut a s.heap h' → SetS w h' a (fun j => S j || decide (j = k)) (if S k = true then n else n + 1) → Q .none { s with heap := h', toks := s.toks + 1 }) :
    wpAny (model P w) A (call (.builtin "set.add") [.ref a, .str k tk]) Q E s := by
  have hS : s.heap.SetOf (PySem.strKind P w) a S n := R.setOf
  refine wpAny_call_entry F.slot_set_add hS.typeIs F.entry_set_add ?_ (F.args_set_add_2 _ _)
  unfold Builtin.«set.add» Builtin.Frozenset.oneOther
  simp only [List.isEmpty_nil, bind_assoc]
  unfold Builtin.Frozenset.addrOf setAdd
  refine wpAny_bind (wpAny_pure ?_)
  try dsimp only
  refine wpAny_bind (wpAny_pure ?_)
  try dsimp only
  refine wpAny_bind ?_
  refine wpAny_holding ?_
  refine wpAny_bind ((PySem.strKind P w).pyHash (strKind_is P w k tk) ?_)
  refine setS_add_hashed (s := { s with toks := s.toks + 1 }) R room fun h' sb r => ?_
  show wpAny _ _ (ret Value.none) _ _ _
  exact wpAny_pure ⟨_, rfl, hQ h' sb r⟩

end
section
variable {P : Program} {w : World} {A : Around} {E : Value → Shared → Prop} {s : Shared}
/-! ### a new set -/
theorem setS_fresh {h : Heap} (w : World) : SetS w (h.push { cls := .type "set", dict := none, data := .set #[] 0 (.fresh 0 0 (!w.params.followText "set-order")) }) h.objs.size (fun _ => false) 0 :=
  ⟨_, #[], 0, _, Heap.get?_push_size _ rfl, ⟨rfl, rfl, rfl⟩, rfl, (fun e he => by simp at he), (by simp), (fun k => by simp), (by decide), (by rfl), rfl, List.Pairwise.nil, by
    show _ ∨ (!w.params.followText "set-order") = true
    cases w.params.followText "set-order"
    · exact .inr rfl
    · exact .inl rfl⟩

end
def SetSO (w : World) (a : Addr) (S : Str → Bool) (n : Nat) : HO := .ext fun h => SetS w h a S n
theorem setSO_new {w : World} {P : Program} {H : Hp} {h : Heap} {a : Addr} {S : Str → Bool} {n : Nat} (R : SetS w h a S n) : ObjOk P w H h a (SetSO w a S n) := by
  have ⟨o, _, _, _, ho, _⟩ := R
  exact ⟨R, ⟨o, ho⟩, fun h1 h2 p k => SetS.at p k⟩
section
variable {X : Cx}
theorem setSO_get {pins : List (Addr × Obj)} {σ : L2.St} {H : Hp} {s : Shared} {a : Addr} {S : Str → Bool} {n : Nat} (I : Inv X pins σ H s) (ha : H a = some (SetSO X.w a S n)) : SetS X.w s.heap a S n := (I.hok a _ ha).1
/-- set.add of a truth value -/
theorem addS_ok {pins : List (Addr × Obj)} {σ : L2.St} {H : Hp} {s : Shared} {E : Value → Shared → Prop} {D : Addr} {S : Str → Bool} {n : Nat} {y : Str} {ty : Tok} {Q : Value → Shared → Prop} (I : Inv X pins σ H s) (hD : H D = some (SetSO X.w D S n)) (room : n + 1 < scanBound)
    (h : ∀ s', Inv X pins σ (upd H D (SetSO X.w D (fun j => S j || decide (j = y)) (if S y = true then n else n + 1))) s' → Q .none s') : wpAny (model X.prog X.w) X.A (call (.builtin "set.add") [.ref D, .str y ty]) Q E s := by
  have R := setSO_get I hD
  refine setS_add R room fun h' sb new => ?_
  have he : ∃ u, h'.get? D = some u := by
    have ⟨o, _, _, _, ho, _⟩ := new
    exact ⟨o, ho⟩
  exact h _ (I.write (e := D) (t' := s.toks + 1) (by rw [hD]; trivial) (.inl rfl) (fun b u hb hu => (sb.2 b hb).trans hu) he (setSO_new new))
end
section
variable {X : Cx}
/-- {elt for target in iter if ..}, elt a text: D the new set -/
def tScS (w : World) (wi : TI) (g : TG) (tt : TT) (te : TE) (vs : List Nat) : TE := fun σ H Q => wi σ H fun J H1 => ∀ D, H1 D = none → ∃ W : Nat → Nat → Hp → Prop, (∃ m, W 0 m (upd H1 D (SetSO w D (fun _ => false) 0))) ∧ ∀ i m H, W i m H →
  (J.stop i H ∧ Q (.ref D) H) ∨ (J.go i H ∧ ∃ Nx : Hp → Prop, (∀ H', Nx H' → ∃ m', m' < m ∧ W (i + 1) m' H') ∧ ∀ x H', J.yld i H x H' → g x (wipe σ vs) H' fun σ2 H2 => wipe σ2 vs = wipe σ vs ∧ tt σ2 H2 fun b H3 =>
    if b = true then te σ2 H3 fun y H4 => ∃ (c : Str) (S : Str → Bool) (n : Nat), y = .str c ∧ H4 D = some (SetSO w D S n) ∧ n + 1 < scanBound ∧ Nx (upd H4 D (SetSO w D (fun j => S j || decide (j = c)) (if S c = true then n else n + 1))) else Nx H3)
theorem scS_core {pins : List (Addr × Obj)} {s : Shared} {σ : L2.St} {H : Hp} {Q : VK} {elt tg iter : Expr} {ifs : List Expr} {scope : Scope} {own : List (PySem.Str × Nat)} {pos pos' : Pos} {wi : TI} {g : TG} {tt : TT} {te : TE} {use : Option (Value → Sem Unit)} {Qf : Value → Shared → Prop}
    (hc : X.calm = true) (hN : X.N.Nodup) (I : Inv X pins σ H s) (hi : PI X tg iter wi) (ok : BlkOk X.N X.env.scope scope own)
    (hg : ∀ (s : Shared) (H : Hp) (C : Addr) (cl : List (PySem.Str × Addr)) (fp : List Addr), PG (X.blk s H scope (compEnvC scope cl C X.env) fp) tg g) (ht : ∀ (s : Shared) (H : Hp) (C : Addr) (cl : List (PySem.Str × Addr)) (fp : List Addr), PTs (X.blk s H scope (compEnvC scope cl C X.env) fp) ifs tt)
    (he : ∀ (s : Shared) (H : Hp) (C : Addr) (cl : List (PySem.Str × Addr)) (fp : List Addr), PE (X.blk s H scope (compEnvC scope cl C X.env) fp) elt te) (hs : ∀ x, foldedSetIterable iter X.env x = pure x)
    (h : tScS X.w wi g tt te (own.map (·.2)) σ H Q)
    (hRR : ∀ D C s' m H', Inv X pins σ H' s' → Q (.ref D) H' → s'.heap.Ns C m → FpOk X pins H' C → compPost (model X.prog X.w) X.A X.xe use Qf (.ref D) C (.ok .next) s') :
    wpAny (model X.prog X.w) X.A (comprehension (.SetComp elt [⟨tg, iter, ifs, 0⟩] scope pos) scope X.env pos' (newSet (.type "set")) false (eval iter X.env) use) Qf X.xe s := by
  have hfree : ∀ y ∈ scope.names, y.2 = .free → ∃ c, X.env.cells.lookup y.1 = some c := fun y hy e => by
    rcases ok.free y hy e with k | k
    · exact I.ok.has _ (.inl k)
    · exact I.ok.has _ (.inr k)
  refine wpAny_comprehension_free (use := use) rfl hs (closure_ok hfree) ok.kind (fun y hy e => by rw [ok.uniq y hy, e])
    (thn (hi.run pins s σ H _ I h) fun xv s1 hx => thn hx fun itv s2 h2 => ?_)
  obtain ⟨it, fp, tn, J, H2, e, I2, T, st2, f2, q⟩ := h2
  subst e
  refine newSet_ok (newEnv_comp ?_)
  generalize hD : s2.heap.objs.size = D
  have hDn : H2 D = none := I2.hok.fresh (Nat.le_of_eq hD)
  obtain ⟨W, ⟨m0, w0⟩, turn⟩ := q D hDn
  -- the new list
  generalize hs3 : ({ s2 with heap := s2.heap.push { cls := .type "set", dict := none, data := .set #[] 0 (.fresh 0 0 (!X.w.params.followText "set-order")) } } : Shared) = s3
  have I3 : Inv X pins σ (upd H2 D (SetSO X.w D (fun _ => false) 0)) s3 := by
    rw [← hs3]
    refine I2.laid (t' := s2.toks) (fun b o e => Heap.get?_push_of_some _ e) (Nat.le_of_eq hD) ?_
    rw [← hD]
    exact setSO_new (setS_fresh X.w)
  have h3 : s3.heap = s2.heap.push { cls := .type "set", dict := none, data := .set #[] 0 (.fresh 0 0 (!X.w.params.followText "set-order")) } := by rw [← hs3]
  have sz : ∀ b ∈ fp, b < s2.heap.objs.size := fun b hb => by
    obtain ⟨o, e, _⟩ := T.obj _ _ st2 b hb
    exact Heap.lt_size e
  have f3 : ∀ b ∈ fp, FpOk X pins (upd H2 D (SetSO X.w D (fun _ => false) 0)) b ∧ b < s3.heap.objs.size := fun b hb => by
    have hlt := sz b hb
    refine ⟨⟨?_, (f2 b hb).2⟩, by rw [h3, Heap.size_push]; exact Nat.lt_succ_of_lt hlt⟩
    rw [upd_ne (by rw [← hD]; exact Nat.ne_of_lt hlt)]
    exact (f2 b hb).1
  have st3 : tn 0 s3.heap := T.keep _ _ _ st2 fun b _ o e => by rw [h3]; exact Heap.get?_push_of_some _ e
  have I4 := block_start I3 ok hN f3
  have pg := hg s3 (upd H2 D (SetSO X.w D (fun _ => false) 0)) s3.heap.objs.size (cellsFrom (s3.heap.objs.size + 1) scope.names (cloFrom X.env.cells scope.names [])) fp
  have pt := ht s3 (upd H2 D (SetSO X.w D (fun _ => false) 0)) s3.heap.objs.size (cellsFrom (s3.heap.objs.size + 1) scope.names (cloFrom X.env.cells scope.names [])) fp
  have pe := he s3 (upd H2 D (SetSO X.w D (fun _ => false) 0)) s3.heap.objs.size (cellsFrom (s3.heap.objs.size + 1) scope.names (cloFrom X.env.cells scope.names [])) fp
  show codeAny _ _ (.compStart (.SetComp elt [⟨tg, iter, ifs, 0⟩] scope pos) 0 (.ref it) (.ref D) (compEnvC scope (cellsFrom (s3.heap.objs.size + 1) scope.names (cloFrom X.env.cells scope.names [])) s3.heap.objs.size X.env)) (compPost (model X.prog X.w) X.A X.xe use Qf (.ref D) s3.heap.objs.size) { s3 with heap := pushCells (s3.heap.push { cls := .type "dict", data := .dict #[] }) scope.names }
  have nfp : ∀ b ∈ fp, (upd H2 D (SetSO X.w D (fun _ => false) 0)) b = none := fun b hb => (f3 b hb).1.1
  generalize hce : compEnvC scope (cellsFrom (s3.heap.objs.size + 1) scope.names (cloFrom X.env.cells scope.names [])) s3.heap.objs.size X.env = ce at I4 pg pt pe ⊢
  have cL : ce.locals = s3.heap.objs.size := by subst hce; rfl
  generalize hH3 : upd H2 D (SetSO X.w D (fun _ => false) 0) = H3 at I3 I4 pg pt pe w0 nfp f3
  generalize hs4 : ({ s3 with heap := pushCells (s3.heap.push { cls := .type "dict", data := .dict #[] }) scope.names } : Shared) = s4 at I4 ⊢
  have st4 : tn 0 s4.heap := T.keep _ _ _ st3 fun b _ o e => by rw [← hs4]; exact pushCells_keeps _ _ _ _ (Heap.get?_push_of_some _ e)
  have stat : ∀ {σ' : L2.St} {H' : Hp} {s' : Shared}, Inv (X.blk s3 H3 scope ce fp) [] σ' H' s' → (∀ b ∈ fp, H' b = none) → ∀ b ∈ fp, FpOk (X.blk s3 H3 scope ce fp) [] H' b := fun {σ' H' s'} I' hn b hb =>
    ⟨hn b hb, (I'.ok.exf b hb).1, I'.ok.exfs b hb, .inl hb, fun x c e => (I'.ok.exf b hb).2 x c e, fun p hp => absurd (show p ∈ ([] : List (Addr × Obj)) ++ [] from hp) (by simp)⟩
  have loop : codeAny (model X.prog X.w) X.A (.compLoop (.SetComp elt [⟨tg, iter, ifs, 0⟩] scope pos) 0 (.ref it) (.ref D) ce) (compPost (model X.prog X.w) X.A X.xe use Qf (.ref D) s3.heap.objs.size) s4 := by
    refine compLoopS_any (fun n s' => ∃ i H', Inv (X.blk s3 H3 scope ce fp) [] (wipe σ (own.map (·.2))) H' s' ∧ tn i s'.heap ∧ (∀ b ∈ fp, H' b = none) ∧ W i n H') ?_ m0 ⟨0, H3, I4, st4, nfp, w0⟩
    rintro n s5 ⟨i, H5, I5, st5, n5, w5⟩
    rcases turn i n H5 w5 with ⟨stop, qq⟩ | ⟨go, Nx, hNx, step⟩
    · have td := T.done (X.blk s3 H3 scope ce fp) rfl rfl rfl hc i [] s5 _ H5 (fun _ _ => False) I5 (stat I5 n5) st5 stop
      refine thnF td fun r s6 ⟨hr, I6⟩ => ?_
      subst hr
      -- back in the def's context
      have I7 : Inv X pins σ H5 s6 := I3.call' (ch := fp) I6.os I6.base I6.hok I6.bare fun b hb => ⟨(f3 b hb).1.2.2.2.1, (f3 b hb).1.2.1, (f3 b hb).1.2.2.2.2.1, (f3 b hb).1.2.2.2.2.2⟩
      have nC : H5 s3.heap.objs.size = none := by
        have z : H5 ce.locals = none := I6.free
        rw [cL] at z
        exact z
      obtain ⟨m, hn, _⟩ := I6.loc
      have hn : s6.heap.Ns ce.locals m := hn
      rw [cL] at hn
      exact hRR D s3.heap.objs.size s6 m H5 I7 qq hn (I3.fpOk (Nat.le_refl _) nC)
    · have ti := T.item (X.blk s3 H3 scope ce fp) rfl rfl rfl hc i [] s5 _ H5 (fun _ _ => False) I5 (stat I5 n5) st5 go
      refine thnF ti fun r s6 ⟨u, hr, h6⟩ => ?_
      subst hr
      refine thnF h6 fun _ s7 ⟨x, H7, I7, r7, y7, st7, n7⟩ => ?_
      have I7' := I7.pinned (stat I7 n7) (T.obj _ _ st7)
      refine thnF (pg.run _ s7 _ H7 x u _ I7' r7 (step x H7 y7)) fun _ s8 ⟨σ8, H8, I8, hw8, q8⟩ => ?_
      refine thnF (pt.run _ s8 σ8 H8 _ I8 q8) fun b s9 ⟨H9, I9, q9⟩ => ?_
      -- the turn's end
      have fin : ∀ {s' : Shared} {H' : Hp}, Inv (X.blk s3 H3 scope ce fp) ([] ++ pinsAt fp s7.heap) σ8 H' s' → Nx H' → ∃ m, m < n ∧ ∃ i H', Inv (X.blk s3 H3 scope ce fp) [] (wipe σ (own.map (·.2))) H' s' ∧ tn i s'.heap ∧ (∀ b ∈ fp, H' b = none) ∧ W i m H' := fun {s' H'} I' nx => by
        obtain ⟨m', hm, w'⟩ := hNx H' nx
        have pin' : ∀ b ∈ fp, ∀ o, s7.heap.get? b = some o → s'.heap.get? b = some o ∧ H' b = none := fun b hb o e =>
          let z := I'.pin (b, o) (List.mem_append_right _ (List.mem_append_right _ (mem_pinsAt hb e)))
          ⟨z.1, z.2.1⟩
        have hl : (wipe σ (own.map (·.2))).length = σ8.length := by rw [← hw8, wipe_length]
        refine ⟨m', hm, i + 1, H', (I'.unpinned (pins := [])).weak hl (fun j v e => ?_), T.keep _ _ _ st7 fun b hb o e => (pin' b hb o e).1, fun b hb => ?_, w'⟩
        · rw [← hw8] at e
          exact (wipe_some e).1
        · obtain ⟨o, e, _⟩ := T.obj _ _ st7 b hb
          exact (pin' b hb o e).2
      cases b with
      | false =>
        simp only [Bool.false_eq_true, if_false] at q9 ⊢
        exact fin I9 q9
      | true =>
        simp only [if_true] at q9 ⊢
        refine thnF (pe.run _ s9 σ8 H9 _ I9 q9) fun z s10 ⟨yv, H10, I10, r10, cb, S0, n0, ey, hD10, hz10, nx⟩ => ?_
        subst ey
        obtain ⟨tk, rfl⟩ := r10
        exact addS_ok (X := X.blk s3 H3 scope ce fp) I10 hD10 hz10 fun s11 I11 => fin I11 nx
  exact codeAny_compStart_set loop (T.self X.A 0 _ _ _ st4 loop)
/-- as a value -/
theorem pe_scS {elt tg iter : Expr} {ifs : List Expr} {scope : Scope} {own : List (PySem.Str × Nat)} {pos : Pos} {wi : TI} {g : TG} {tt : TT} {te : TE} (hc : X.calm = true) (hN : X.N.Nodup) (hi : PI X tg iter wi) (ok : BlkOk X.N X.env.scope scope own)
    (hg : ∀ (s : Shared) (H : Hp) (C : Addr) (cl : List (PySem.Str × Addr)) (fp : List Addr), PG (X.blk s H scope (compEnvC scope cl C X.env) fp) tg g) (ht : ∀ (s : Shared) (H : Hp) (C : Addr) (cl : List (PySem.Str × Addr)) (fp : List Addr), PTs (X.blk s H scope (compEnvC scope cl C X.env) fp) ifs tt)
    (he : ∀ (s : Shared) (H : Hp) (C : Addr) (cl : List (PySem.Str × Addr)) (fp : List Addr), PE (X.blk s H scope (compEnvC scope cl C X.env) fp) elt te) (hs : ∀ x, foldedSetIterable iter X.env x = pure x := by intro _; rfl) :
    PE X (.SetComp elt [⟨tg, iter, ifs, 0⟩] scope pos) (tScS X.w wi g tt te (own.map (·.2))) := by
  refine ⟨fun pins s σ H Q I h => ?_⟩
  rw [eval_SetComp]
  refine scS_core hc hN I hi ok hg ht he hs h fun D C s' m H' I' q hn f => ⟨m, hn, fun h'' sb => ?_⟩
  obtain ⟨f0, f1, f2, f3, f4, f5⟩ := f
  exact ⟨.ref D, H', I'.turned (t' := s'.toks) (fun b o hb e => (sb.2 b hb).trans e) f0 f1 f3 f4 f5, rfl, q⟩
end

section
variable {P : Program} {w : World} {A : Around} {E : Value → Shared → Prop} {s : Shared} {a : Addr}
theorem strs_of : ∀ (l : List Value), (∀ v ∈ l, ∃ k tk, v = Value.str k tk) → StrsAre l (l.map fun v => keyS (0, v))
  | [], _ => .nil
  | v :: l, h => by
    obtain ⟨k, tk, rfl⟩ := h v List.mem_cons_self
    exact .cons k tk (strs_of l fun u hu => h u (List.mem_cons_of_mem _ hu))
theorem sorted_setS {S : Str → Bool} {n : Nat} {Q : Value → Shared → Prop} (R : SetS w s.heap a S n) (hh : A.handled = none) (h64 : n < 64)
    (hQ : ∀ s' p (out : Array Value) (c : Nat) (ns : List Str), (∀ b o, s.heap.get? b = some o → s'.heap.get? b = some o) → s'.gens = s.gens → s'.os = s.os → s.heap.objs.size ≤ p →
      s'.heap.get? p = some (seqObj "list" out c) → StrsAre out.toList ns → sortedS ns = true → ns.Nodup → (∀ k, k ∈ ns ↔ S k = true) → ns.length = n → Q (.ref p) s') :
    wpAny (model P w) A (call (.builtin "sorted") [.ref a]) Q E s := by
  obtain ⟨o, es, ep, t, ho, hex, hd, g, nd, hm, hb, hf, hn, hr, hl⟩ := R
  refine Calls.call_function_entry kind_sorted plain_sorted entry_sorted (args_sorted1 _) ?_
  unfold Builtin.«sorted»
  refine wpAny_bind (m := checkCount "sorted" 1 1 _) (wpAny_pure ?_)
  refine wpAny_bind (collect_set (A := A.in1) hh ⟨o, ho, hex.1, hd⟩ hf hb hr hl fun s1 vs k1 hz g1 o1 pm => ?_)
  have hvl : vs.length = n := by rw [pm.length_eq, List.length_map, Array.length_toList]; exact hn
  have hI : StrsAre vs (vs.map fun v => keyS (0, v)) := strs_of vs fun v hv => by
    obtain ⟨e, he, q⟩ := List.mem_map.mp (pm.mem_iff.mp hv)
    obtain ⟨k, tk, h1, _⟩ := g e he
    exact ⟨k, tk, by rw [← q]; exact h1⟩
  have pk : (vs.map fun v => keyS (0, v)).Perm (es.toList.map keyS) := by
    have q := pm.map fun v => keyS (0, v)
    rw [List.map_map] at q
    exact q
  have hsl : vs.length ≤ sizeLine := by rw [hvl, sizeLine_eq]; omega
  refine wpAny_bind (wpAny_newList ?_ hsl)
  have hoL : (s1.heap.push (seqObj "list" vs.toArray 0)).get? s1.heap.objs.size = some (seqObj "list" vs.toArray 0) := Heap.get?_push_size _ rfl
  refine wpAny_bind (wpAny_holding (wpAny_call_entry slot_list_sort ⟨_, hoL, rfl⟩ entry_list_sort
    (list_sort_treeKAny PyProof.Rows.strKind_oneLt hoL hI.keysOf (fun v₁ v₂ rest e => keyKind_strs (by rw [← e]; exact hI)) hsl fun st' hp hs => ⟨_, rfl, ?_⟩) (args_list_sort _)))
  obtain ⟨ns', a1, a2, a3⟩ := sorted_out_str hI hp hs
  obtain ⟨c, hc⟩ := sortedHeap_at (vs := vs) (out := (arrOf st').map (·.2)) hoL
  have pn : ns'.Perm (es.toList.map keyS) := a2.trans pk
  refine wpAny_pure ⟨_, rfl, hQ _ s1.heap.objs.size _ c ns' (fun b u e => ?_) g1 o1 hz hc a1 a3 (pn.nodup_iff.mpr nd) (fun k => by rw [pn.mem_iff, ← hm k]) ?_⟩
  · have q := k1 b u e
    have hlt := Heap.lt_size q
    show (sortedHeap (s1.heap.push (seqObj "list" vs.toArray 0)) s1.heap.objs.size vs ((arrOf st').map (·.2))).get? b = some u
    rw [sortedHeap_old (Nat.ne_of_lt hlt) (by rw [size_push']; exact Nat.lt_succ_of_lt hlt)]
    exact Heap.get?_push_of_some _ q
  · rw [pn.length_eq, List.length_map, Array.length_toList]; exact hn
end
section
variable {X : Cx}
def rSortedSS (w : World) : List V → Hp → VK → Prop := fun vs H Q => ∃ (a : Addr) (S : Str → Bool) (n : Nat), vs = [V.ref a] ∧ H a = some (SetSO w a S n) ∧ n < 64 ∧
  ∀ (ns : List Str) (p : Addr), sortedS ns = true → ns.Nodup → (∀ k : Str, k ∈ ns ↔ S k = true) → ns.length = n → H p = none → Q (.ref p) (upd H p (.lst (ns.map V.str)))
theorem cr_sortedSS (hc : X.calm = true) : CallR X (.builtin "sorted") (rSortedSS X.w) := by
  intro pins s σ H vs us Q I r h
  obtain ⟨a, S, n, rfl, ha, h64, q⟩ := h
  have R := setSO_get I ha
  rw [Vals.ref1 r]
  refine sorted_setS R (I.ok.hd hc) h64 fun s' p out c ns k g o hp hg hi hs hnd hm hl => ?_
  have hlen : (ns.map V.str).length ≤ sizeLine := by rw [List.length_map, hl, sizeLine_eq]; omega
  have hn : H p = none := I.hok.fresh hp
  have J : Inv X pins σ (upd H p (.lst (ns.map V.str))) { s with heap := s'.heap, gens := s'.gens, drawn := s'.drawn, toks := s'.toks } :=
    I.call (ch := []) (Un.laid k hp hn) (I.hok.laid k hp ⟨hlen, out.toList, c, vals_of_strs hi, hg⟩) (by rw [g]; exact I.bare) (fun _ z => nomatch z)
  have e : s' = { s with heap := s'.heap, gens := s'.gens, drawn := s'.drawn, toks := s'.toks } := by
    cases s'
    cases s
    cases o
    rfl
  rw [e]
  exact ⟨.ref p, _, J, rfl, q ns p hs hnd hm hl hn⟩
end
end SSt

set_option Elab.async false
set_option linter.all false
set_option maxRecDepth 100000
set_option maxHeartbeats 4000000
/-! dict comprehensions whose keys are tuples (after the layer's own for ints and texts) -/
namespace DcT
open PySem PySem.Spec PyProof.Rows L2
theorem d_dictSetT {X : Cx} {pins : List (Addr × Obj)} {σ : L2.St} {H : Hp} {s : Shared} {E : Value → Shared → Prop} {D b : Addr} {kvs : List (List Key × V)} {k : List Key} {v : V} {u r : Value} {Q : Unit → Shared → Prop} (hu : X.A.units < cLine) (I : Inv X pins σ H s)
    (hD : H D = some (.dT kvs)) (hb : H b = some (.tup (k.map kV))) (hz : kvs.length < sizeLine) (ry : RelV (.ref b) u) (rv : RelV v r) (h : ∀ s', Inv X pins σ (upd H D (.dT (putK kvs k v))) s' → Q () s') :
    wpAny (model X.prog X.w) X.A (dictSet D u r) Q E s := by
  cases (show u = Value.ref b from ry)
  obtain ⟨z, hd, xs, rel, dd⟩ := dt_of I.hok hD
  have hzv : xs.length ≤ sizeLine := by rw [← Paired.length rel]; exact z
  have hl : (putK kvs k v).length ≤ sizeLine := by have := length_putK kvs k v; omega
  refine wpAny_dictSet_heap (hsz := hzv) (show (tupleKind (mixKind X.prog X.w)).room X.A from hu) (key_of I.hok hb) dd fun h' dd' hs => h _ ?_
  obtain ⟨q, es, ep, hq, h2, h3, h4, _, h5⟩ := dd'
  refine d_write I (by rw [hD]; exact True.intro) hs ⟨q, hq⟩ ⟨hl, hd, _, (rel.put k hb rv).keeps fun c ys ec => ?_, q, es, ep, hq, h2, h3, h4, h5⟩
  rw [upd_ne (ne_of ec hD (fun z => nomatch z))]
  exact ec
section
variable {X : Cx}
/-- {k: v for target in iter if ..}, keys tuples of ints and texts: D the new dict -/
def tDcT (wi : TI) (g : TG) (tt : TT) (tk tv : TE) (vs : List Nat) : TE := fun σ H Q => wi σ H fun J H1 => ∀ D, H1 D = none → ∃ W : Nat → Nat → Hp → Prop, (∃ m, W 0 m (upd H1 D (.dT []))) ∧ ∀ i m H, W i m H →
  (J.stop i H ∧ Q (.ref D) H) ∨ (J.go i H ∧ ∃ Nx : Hp → Prop, (∀ H', Nx H' → ∃ m', m' < m ∧ W (i + 1) m' H') ∧ ∀ x H', J.yld i H x H' → g x (wipe σ vs) H' fun σ2 H2 => wipe σ2 vs = wipe σ vs ∧ tt σ2 H2 fun b H3 =>
    if b = true then tk σ2 H3 fun y H4 => tv σ2 H4 fun z H5 => ∃ kvs k b, y = .ref b ∧ H5 b = some (.tup (k.map kV)) ∧ H5 D = some (.dT kvs) ∧ kvs.length < sizeLine ∧ Nx (upd H5 D (.dT (putK kvs k z))) else Nx H3)
theorem dcT_core {pins : List (Addr × Obj)} {s : Shared} {σ : L2.St} {H : Hp} {Q : VK} {kx vx tg iter : Expr} {ifs : List Expr} {scope : Scope} {own : List (Str × Nat)} {pos pos' : Pos} {wi : TI} {g : TG} {tt : TT} {tk tv : TE} {use : Option (Value → Sem Unit)} {Qf : Value → Shared → Prop}
    (hu : X.A.units < cLine) (hc : X.calm = true) (hN : X.N.Nodup) (I : Inv X pins σ H s) (hi : PI X tg iter wi) (ok : BlkOk X.N X.env.scope scope own)
    (hg : ∀ (s : Shared) (H : Hp) (C : Addr) (cl : List (Str × Addr)) (fp : List Addr), PG (X.blk s H scope (compEnvC scope cl C X.env) fp) tg g) (ht : ∀ (s : Shared) (H : Hp) (C : Addr) (cl : List (Str × Addr)) (fp : List Addr), PTs (X.blk s H scope (compEnvC scope cl C X.env) fp) ifs tt)
    (hk : ∀ (s : Shared) (H : Hp) (C : Addr) (cl : List (Str × Addr)) (fp : List Addr), PE (X.blk s H scope (compEnvC scope cl C X.env) fp) kx tk)
    (he : ∀ (s : Shared) (H : Hp) (C : Addr) (cl : List (Str × Addr)) (fp : List Addr), PE (X.blk s H scope (compEnvC scope cl C X.env) fp) vx tv) (hs : ∀ x, foldedSetIterable iter X.env x = pure x)
    (h : tDcT wi g tt tk tv (own.map (·.2)) σ H Q)
    (hRR : ∀ D C s' m H', Inv X pins σ H' s' → Q (.ref D) H' → s'.heap.Ns C m → FpOk X pins H' C → compPost (model X.prog X.w) X.A X.xe use Qf (.ref D) C (.ok .next) s') :
    wpAny (model X.prog X.w) X.A (comprehension (.DictComp kx vx [⟨tg, iter, ifs, 0⟩] scope pos) scope X.env pos' newDict false (eval iter X.env) use) Qf X.xe s := by
  have hfree : ∀ y ∈ scope.names, y.2 = .free → ∃ c, X.env.cells.lookup y.1 = some c := fun y hy e => by
    rcases ok.free y hy e with k | k
    · exact I.ok.has _ (.inl k)
    · exact I.ok.has _ (.inr k)
  refine wpAny_comprehension_free (use := use) rfl hs (closure_ok hfree) ok.kind (fun y hy e => by rw [ok.uniq y hy, e])
    (thn (hi.run pins s σ H _ I h) fun xv s1 hx => thn hx fun itv s2 h2 => ?_)
  obtain ⟨it, fp, tn, J, H2, e, I2, T, st2, f2, q⟩ := h2
  subst e
  refine wpAny_newObj_type (newEnv_comp ?_)
  generalize hD : s2.heap.objs.size = D
  have hDn : H2 D = none := I2.hok.fresh (Nat.le_of_eq hD)
  obtain ⟨W, ⟨m0, w0⟩, turn⟩ := q D hDn
  -- the new list
  generalize hs3 : ({ s2 with heap := s2.heap.push { cls := .type "dict", data := .dict #[] } } : Shared) = s3
  have I3 : Inv X pins σ (upd H2 D (.dT [])) s3 := by
    rw [← hs3]
    refine I2.laid (t' := s2.toks) (fun b o e => Heap.get?_push_of_some _ e) (Nat.le_of_eq hD) ?_
    rw [← hD]
    exact dt_empty s2.heap I2.big
  have h3 : s3.heap = s2.heap.push { cls := .type "dict", data := .dict #[] } := by rw [← hs3]
  have sz : ∀ b ∈ fp, b < s2.heap.objs.size := fun b hb => by
    obtain ⟨o, e, _⟩ := T.obj _ _ st2 b hb
    exact Heap.lt_size e
  have f3 : ∀ b ∈ fp, FpOk X pins (upd H2 D (.dT [])) b ∧ b < s3.heap.objs.size := fun b hb => by
    have hlt := sz b hb
    refine ⟨⟨?_, (f2 b hb).2⟩, by rw [h3, Heap.size_push]; exact Nat.lt_succ_of_lt hlt⟩
    rw [upd_ne (by rw [← hD]; exact Nat.ne_of_lt hlt)]
    exact (f2 b hb).1
  have st3 : tn 0 s3.heap := T.keep _ _ _ st2 fun b _ o e => by rw [h3]; exact Heap.get?_push_of_some _ e
  have I4 := block_start I3 ok hN f3
  have pg := hg s3 (upd H2 D (.dT [])) s3.heap.objs.size (cellsFrom (s3.heap.objs.size + 1) scope.names (cloFrom X.env.cells scope.names [])) fp
  have pt := ht s3 (upd H2 D (.dT [])) s3.heap.objs.size (cellsFrom (s3.heap.objs.size + 1) scope.names (cloFrom X.env.cells scope.names [])) fp
  have pk := hk s3 (upd H2 D (.dT [])) s3.heap.objs.size (cellsFrom (s3.heap.objs.size + 1) scope.names (cloFrom X.env.cells scope.names [])) fp
  have pe := he s3 (upd H2 D (.dT [])) s3.heap.objs.size (cellsFrom (s3.heap.objs.size + 1) scope.names (cloFrom X.env.cells scope.names [])) fp
  show codeAny _ _ (.compStart (.DictComp kx vx [⟨tg, iter, ifs, 0⟩] scope pos) 0 (.ref it) (.ref D) (compEnvC scope (cellsFrom (s3.heap.objs.size + 1) scope.names (cloFrom X.env.cells scope.names [])) s3.heap.objs.size X.env)) (compPost (model X.prog X.w) X.A X.xe use Qf (.ref D) s3.heap.objs.size) { s3 with heap := pushCells (s3.heap.push { cls := .type "dict", data := .dict #[] }) scope.names }
  have nfp : ∀ b ∈ fp, (upd H2 D (.dT [])) b = none := fun b hb => (f3 b hb).1.1
  generalize hce : compEnvC scope (cellsFrom (s3.heap.objs.size + 1) scope.names (cloFrom X.env.cells scope.names [])) s3.heap.objs.size X.env = ce at I4 pg pt pk pe ⊢
  have cL : ce.locals = s3.heap.objs.size := by subst hce; rfl
  generalize hH3 : upd H2 D (.dT []) = H3 at I3 I4 pg pt pk pe w0 nfp f3
  generalize hs4 : ({ s3 with heap := pushCells (s3.heap.push { cls := .type "dict", data := .dict #[] }) scope.names } : Shared) = s4 at I4 ⊢
  have st4 : tn 0 s4.heap := T.keep _ _ _ st3 fun b _ o e => by rw [← hs4]; exact pushCells_keeps _ _ _ _ (Heap.get?_push_of_some _ e)
  have stat : ∀ {σ' : L2.St} {H' : Hp} {s' : Shared}, Inv (X.blk s3 H3 scope ce fp) [] σ' H' s' → (∀ b ∈ fp, H' b = none) → ∀ b ∈ fp, FpOk (X.blk s3 H3 scope ce fp) [] H' b := fun {σ' H' s'} I' hn b hb =>
    ⟨hn b hb, (I'.ok.exf b hb).1, I'.ok.exfs b hb, .inl hb, fun x c e => (I'.ok.exf b hb).2 x c e, fun p hp => absurd (show p ∈ ([] : List (Addr × Obj)) ++ [] from hp) (by simp)⟩
  have loop : codeAny (model X.prog X.w) X.A (.compLoop (.DictComp kx vx [⟨tg, iter, ifs, 0⟩] scope pos) 0 (.ref it) (.ref D) ce) (compPost (model X.prog X.w) X.A X.xe use Qf (.ref D) s3.heap.objs.size) s4 := by
    refine compLoop_anyD (fun n s' => ∃ i H', Inv (X.blk s3 H3 scope ce fp) [] (wipe σ (own.map (·.2))) H' s' ∧ tn i s'.heap ∧ (∀ b ∈ fp, H' b = none) ∧ W i n H') ?_ m0 ⟨0, H3, I4, st4, nfp, w0⟩
    rintro n s5 ⟨i, H5, I5, st5, n5, w5⟩
    rcases turn i n H5 w5 with ⟨stop, qq⟩ | ⟨go, Nx, hNx, step⟩
    · have td := T.done (X.blk s3 H3 scope ce fp) rfl rfl rfl hc i [] s5 _ H5 (fun _ _ => False) I5 (stat I5 n5) st5 stop
      refine thnF td fun r s6 ⟨hr, I6⟩ => ?_
      subst hr
      -- back in the def's context
      have I7 : Inv X pins σ H5 s6 := I3.call' (ch := fp) I6.os I6.base I6.hok I6.bare fun b hb => ⟨(f3 b hb).1.2.2.2.1, (f3 b hb).1.2.1, (f3 b hb).1.2.2.2.2.1, (f3 b hb).1.2.2.2.2.2⟩
      have nC : H5 s3.heap.objs.size = none := by
        have z : H5 ce.locals = none := I6.free
        rw [cL] at z
        exact z
      obtain ⟨m, hn, _⟩ := I6.loc
      have hn : s6.heap.Ns ce.locals m := hn
      rw [cL] at hn
      exact hRR D s3.heap.objs.size s6 m H5 I7 qq hn (I3.fpOk (Nat.le_refl _) nC)
    · have ti := T.item (X.blk s3 H3 scope ce fp) rfl rfl rfl hc i [] s5 _ H5 (fun _ _ => False) I5 (stat I5 n5) st5 go
      refine thnF ti fun r s6 ⟨u, hr, h6⟩ => ?_
      subst hr
      refine thnF h6 fun _ s7 ⟨x, H7, I7, r7, y7, st7, n7⟩ => ?_
      have I7' := I7.pinned (stat I7 n7) (T.obj _ _ st7)
      refine thnF (pg.run _ s7 _ H7 x u _ I7' r7 (step x H7 y7)) fun _ s8 ⟨σ8, H8, I8, hw8, q8⟩ => ?_
      refine thnF (pt.run _ s8 σ8 H8 _ I8 q8) fun b s9 ⟨H9, I9, q9⟩ => ?_
      -- the turn's end
      have fin : ∀ {s' : Shared} {H' : Hp}, Inv (X.blk s3 H3 scope ce fp) ([] ++ pinsAt fp s7.heap) σ8 H' s' → Nx H' → ∃ m, m < n ∧ ∃ i H', Inv (X.blk s3 H3 scope ce fp) [] (wipe σ (own.map (·.2))) H' s' ∧ tn i s'.heap ∧ (∀ b ∈ fp, H' b = none) ∧ W i m H' := fun {s' H'} I' nx => by
        obtain ⟨m', hm, w'⟩ := hNx H' nx
        have pin' : ∀ b ∈ fp, ∀ o, s7.heap.get? b = some o → s'.heap.get? b = some o ∧ H' b = none := fun b hb o e =>
          let z := I'.pin (b, o) (List.mem_append_right _ (List.mem_append_right _ (mem_pinsAt hb e)))
          ⟨z.1, z.2.1⟩
        have hl : (wipe σ (own.map (·.2))).length = σ8.length := by rw [← hw8, wipe_length]
        refine ⟨m', hm, i + 1, H', (I'.unpinned (pins := [])).weak hl (fun j v e => ?_), T.keep _ _ _ st7 fun b hb o e => (pin' b hb o e).1, fun b hb => ?_, w'⟩
        · rw [← hw8] at e
          exact (wipe_some e).1
        · obtain ⟨o, e, _⟩ := T.obj _ _ st7 b hb
          exact (pin' b hb o e).2
      cases b with
      | false =>
        simp only [Bool.false_eq_true, if_false] at q9 ⊢
        exact fin I9 q9
      | true =>
        simp only [if_true] at q9 ⊢
        refine thnF (pk.run _ s9 σ8 H9 _ I9 q9) fun z s10 ⟨yk, H10, I10, r10, q10⟩ => ?_
        refine thnF (pe.run _ s10 σ8 H10 _ I10 q10) fun z2 s11 ⟨yv, H11, I11, r11, kvs, k, b0, ek, hb11, hD11, hz11, nx⟩ => ?_
        subst ek
        exact d_dictSetT (X := X.blk s3 H3 scope ce fp) hu I11 hD11 hb11 hz11 r10 r11 fun s12 I12 => fin I12 nx
  exact codeAny_compStart_dict loop (T.self X.A 0 _ _ _ st4 loop)
/-- as a value -/
theorem pe_dcT {kx vx tg iter : Expr} {ifs : List Expr} {scope : Scope} {own : List (Str × Nat)} {pos : Pos} {wi : TI} {g : TG} {tt : TT} {tk tv : TE} (hu : X.A.units < cLine) (hc : X.calm = true) (hN : X.N.Nodup) (hi : PI X tg iter wi) (ok : BlkOk X.N X.env.scope scope own)
    (hg : ∀ (s : Shared) (H : Hp) (C : Addr) (cl : List (Str × Addr)) (fp : List Addr), PG (X.blk s H scope (compEnvC scope cl C X.env) fp) tg g) (ht : ∀ (s : Shared) (H : Hp) (C : Addr) (cl : List (Str × Addr)) (fp : List Addr), PTs (X.blk s H scope (compEnvC scope cl C X.env) fp) ifs tt)
    (hk : ∀ (s : Shared) (H : Hp) (C : Addr) (cl : List (Str × Addr)) (fp : List Addr), PE (X.blk s H scope (compEnvC scope cl C X.env) fp) kx tk)
    (he : ∀ (s : Shared) (H : Hp) (C : Addr) (cl : List (Str × Addr)) (fp : List Addr), PE (X.blk s H scope (compEnvC scope cl C X.env) fp) vx tv) (hs : ∀ x, foldedSetIterable iter X.env x = pure x := by intro _; rfl) :
    PE X (.DictComp kx vx [⟨tg, iter, ifs, 0⟩] scope pos) (tDcT wi g tt tk tv (own.map (·.2))) := by
  refine ⟨fun pins s σ H Q I h => ?_⟩
  rw [arm_eval_DictComp]
  refine dcT_core hu hc hN I hi ok hg ht hk he hs h fun D C s' m H' I' q hn f => ⟨m, hn, fun h'' sb => ?_⟩
  obtain ⟨f0, f1, f2, f3, f4, f5⟩ := f
  exact ⟨.ref D, H', I'.turned (t' := s'.toks) (fun b o hb e => (sb.2 b hb).trans e) f0 f1 f3 f4 f5, rfl, q⟩
end
end DcT

set_option Elab.async false
set_option linter.all false
set_option maxRecDepth 100000
set_option maxHeartbeats 4000000
/-! < and <= of pairs (a number, a tuple of texts) -/
namespace TOr
open PySem PySem.SeqAt L2
abbrev ltS (x y : Str) : Bool := decide (x.cps.toList < y.cps.toList)
theorem lt_strR {A : Around} {s : Shared} (a b : Str) (t u : Tok) : Ob.RcOp .Lt A s (.str a t) (.str b u) (ltS a b) := fun _ _ _ _ h => PyProof.Rows.lt_str h
theorem le_strR {A : Around} {s : Shared} (a b : Str) (t u : Tok) : Ob.RcOp .LtE A s (.str a t) (.str b u) (!ltS b a) := fun _ _ _ _ h => PySem.P.le_str h

/-- from place i on: the tuples' order as the words' -/
theorem lex_wlt (u v : List Str) : ∀ (n i : Nat), n = min u.length v.length - i → i ≤ min u.length v.length →
    Ob.lexAt (fun j => decide (u.getD j Str.empty = v.getD j Str.empty)) (fun j => ltS (u.getD j Str.empty) (v.getD j Str.empty)) (decide (u.length < v.length)) i n = Bfs.wlt ltS (u.drop i) (v.drop i) := by
  intro n
  induction n with
  | zero =>
    intro i e hi
    have ei : i = min u.length v.length := by omega
    rw [Ob.lexAt_zero]
    rcases Nat.lt_trichotomy u.length v.length with h | h | h
    · have e1 : u.drop i = [] := List.drop_of_length_le (by omega)
      obtain ⟨y, ys, e2⟩ : ∃ y ys, v.drop i = y :: ys := ⟨v[i]'(by omega), v.drop (i + 1), List.drop_eq_getElem_cons (by omega)⟩
      rw [e1, e2, decide_eq_true h]
      rfl
    · have e1 : u.drop i = [] := List.drop_of_length_le (by omega)
      have e2 : v.drop i = [] := List.drop_of_length_le (by omega)
      rw [e1, e2, decide_eq_false (by omega)]
      rfl
    · have e2 : v.drop i = [] := List.drop_of_length_le (by omega)
      obtain ⟨y, ys, e1⟩ : ∃ y ys, u.drop i = y :: ys := ⟨u[i]'(by omega), u.drop (i + 1), List.drop_eq_getElem_cons (by omega)⟩
      rw [e1, e2, decide_eq_false (by omega)]
      rfl
  | succ n ih =>
    intro i e hi
    have h1 : i < u.length := by omega
    have h2 : i < v.length := by omega
    have g1 : u.getD i Str.empty = u[i] := by simp [h1]
    have g2 : v.getD i Str.empty = v[i] := by simp [h2]
    rw [Ob.lexAt_succ, List.drop_eq_getElem_cons h1, List.drop_eq_getElem_cons h2, Bfs.wlt_cons]
    rw [g1, g2]
    by_cases q : u[i] = v[i]
    · rw [if_pos (decide_eq_true q), if_pos q]
      exact ih (i + 1) (by omega) (by omega)
    · rw [if_neg (by rw [decide_eq_false q]; exact Bool.false_ne_true), if_neg q]
/-- the words' order or equal -/
def wle : List Str → List Str → Bool
  | [], _ => true
  | _ :: _, [] => false
  | x :: xs, y :: ys => if x = y then wle xs ys else !ltS y x
theorem lex_wle (u v : List Str) : ∀ (n i : Nat), n = min u.length v.length - i → i ≤ min u.length v.length →
    Ob.lexAt (fun j => decide (u.getD j Str.empty = v.getD j Str.empty)) (fun j => !ltS (v.getD j Str.empty) (u.getD j Str.empty)) (decide (u.length ≤ v.length)) i n = wle (u.drop i) (v.drop i) := by
  intro n
  induction n with
  | zero =>
    intro i e hi
    rw [Ob.lexAt_zero]
    by_cases h : u.length ≤ v.length
    · have e1 : u.drop i = [] := List.drop_of_length_le (by omega)
      rw [e1, decide_eq_true h]
      rfl
    · have e2 : v.drop i = [] := List.drop_of_length_le (by omega)
      obtain ⟨y, ys, e1⟩ : ∃ y ys, u.drop i = y :: ys := ⟨u[i]'(by omega), u.drop (i + 1), List.drop_eq_getElem_cons (by omega)⟩
      rw [e1, e2, decide_eq_false h]
      rfl
  | succ n ih =>
    intro i e hi
    have h1 : i < u.length := by omega
    have h2 : i < v.length := by omega
    have g1 : u.getD i Str.empty = u[i] := by simp [h1]
    have g2 : v.getD i Str.empty = v[i] := by simp [h2]
    rw [Ob.lexAt_succ, List.drop_eq_getElem_cons h1, List.drop_eq_getElem_cons h2]
    rw [g1, g2]
    show _ = if u[i] = v[i] then wle _ _ else _
    by_cases q : u[i] = v[i]
    · rw [if_pos (decide_eq_true q), if_pos q]
      exact ih (i + 1) (by omega) (by omega)
    · rw [if_neg (by rw [decide_eq_false q]; exact Bool.false_ne_true), if_neg q]

/-- the order of the texts is one -/
theorem ordS : Bfs.Ord ltS where
  irr := fun x => decide_eq_false (List.lt_irrefl _)
  tr := fun x y z h1 h2 => decide_eq_true (List.lt_trans (of_decide_eq_true h1) (of_decide_eq_true h2))
  tot := fun x y h => by
    have hc : x.cps.toList ≠ y.cps.toList := fun e => h (by
      obtain ⟨a⟩ := x
      obtain ⟨b⟩ := y
      have : a = b := Array.toList_inj.mp e
      rw [this])
    rcases Decidable.em (x.cps.toList < y.cps.toList) with q | q
    · exact .inl (decide_eq_true q)
    · refine .inr (decide_eq_true ?_)
      rcases Decidable.em (y.cps.toList < x.cps.toList) with r | r
      · exact r
      · exact absurd (List.le_antisymm (List.not_lt.mp r) (List.not_lt.mp q)) hc
theorem wle_eq : ∀ (u v : List Str), wle u v = (Bfs.wlt ltS u v || decide (u = v))
  | [], [] => by simp [wle, Bfs.wlt]
  | [], _ :: _ => by simp [wle, Bfs.wlt]
  | _ :: _, [] => by simp [wle, Bfs.wlt]
  | x :: xs, y :: ys => by
    show (if x = y then wle xs ys else !ltS y x) = ((if x = y then Bfs.wlt ltS xs ys else ltS x y) || decide (x :: xs = y :: ys))
    by_cases e : x = y
    · rw [if_pos e, if_pos e, wle_eq xs ys]
      congr 1
      simp [e]
    · rw [if_neg e, if_neg e]
      have d : decide (x :: xs = y :: ys) = false := decide_eq_false fun q => e (List.cons.inj q).1
      rw [d, Bool.or_false]
      rcases ordS.tot x y e with h | h
      · rw [h]
        cases q : ltS y x with
        | false => rfl
        | true =>
          have := ordS.tr _ _ _ h q
          rw [ordS.irr] at this
          cases this
      · rw [h]
        cases q : ltS x y with
        | false => rfl
        | true =>
          have := ordS.tr _ _ _ h q
          rw [ordS.irr] at this
          cases this

section
variable {X : Cx} {pins : List (Addr × Obj)} {σ : L2.St} {H : Hp} {s : Shared}
theorem strs_at {its : List Value} {u : List Str} (i : PyProof.Rows.StrsAre its u) : ∀ j (h : j < its.toArray.size), ∃ t, its.toArray[j] = .str (u.getD j Str.empty) t := fun j h => by
  have h' : j < its.length := by simpa using h
  have : ∀ {l : List Value} {m : List Str} (k : PyProof.Rows.StrsAre l m) (j : Nat) (hj : j < l.length), ∃ t, l[j] = .str (m.getD j Str.empty) t := by
    intro l m k
    induction k with
    | nil => intro j hj; simp at hj
    | cons x t k ih =>
      intro j hj
      cases j with
      | zero => exact ⟨t, by simp⟩
      | succ j => simpa using ih j (by simpa using hj)
  simpa using this i j h'
theorem rc_lt_strs {A : Around} {p q : Addr} {its its2 : List Value} {u v : List Str} (p1 : s.heap.IsTuple p its.toArray) (p2 : s.heap.IsTuple q its2.toArray) (i1 : PyProof.Rows.StrsAre its u) (i2 : PyProof.Rows.StrsAre its2 v) (hu : A.units < cLine) :
    Ob.RcOp .Lt A s (.ref p) (.ref q) (Bfs.wlt ltS u v) := by
  have e1 : its.toArray.size = u.length := by rw [List.size_toArray]; exact i1.length
  have e2 : its2.toArray.size = v.length := by rw [List.size_toArray]; exact i2.length
  have R := Ob.RcOp.tuples_lt (A := A) (s := s) (e := fun j => decide (u.getD j Str.empty = v.getD j Str.empty)) (r := fun j => ltS (u.getD j Str.empty) (v.getD j Str.empty)) p1 p2 hu (fun j h1 h2 => by
    obtain ⟨t, et⟩ := strs_at i1 j h1
    obtain ⟨t', et'⟩ := strs_at i2 j h2
    rw [et, et']
    have z : (u.getD j Str.empty == v.getD j Str.empty) = decide (u.getD j Str.empty = v.getD j Str.empty) := by
      by_cases q : u.getD j Str.empty = v.getD j Str.empty
      · rw [decide_eq_true q]; exact beq_iff_eq.mpr q
      · rw [decide_eq_false q]; exact beq_eq_false_iff_ne.mpr q
    rw [← z]
    exact SeqAt.EqAt.str_str _ _ _ _) (fun j h1 h2 _ => by
    obtain ⟨t, et⟩ := strs_at i1 j h1
    obtain ⟨t', et'⟩ := strs_at i2 j h2
    rw [et, et']
    exact lt_strR _ _ _ _)
  rw [e1, e2, lex_wlt u v _ 0 (by omega) (by omega)] at R
  exact R
theorem rc_le_strs {A : Around} {p q : Addr} {its its2 : List Value} {u v : List Str} (p1 : s.heap.IsTuple p its.toArray) (p2 : s.heap.IsTuple q its2.toArray) (i1 : PyProof.Rows.StrsAre its u) (i2 : PyProof.Rows.StrsAre its2 v) (hu : A.units < cLine) :
    Ob.RcOp .LtE A s (.ref p) (.ref q) (wle u v) := by
  have e1 : its.toArray.size = u.length := by rw [List.size_toArray]; exact i1.length
  have e2 : its2.toArray.size = v.length := by rw [List.size_toArray]; exact i2.length
  have R := Ob.RcOp.tuples_le (A := A) (s := s) (e := fun j => decide (u.getD j Str.empty = v.getD j Str.empty)) (r := fun j => !ltS (v.getD j Str.empty) (u.getD j Str.empty)) p1 p2 hu (fun j h1 h2 => by
    obtain ⟨t, et⟩ := strs_at i1 j h1
    obtain ⟨t', et'⟩ := strs_at i2 j h2
    rw [et, et']
    have z : (u.getD j Str.empty == v.getD j Str.empty) = decide (u.getD j Str.empty = v.getD j Str.empty) := by
      by_cases q : u.getD j Str.empty = v.getD j Str.empty
      · rw [decide_eq_true q]; exact beq_iff_eq.mpr q
      · rw [decide_eq_false q]; exact beq_eq_false_iff_ne.mpr q
    rw [← z]
    exact SeqAt.EqAt.str_str _ _ _ _) (fun j h1 h2 _ => by
    obtain ⟨t, et⟩ := strs_at i1 j h1
    obtain ⟨t', et'⟩ := strs_at i2 j h2
    rw [et, et']
    exact le_strR _ _ _ _)
  rw [e1, e2, lex_wle u v _ 0 (by omega) (by omega)] at R
  exact R
theorem all_strs (u v : List Str) : ((List.range (min u.length v.length)).all (fun j => decide (u.getD j Str.empty = v.getD j Str.empty)) && (u.length == v.length)) = decide (u = v) := by
  by_cases e : u = v
  · subst e
    simp
  · rw [decide_eq_false e]
    by_cases hl : u.length = v.length
    · have hx : ∃ j, j < u.length ∧ u.getD j Str.empty ≠ v.getD j Str.empty := by
        refine Classical.byContradiction fun hn => e ?_
        refine List.ext_getElem hl fun j h1 h2 => ?_
        refine Classical.byContradiction fun hj => hn ⟨j, h1, ?_⟩
        simpa [h1, h2] using hj
      obtain ⟨j, h1, h2⟩ := hx
      have : (List.range (min u.length v.length)).all (fun j => decide (u.getD j Str.empty = v.getD j Str.empty)) = false := by
        rw [List.all_eq_false]
        exact ⟨j, by simp; omega, by rw [decide_eq_false h2]; exact Bool.false_ne_true⟩
      rw [this]
      rfl
    · have : (u.length == v.length) = false := beq_eq_false_iff_ne.mpr hl
      rw [this, Bool.and_false]
theorem strs_inj : ∀ {its : List Value} {u v : List Str}, PyProof.Rows.StrsAre its u → PyProof.Rows.StrsAre its v → u = v
  | _, _, _, .nil, .nil => rfl
  | _, _, _, .cons x t a, b => by
    cases b with
    | cons _ _ b => rw [strs_inj a b]
theorem eqAt_strs {A : Around} {p q : Addr} {its its2 : List Value} {u v : List Str} (p1 : s.heap.IsTuple p its.toArray) (p2 : s.heap.IsTuple q its2.toArray) (i1 : PyProof.Rows.StrsAre its u) (i2 : PyProof.Rows.StrsAre its2 v) (hu : A.units < cLine) :
    EqAt A s (.ref p) (.ref q) (decide (u = v)) := by
  by_cases e : p = q
  · subst e
    obtain ⟨o, ho, hc, n, hd⟩ := p1
    obtain ⟨o2, ho2, hc2, n2, hd2⟩ := p2
    rw [ho] at ho2
    cases ho2
    rw [hd] at hd2
    injection hd2 with hi _
    have hi : its = its2 := by simpa using hi
    subst hi
    rw [strs_inj i1 i2, decide_eq_true rfl]
    exact EqAt.same _
  · refine EqAt.of_refs e ?_
    have e1 : its.toArray.size = u.length := by rw [List.size_toArray]; exact i1.length
    have e2 : its2.toArray.size = v.length := by rw [List.size_toArray]; exact i2.length
    have R := RcAt.tuples (A := A) (s := s) (e := fun j => decide (u.getD j Str.empty = v.getD j Str.empty)) p1 p2 hu (fun j h1 h2 => by
      obtain ⟨t, et⟩ := strs_at i1 j h1
      obtain ⟨t', et'⟩ := strs_at i2 j h2
      rw [et, et']
      have z : (u.getD j Str.empty == v.getD j Str.empty) = decide (u.getD j Str.empty = v.getD j Str.empty) := by
        by_cases q : u.getD j Str.empty = v.getD j Str.empty
        · rw [decide_eq_true q]; exact beq_iff_eq.mpr q
        · rw [decide_eq_false q]; exact beq_eq_false_iff_ne.mpr q
      rw [← z]
      exact SeqAt.EqAt.str_str _ _ _ _)
    rw [e1, e2, all_strs] at R
    exact R
theorem vals_strs : ∀ {us : List Value} {u : List Str}, Vals (u.map V.str) us → PyProof.Rows.StrsAre us u := fun r => Vals.strs r

/-- (n, u) < (m, v), u and v tuples of texts -/
def PairW (K : PySem.W.Frag) (H : Hp) (x : V) (n : Int) (u : List Str) : Prop := ∃ a p, x = .ref a ∧ SqT K H a [.int n, .ref p] ∧ SqT K H p (u.map V.str)
def rLtP (K : PySem.W.Frag) : R2 := fun x y H Q => ∃ n u m v, PairW K H x n u ∧ PairW K H y m v ∧ Q (.bl (if n = m then Bfs.wlt ltS u v else decide (n < m))) H
def rLeP (K : PySem.W.Frag) : R2 := fun x y H Q => ∃ n u m v, PairW K H x n u ∧ PairW K H y m v ∧ Q (.bl (if n = m then wle u v else decide (n ≤ m))) H
theorem PairW.at (I : L2.Inv X pins σ H s) {x : V} {n : Int} {u : List Str} (h : PairW X.K H x n u) : ∃ a p t its, x = .ref a ∧ s.heap.IsTuple a #[.int n t, .ref p] ∧ s.heap.IsTuple p its.toArray ∧ PyProof.Rows.StrsAre its u := by
  obtain ⟨a, p, rfl, h1, h2⟩ := h
  obtain ⟨i1, r1, q1, _⟩ := I.tuple h1
  obtain ⟨i2, r2, q2, _⟩ := I.tuple h2
  cases r1 with
  | cons ra rb =>
    obtain ⟨t, rfl⟩ := ra
    cases rb with
    | cons rb rc =>
      cases rc
      cases rb
      exact ⟨a, p, t, i2, rfl, q1, q2, Vals.strs r2⟩
theorem lex2 (e r : Nat → Bool) (z : Bool) : Ob.lexAt e r z 0 2 = if e 0 = true then (if e 1 = true then z else r 1) else r 0 := rfl
theorem rc_ltP {A : Around} {a b p q : Addr} {n m : Int} {t t' : Tok} {its its2 : List Value} {u v : List Str} (h1 : s.heap.IsTuple a #[.int n t, .ref p]) (h2 : s.heap.IsTuple b #[.int m t', .ref q]) (p1 : s.heap.IsTuple p its.toArray) (p2 : s.heap.IsTuple q its2.toArray)
    (i1 : PyProof.Rows.StrsAre its u) (i2 : PyProof.Rows.StrsAre its2 v) (hu : A.units + 64 < cLine) : Ob.RcOp .Lt A s (.ref a) (.ref b) (if n = m then Bfs.wlt ltS u v else decide (n < m)) := by
  have hu1 : A.in1.units < cLine := by show A.units + 1 < cLine; omega
  have R := Ob.RcOp.tuples_lt (A := A) (s := s) (e := fun j => if j = 0 then decide (n = m) else decide (u = v)) (r := fun j => if j = 0 then decide (n < m) else Bfs.wlt ltS u v) h1 h2 (by omega) (fun j g1 g2 => by
    match j, g1, g2 with
    | 0, _, _ =>
      have z : (n == m) = decide (n = m) := by
        by_cases q : n = m
        · rw [decide_eq_true q]; exact beq_iff_eq.mpr q
        · rw [decide_eq_false q]; exact beq_eq_false_iff_ne.mpr q
      show EqAt A.in1 s (.int n t) (.int m t') (decide (n = m))
      rw [← z]
      exact SeqAt.EqAt.int_int _ _ _ _
    | 1, _, _ => exact eqAt_strs p1 p2 i1 i2 hu1
    | j + 2, g, _ => exact absurd (show j + 2 < 2 from g) (by omega)) (fun j g1 g2 _ => by
    match j, g1, g2 with
    | 0, _, _ => exact Ob.RcOp.lt_int _ _ _ _
    | 1, _, _ => exact rc_lt_strs p1 p2 i1 i2 hu1
    | j + 2, g, _ => exact absurd (show j + 2 < 2 from g) (by omega))
  have e : Ob.lexAt (fun j => if j = 0 then decide (n = m) else decide (u = v)) (fun j => if j = 0 then decide (n < m) else Bfs.wlt ltS u v) (decide ((#[.int n t, .ref p] : Array Value).size < (#[.int m t', .ref q] : Array Value).size)) 0 (min (#[.int n t, .ref p] : Array Value).size (#[.int m t', .ref q] : Array Value).size)
      = if n = m then Bfs.wlt ltS u v else decide (n < m) := by
    show Ob.lexAt _ _ (decide (2 < 2)) 0 2 = _
    rw [lex2]
    by_cases e : n = m
    · by_cases e2 : u = v
      · subst e2
        simp [e, Bfs.wlt_irr ordS]
      · simp [e, e2]
    · simp [e]
  rw [e] at R
  exact R
theorem rc_leP {A : Around} {a b p q : Addr} {n m : Int} {t t' : Tok} {its its2 : List Value} {u v : List Str} (h1 : s.heap.IsTuple a #[.int n t, .ref p]) (h2 : s.heap.IsTuple b #[.int m t', .ref q]) (p1 : s.heap.IsTuple p its.toArray) (p2 : s.heap.IsTuple q its2.toArray)
    (i1 : PyProof.Rows.StrsAre its u) (i2 : PyProof.Rows.StrsAre its2 v) (hu : A.units + 64 < cLine) : Ob.RcOp .LtE A s (.ref a) (.ref b) (if n = m then wle u v else decide (n ≤ m)) := by
  have hu1 : A.in1.units < cLine := by show A.units + 1 < cLine; omega
  have R := Ob.RcOp.tuples_le (A := A) (s := s) (e := fun j => if j = 0 then decide (n = m) else decide (u = v)) (r := fun j => if j = 0 then decide (n ≤ m) else wle u v) h1 h2 (by omega) (fun j g1 g2 => by
    match j, g1, g2 with
    | 0, _, _ =>
      have z : (n == m) = decide (n = m) := by
        by_cases q : n = m
        · rw [decide_eq_true q]; exact beq_iff_eq.mpr q
        · rw [decide_eq_false q]; exact beq_eq_false_iff_ne.mpr q
      show EqAt A.in1 s (.int n t) (.int m t') (decide (n = m))
      rw [← z]
      exact SeqAt.EqAt.int_int _ _ _ _
    | 1, _, _ => exact eqAt_strs p1 p2 i1 i2 hu1
    | j + 2, g, _ => exact absurd (show j + 2 < 2 from g) (by omega)) (fun j g1 g2 _ => by
    match j, g1, g2 with
    | 0, _, _ => exact Ob.RcOp.le_int _ _ _ _
    | 1, _, _ => exact rc_le_strs p1 p2 i1 i2 hu1
    | j + 2, g, _ => exact absurd (show j + 2 < 2 from g) (by omega))
  have e : Ob.lexAt (fun j => if j = 0 then decide (n = m) else decide (u = v)) (fun j => if j = 0 then decide (n ≤ m) else wle u v) (decide ((#[.int n t, .ref p] : Array Value).size ≤ (#[.int m t', .ref q] : Array Value).size)) 0 (min (#[.int n t, .ref p] : Array Value).size (#[.int m t', .ref q] : Array Value).size)
      = if n = m then wle u v else decide (n ≤ m) := by
    show Ob.lexAt _ _ (decide (2 ≤ 2)) 0 2 = _
    rw [lex2]
    by_cases e : n = m
    · by_cases e2 : u = v
      · subst e2
        simp [e, wle_eq]
      · simp [e, e2]
    · simp [e]
  rw [e] at R
  exact R
theorem op_ltP (hu : X.A.units + 64 < cLine) : OpR X (compareOp .Lt) (rLtP X.K) := by
  intro pins s σ H x y v u Q I rx ry h
  obtain ⟨n, w1, m, w2, h1, h2, q⟩ := h
  obtain ⟨a, p, t, its, rfl, a1, a2, a3⟩ := PairW.at I h1
  obtain ⟨b, p', t', its', rfl, b1, b2, b3⟩ := PairW.at I h2
  cases rx
  cases ry
  have z : wpAny (model X.prog X.w) X.A (compareOp .Lt (.ref a) (.ref b)) (EP X pins σ Q) X.xe s := rc_ltP a1 b1 a2 b2 a3 b3 hu X.prog X.w X.xe (EP X pins σ Q) ⟨.bl _, H, I, rfl, q⟩
  exact z
theorem op_leP (hu : X.A.units + 64 < cLine) : OpR X (compareOp .LtE) (rLeP X.K) := by
  intro pins s σ H x y v u Q I rx ry h
  obtain ⟨n, w1, m, w2, h1, h2, q⟩ := h
  obtain ⟨a, p, t, its, rfl, a1, a2, a3⟩ := PairW.at I h1
  obtain ⟨b, p', t', its', rfl, b1, b2, b3⟩ := PairW.at I h2
  cases rx
  cases ry
  have z : wpAny (model X.prog X.w) X.A (compareOp .LtE (.ref a) (.ref b)) (EP X pins σ Q) X.xe s := rc_leP a1 b1 a2 b2 a3 b3 hu X.prog X.w X.xe (EP X pins σ Q) ⟨.bl _, H, I, rfl, q⟩
  exact z
theorem ltP_klt (u v : List Str) : (if (u.length : Int) = (v.length : Int) then Bfs.wlt ltS u v else decide ((u.length : Int) < (v.length : Int))) = Bfs.klt ltS u v := by
  unfold Bfs.klt
  by_cases e : u.length = v.length
  · rw [if_pos e, if_pos (by omega)]
  · rw [if_neg e, if_neg (by omega)]
    by_cases h : u.length < v.length
    · rw [decide_eq_true h, decide_eq_true (by omega)]
    · rw [decide_eq_false h, decide_eq_false (by omega)]
theorem leP_kle (u v : List Str) : (if (u.length : Int) = (v.length : Int) then wle u v else decide ((u.length : Int) ≤ (v.length : Int))) = Bfs.kle ltS u v := by
  unfold Bfs.kle Bfs.klt
  by_cases e : u.length = v.length
  · rw [if_pos e, if_pos (by omega), wle_eq]
  · have e2 : u ≠ v := fun q => e (by rw [q])
    rw [if_neg e, if_neg (by omega), decide_eq_false e2, Bool.or_false]
    by_cases h : u.length < v.length
    · rw [decide_eq_true h, decide_eq_true (by omega)]
    · rw [decide_eq_false h, decide_eq_false (by omega)]
end
end TOr

set_option Elab.async false
set_option linter.all false
set_option maxRecDepth 100000
/-! readings, one step a lemma: what a term of rules asks is answered from the left -/
namespace Rd
open PySem L2
section
variable {σ : L2.St} {H : Hp} {Q : VK} {QB : Bool → Hp → Prop} {QA : List V → Hp → Prop} {D : Ends} {K : PySem.W.Frag} {v x y : V} {i j : Int}
theorem var {n : Nat} (h : σ[n]? = some (some v)) (q : Q v H) : tVar n σ H Q := ⟨v, h, q⟩
theorem c (q : Q v H) : tC v σ H Q := q
theorem op {r : R2} {ta tb : TE} (h : ta σ H fun x H1 => tb σ H1 fun y H2 => r x y H2 Q) : tOp r ta tb σ H Q := h
theorem un {r : V → Hp → VK → Prop} {ta : TE} (h : ta σ H fun x H1 => r x H1 Q) : tUn r ta σ H Q := h
theorem i0 {g : Int → Int → V} (q : Q (g i j) H) : rI0 g (.int i) (.int j) H Q := ⟨i, j, rfl, rfl, q⟩
theorem i1 {C : Int → Int → Prop} {g : Int → Int → V} (h : C i j) (q : Q (g i j) H) : rI C g (.int i) (.int j) H Q := ⟨i, j, rfl, rfl, h, q⟩
theorem u1 {g : Int → V} (q : Q (g i) H) : rU g (.int i) H Q := ⟨i, rfl, q⟩
theorem eq (h : scal x y = true) (q : Q (.bl (decide (x = y))) H) : rEq x y H Q := ⟨h, q⟩
theorem ne (h : scal x y = true) (q : Q (.bl (!decide (x = y))) H) : rNe x y H Q := ⟨h, q⟩
theorem test {te : TE} (h : te σ H fun x H' => ∃ k, x = .bl k ∧ QB k H') : tTest te σ H QB := h
theorem tb {te : TE} (h : te σ H fun x H' => ∃ k, x = .bl k ∧ QB k H') : L2.tB te σ H QB := h
theorem isb {k : Bool} {R : Bool → Prop} (q : R k) : ∃ k', V.bl k = .bl k' ∧ R k' := ⟨k, rfl, q⟩
theorem not {t : TT} (h : t σ H fun c H1 => QB (!c) H1) : tNot t σ H QB := h
theorem and {t u : TT} (h : t σ H fun c H1 => if c = true then u σ H1 QB else QB false H1) : tAnd t u σ H QB := h
theorem or {t u : TT} (h : t σ H fun c H1 => if c = true then QB true H1 else u σ H1 QB) : tOr t u σ H QB := h
theorem andV {ta tb : TE} (h : ta σ H fun x H1 => ∃ c, x = .bl c ∧ if c = true then tb σ H1 Q else Q (.bl false) H1) : tAndV ta tb σ H Q := h
theorem orV {ta tb : TE} (h : ta σ H fun x H1 => ∃ c, x = .bl c ∧ if c = true then Q (.bl true) H1 else tb σ H1 Q) : tOrV ta tb σ H Q := h
theorem notV {ta : TE} (h : ta σ H fun x H1 => ∃ c, x = .bl c ∧ Q (.bl (!c)) H1) : tNotV ta σ H Q := h
theorem ifE {t : TT} {ta tb : TE} (h : t σ H fun c H1 => if c = true then ta σ H1 Q else tb σ H1 Q) : tIf t ta tb σ H Q := h
theorem chain {r r' : R2} {ta tb tc : TE} (h : ta σ H fun x H1 => tb σ H1 fun y H2 => r x y H2 fun z H3 => ∃ k, z = .bl k ∧ (if k = true then tc σ H3 fun w' H4 => r' y w' H4 Q else Q (.bl false) H3)) : tChain r r' ta tb tc σ H Q := h
theorem nil (q : QA [] H) : tNil σ H QA := q
theorem cons {ta : TE} {tr : TA} (h : ta σ H fun x H1 => tr σ H1 fun xs H2 => QA (x :: xs) H2) : tCons ta tr σ H QA := h
theorem tup {ta : TA} (h : ta σ H fun xs H1 => xs.length ≤ sizeLine ∧ ∀ p, H1 p = none → Q (.ref p) (upd H1 p (.tup xs))) : tTup ta σ H Q := h
theorem lst {ta : TA} (h : ta σ H fun xs H1 => xs.length ≤ sizeLine ∧ ∀ p, H1 p = none → Q (.ref p) (upd H1 p (.lst xs))) : tLst ta σ H Q := h
theorem cb {r : List V → Hp → VK → Prop} {t : TA} (h : t σ H fun vs H1 => r vs H1 Q) : tCB r t σ H Q := h
theorem call {sp : Sp} {dvs : List V} {E : XK} {t : TA} (h : t σ H fun vs H1 => sp (vs ++ dvs) H1 Q E) : tCall sp dvs E t σ H Q := h
theorem bm {T : String} {r : V → List V → Hp → VK → Prop} {to : TE} {t : TA} (h : to σ H fun x H1 => tyV K T x H1 ∧ t σ H1 fun xs H2 => r x xs H2 Q) : tBM K T r to t σ H Q := h
theorem m1 {r : V → List V → Hp → VK → Prop} {to te : TE} (h : to σ H fun x H1 => (∃ a, x = .str a) ∧ te σ H1 fun y H2 => r x [y] H2 Q) : tM1 r to te σ H Q := h
theorem ixL {p : Addr} {xs : List V} (h : SqL K H p xs) (ha : atI xs i = some v) (q : Q v H) : rIxL K (.ref p) (.int i) H Q := ⟨p, xs, i, v, rfl, rfl, h, ha, q⟩
theorem ixT {p : Addr} {xs : List V} (h : SqT K H p xs) (ha : atI xs i = some v) (q : Q v H) : rIxT K (.ref p) (.int i) H Q := ⟨p, xs, i, v, rfl, rfl, h, ha, q⟩
theorem ixS {z : Str} {c : Nat} (h : z.length ≤ sizeLine) (ha : atI z.cps.toList i = some c) (q : Q (.str ⟨#[c]⟩) H) : rIxS (.str z) (.int i) H Q := ⟨z, i, c, rfl, rfl, h, ha, q⟩
theorem dget {td ty : TE} (h : td σ H fun x H1 => ty σ H1 fun y H2 => ∃ a v, x = .ref a ∧ DGet H2 a y (some v) ∧ Q v H2) : tDGet td ty σ H Q := h
theorem din {ty td : TE} (h : ty σ H fun y H1 => td σ H1 fun x H2 => ∃ a o, x = .ref a ∧ DGet H2 a y o ∧ Q (.bl o.isSome) H2) : tDIn ty td σ H Q := h
theorem dnotin {ty td : TE} (h : ty σ H fun y H1 => td σ H1 fun x H2 => ∃ a o, x = .ref a ∧ DGet H2 a y o ∧ Q (.bl (!o.isSome)) H2) : tDNotIn ty td σ H Q := h
theorem slice {r : V → Option Int → Option Int → Hp → VK → Prop} {te : TE} {tl th : TO} (h : te σ H fun x H1 => tl σ H1 fun l H2 => th σ H2 fun u H3 => r x l u H3 Q) : tSl r te tl th σ H Q := h
theorem nopart {QO : Option Int → Hp → Prop} (q : QO none H) : tNoPart σ H QO := q
theorem part {QO : Option Int → Hp → Prop} {t : TE} (h : t σ H fun x H1 => ∃ i, x = .int i ∧ QO (some i) H1) : tPart t σ H QO := h
theorem isi {R : Int → Prop} (q : R i) : ∃ k, V.int i = .int k ∧ R k := ⟨i, rfl, q⟩
theorem fld {ta : TE} {f : Str} (h : ta σ H fun x H1 => ∃ a C dx fs v, x = .ref a ∧ H1 a = some (.ins C dx fs) ∧ Cls K C ∧ NoAttr K C f ∧ fs.lookup f = some v ∧ Q v H1) : tFld K ta f σ H Q := h
/-! statements -/
theorem seq {t u : TS} (h : t { D with nx := u D } σ H) : tSeq t u D σ H := h
theorem next (h : D.nx σ H) : tNext D σ H := h
theorem asg {te : TE} {g : TG} (h : te σ H fun x H1 => g x σ H1 D.nx) : tAsg te g D σ H := h
theorem gname {QS : L2.St → Hp → Prop} {n : Nat} (h : QS (σ.set n (some v)) H) : gName n v σ H QS := h
theorem drop {te : TE} (h : te σ H fun _ H1 => D.nx σ H1) : tDrop te D σ H := h
theorem ret {te : TE} (h : te σ H D.rt) : tRet te D σ H := h
theorem ifS {c : TT} {t u : TS} (h : c σ H fun b H1 => if b = true then t D σ H1 else u D σ H1) : tIfS c t u D σ H := h
theorem gsub {QS : L2.St → Hp → Prop} {to ti : TE} {t : TSet} (h : to σ H fun o H1 => ti σ H1 fun i H2 => t o i v H2 fun H3 => QS σ H3) : gSub to ti t v σ H QS := h
theorem dput {td ty tv : TE} (h : tv σ H fun v H1 => td σ H1 fun x H2 => ty σ H2 fun y H3 => ∃ a H4, x = .ref a ∧ DPut H3 a y v H4 ∧ D.nx σ H4) : sDPut td ty tv D σ H := h
theorem gtup {QS : L2.St → Hp → Prop} {n : Nat} {t : TGs} {a : Addr} {xs : List V} (h : SqT K H a xs) (hl : xs.length = n) (q : t xs σ H QS) : gTup K n t (.ref a) σ H QS := ⟨a, xs, rfl, h, hl, q⟩
theorem gcons {QS : L2.St → Hp → Prop} {t : TG} {u : TGs} {r : List V} (q : t v σ H fun σ' H' => u r σ' H' QS) : gCons t u (v :: r) σ H QS := ⟨v, r, rfl, q⟩
theorem gnil {QS : L2.St → Hp → Prop} (q : QS σ H) : gNil [] σ H QS := ⟨rfl, q⟩
theorem isinst {t n : String} {b : Bool} (ty : TyX K H x (.type t)) (hk : kitB t n = some b) (q : Q (.bl b) H) : rIsi K [x, .ty n] H Q := ⟨x, .ty n, .type t, .type n, b, rfl, .ty n, ty, kit_ty hk, q⟩
theorem isInt (q : Q (.bl true) H) : rIsi K [.int i, .ty "int"] H Q := isinst (t := "int") (.base (.int i)) (by decide +kernel) q
theorem isIntB (q : Q (.bl false) H) : rIsi K [.int i, .ty "bool"] H Q := isinst (t := "int") (.base (.int i)) (by decide +kernel) q
theorem isStr {z : Str} (q : Q (.bl true) H) : rIsi K [.str z, .ty "str"] H Q := isinst (t := "str") (.base (.str z)) (by decide +kernel) q
theorem isBool {k : Bool} (q : Q (.bl true) H) : rIsi K [.bl k, .ty "bool"] H Q := isinst (t := "bool") (.base (.bl k)) (by decide +kernel) q
theorem isTup {p : Addr} {xs : List V} (e : H p = some (.tup xs)) (q : Q (.bl true) H) : rIsi K [.ref p, .ty "tuple"] H Q := isinst (t := "tuple") (.base (.tup e)) (by decide +kernel) q
theorem isLst {p : Addr} {xs : List V} (e : H p = some (.lst xs)) (q : Q (.bl true) H) : rIsi K [.ref p, .ty "list"] H Q := isinst (t := "list") (.base (.lst e)) (by decide +kernel) q
theorem isDK {p : Addr} {kvs : List (Key × V)} (e : H p = some (.dK kvs)) (q : Q (.bl true) H) : rIsi K [.ref p, .ty "dict"] H Q := isinst (t := "dict") (.base (.dK e)) (by decide +kernel) q
theorem isDT {p : Addr} {kvs : List (List Key × V)} (e : H p = some (.dT kvs)) (q : Q (.bl true) H) : rIsi K [.ref p, .ty "dict"] H Q := isinst (t := "dict") (.base (.dT e)) (by decide +kernel) q
theorem ixListK {X : Cx} (h : X.K = K) : IxR X (rIxL K) := by rw [← h]; exact ix_list
theorem lenSeqK {X : Cx} (h : X.K = K) : CallR X (.builtin "len") (fun xs H Q => ∃ p ys, xs = [.ref p] ∧ (SqL K H p ys ∨ SqT K H p ys) ∧ Q (.int ys.length) H) := by rw [← h]; exact call_len_seq
theorem piListK {X : Cx} {tg l : Expr} {tl : TE} (h : X.K = K) (hl : PE X l tl) : PI X tg l (iList K tl) := by rw [← h]; exact pi_list hl
theorem itT {A B : Prop} (h : A) : if true = true then A else B := by rw [if_pos rfl]; exact h
theorem itF {A B : Prop} (h : B) : if false = true then A else B := by rw [if_neg Bool.false_ne_true]; exact h
theorem itB {b : Bool} {A B : Prop} (h1 : b = true → A) (h2 : b = false → B) : if b = true then A else B := by
  cases b with
  | true => rw [if_pos rfl]; exact h1 rfl
  | false => rw [if_neg Bool.false_ne_true]; exact h2 rfl
theorem itTd {p : Prop} [Decidable p] {A B : Prop} (hp : p) (h : A) : if decide p = true then A else B := by rw [decide_eq_true hp]; exact itT h
theorem itFd {p : Prop} [Decidable p] {A B : Prop} (hp : ¬ p) (h : B) : if decide p = true then A else B := by rw [decide_eq_false hp]; exact itF h
theorem itNTd {p : Prop} [Decidable p] {A B : Prop} (hp : ¬ p) (h : A) : if (!decide p) = true then A else B := by rw [decide_eq_false hp]; exact itT h
theorem itNFd {p : Prop} [Decidable p] {A B : Prop} (hp : p) (h : B) : if (!decide p) = true then A else B := by rw [decide_eq_true hp]; exact itF h
theorem eqT (h : scal x y = true) (e : x = y) (q : Q (.bl true) H) : rEq x y H Q := ⟨h, by rw [decide_eq_true e]; exact q⟩
theorem eqF (h : scal x y = true) (e : x ≠ y) (q : Q (.bl false) H) : rEq x y H Q := ⟨h, by rw [decide_eq_false e]; exact q⟩
theorem neT (h : scal x y = true) (e : x ≠ y) (q : Q (.bl true) H) : rNe x y H Q := ⟨h, by rw [decide_eq_false e]; exact q⟩
theorem neF (h : scal x y = true) (e : x = y) (q : Q (.bl false) H) : rNe x y H Q := ⟨h, by rw [decide_eq_true e]; exact q⟩
theorem itnT {A B : Prop} (h : B) : if (!true) = true then A else B := itF h
theorem itnF {A B : Prop} (h : A) : if (!false) = true then A else B := itT h
theorem yes (q : QB true H) : tYes σ H QB := q
theorem itP {p : Prop} [Decidable p] {A B : Prop} (h1 : p → A) (h2 : ¬ p → B) : if decide p = true then A else B := by
  by_cases h : p
  · rw [if_pos (decide_eq_true h)]; exact h1 h
  · rw [if_neg (by rw [decide_eq_false h]; exact Bool.false_ne_true)]; exact h2 h
theorem itNP {p : Prop} [Decidable p] {A B : Prop} (h1 : ¬ p → A) (h2 : p → B) : if (!decide p) = true then A else B := by
  by_cases h : p
  · rw [decide_eq_true h]; exact itF (h2 h)
  · rw [decide_eq_false h]; exact itT (h1 h)
end
end Rd

set_option Elab.async false
set_option linter.all false
set_option maxRecDepth 100000
set_option maxHeartbeats 4000000
/-! data of the table laws, and how they stand in the heap -/
namespace Dat
open PySem L2

/-! ### association lists -/
section
variable {κ β : Type} [DecidableEq κ]
def getA (l : List (κ × β)) (k : κ) : Option β := (l.find? fun p => decide (p.1 = k)).map (·.2)
def putA (l : List (κ × β)) (k : κ) (v : β) : List (κ × β) := if (l.any fun p => decide (p.1 = k)) = true then l.map (fun p => if p.1 = k then (p.1, v) else p) else l ++ [(k, v)]
theorem getA_nil {k : κ} : getA ([] : List (κ × β)) k = none := rfl
theorem getA_cons {p : κ × β} {r : List (κ × β)} {k : κ} : getA (p :: r) k = if p.1 = k then some p.2 else getA r k := by
  unfold getA
  rw [List.find?_cons]
  by_cases e : p.1 = k
  · rw [decide_eq_true e, if_pos e]; rfl
  · rw [decide_eq_false e, if_neg e]
theorem getA_mem {l : List (κ × β)} {k : κ} {v : β} (h : getA l k = some v) : (k, v) ∈ l := by
  induction l with
  | nil => cases h
  | cons p r ih =>
    rw [getA_cons] at h
    by_cases e : p.1 = k
    · rw [if_pos e] at h
      cases h
      rw [← e]
      exact List.mem_cons_self
    · rw [if_neg e] at h
      exact List.mem_cons_of_mem _ (ih h)
theorem getA_none {l : List (κ × β)} {k : κ} : getA l k = none ↔ k ∉ l.map (·.1) := by
  induction l with
  | nil => simp [getA_nil]
  | cons p r ih =>
    rw [getA_cons, List.map_cons, List.mem_cons]
    by_cases e : p.1 = k
    · rw [if_pos e]; simp [e]
    · rw [if_neg e, ih]
      constructor
      · rintro h (q | q)
        · exact e q.symm
        · exact h q
      · exact fun h q => h (.inr q)
theorem getA_isSome {l : List (κ × β)} {k : κ} : (getA l k).isSome = true ↔ k ∈ l.map (·.1) := by
  cases h : getA l k with
  | none => simp [getA_none.mp h]
  | some v => simp only [Option.isSome_some, true_iff]; exact List.mem_map.mpr ⟨_, getA_mem h, rfl⟩
theorem getA_of_mem {l : List (κ × β)} (hn : (l.map (·.1)).Nodup) {k : κ} {v : β} (h : (k, v) ∈ l) : getA l k = some v := by
  induction l with
  | nil => cases h
  | cons p r ih =>
    rw [List.map_cons, List.nodup_cons] at hn
    rw [getA_cons]
    rcases List.mem_cons.mp h with e | h
    · subst e
      rw [if_pos rfl]
    · by_cases e : p.1 = k
      · exact absurd (List.mem_map.mpr ⟨_, h, rfl⟩) (by rw [← e]; exact hn.1)
      · rw [if_neg e]
        exact ih hn.2 h
theorem any_iff {l : List (κ × β)} {k : κ} : (l.any fun p => decide (p.1 = k)) = true ↔ k ∈ l.map (·.1) := by
  rw [List.any_eq_true, List.mem_map]
  constructor
  · rintro ⟨p, h, e⟩
    exact ⟨p, h, of_decide_eq_true e⟩
  · rintro ⟨p, h, e⟩
    exact ⟨p, h, decide_eq_true e⟩
theorem putA_keys (l : List (κ × β)) (k : κ) (v : β) : (putA l k v).map (·.1) = if k ∈ l.map (·.1) then l.map (·.1) else l.map (·.1) ++ [k] := by
  unfold putA
  by_cases h : k ∈ l.map (·.1)
  · rw [if_pos (any_iff.mpr h), if_pos h, List.map_map]
    refine List.map_congr_left fun p _ => ?_
    show (if p.1 = k then (p.1, v) else p).1 = p.1
    split <;> rfl
  · rw [if_neg (fun q => h (any_iff.mp q)), if_neg h, List.map_append]
    rfl
theorem putA_mem_keys {l : List (κ × β)} {k x : κ} {v : β} : x ∈ (putA l k v).map (·.1) ↔ x ∈ l.map (·.1) ∨ x = k := by
  rw [putA_keys]
  split
  · rename_i h
    exact ⟨.inl, fun q => q.elim id fun e => e ▸ h⟩
  · simp
theorem putA_nodup {l : List (κ × β)} {k : κ} {v : β} (h : (l.map (·.1)).Nodup) : ((putA l k v).map (·.1)).Nodup := by
  rw [putA_keys]
  split
  · exact h
  · rename_i q
    rw [List.nodup_append]
    exact ⟨h, by simp, fun a ha b hb => by
      have : b = k := by simpa using hb
      rw [this]
      exact fun e => q (e ▸ ha)⟩
theorem putA_mem {l : List (κ × β)} {k : κ} {v : β} {p : κ × β} (h : p ∈ putA l k v) : (p ∈ l ∧ p.1 ≠ k) ∨ p = (k, v) := by
  unfold putA at h
  split at h
  · obtain ⟨q, hq, e⟩ := List.mem_map.mp h
    by_cases c : q.1 = k
    · rw [if_pos c] at e
      right
      rw [← e, c]
    · rw [if_neg c] at e
      left
      rw [← e]
      exact ⟨hq, c⟩
  · rename_i c
    rcases List.mem_append.mp h with q | q
    · refine .inl ⟨q, fun e => c (any_iff.mpr (List.mem_map.mpr ⟨p, q, e⟩))⟩
    · right
      simpa using q
theorem putA_get {l : List (κ × β)} {k x : κ} {v : β} : getA (putA l k v) x = if x = k then some v else getA l x := by
  induction l with
  | nil =>
    show getA [(k, v)] x = _
    rw [getA_cons, getA_nil]
    by_cases e : x = k
    · rw [if_pos e, if_pos e.symm]
    · rw [if_neg e, if_neg (fun q => e q.symm)]
  | cons p r ih =>
    by_cases hp : p.1 = k
    · have hm : ((p :: r).any fun p => decide (p.1 = k)) = true := by simp [hp]
      unfold putA
      rw [if_pos hm, List.map_cons, if_pos hp, getA_cons]
      dsimp only
      by_cases e : x = k
      · rw [if_pos (hp.trans e.symm), if_pos e]
      · rw [if_neg (fun q => e (q.symm.trans hp)), if_neg e, getA_cons, if_neg (fun q => e (q.symm.trans hp))]
        have : ∀ s : List (κ × β), getA (s.map fun p => if p.1 = k then (p.1, v) else p) x = getA s x := by
          intro s
          induction s with
          | nil => rfl
          | cons q s ih2 =>
            rw [List.map_cons, getA_cons, getA_cons, ih2]
            by_cases c : q.1 = k
            · rw [if_pos c]
              rw [if_neg (fun z => e (z.symm.trans c)), if_neg (fun z => e (z.symm.trans c))]
            · rw [if_neg c]
        exact this r
    · have hh : putA (p :: r) k v = p :: putA r k v := by
        unfold putA
        have : ((p :: r).any fun p => decide (p.1 = k)) = (r.any fun p => decide (p.1 = k)) := by simp [hp]
        rw [this]
        by_cases c : (r.any fun p => decide (p.1 = k)) = true
        · rw [if_pos c, if_pos c, List.map_cons, if_neg hp]
        · rw [if_neg c, if_neg c, List.cons_append]
      rw [hh, getA_cons, getA_cons, ih]
      by_cases e : p.1 = x
      · rw [if_pos e, if_neg (fun q => hp (e.trans q)), if_pos e]
      · rw [if_neg e, if_neg e]
theorem putA_len {l : List (κ × β)} {k : κ} {v : β} : (putA l k v).length ≤ l.length + 1 := by
  unfold putA
  split
  · rw [List.length_map]; omega
  · rw [List.length_append]; exact Nat.le_refl _
end

/-! ### dicts whose keys are texts -/
def kvM {β : Type} (f : β → V) (l : List (Str × β)) : List (Key × V) := l.map fun p => (Sum.inr p.1, f p.2)
theorem kvM_len {β : Type} (f : β → V) (l : List (Str × β)) : (kvM f l).length = l.length := List.length_map _
theorem kvM_get {β : Type} (f : β → V) (l : List (Str × β)) (x : Str) : valV (kvM f l) (.inr x) = (getA l x).map f := by
  induction l with
  | nil => rfl
  | cons p r ih =>
    rw [getA_cons]
    show valV ((Sum.inr p.1, f p.2) :: kvM f r) (.inr x) = _
    by_cases e : p.1 = x
    · rw [valV_pos (by rw [e]), if_pos e]; rfl
    · rw [valV_neg (fun q => e (Sum.inr.inj q)), if_neg e, ih]
theorem kvM_put {β : Type} (f : β → V) (l : List (Str × β)) (x : Str) (v : β) : putK (kvM f l) (.inr x) (f v) = kvM f (putA l x v) := by
  unfold putK putA kvM
  have e : ((l.map fun p => ((Sum.inr p.1 : Key), f p.2)).any fun kv => decide (kv.1 = Sum.inr x)) = (l.any fun p => decide (p.1 = x)) := by
    rw [List.any_map]
    congr 1
    funext p
    exact decide_eq_decide.mpr ⟨Sum.inr.inj, fun h => by show Sum.inr p.1 = Sum.inr x; rw [h]⟩
  rw [e]
  by_cases c : (l.any fun p => decide (p.1 = x)) = true
  · rw [if_pos c, if_pos c, List.map_map, List.map_map]
    refine List.map_congr_left fun p _ => ?_
    show (if (Sum.inr p.1 : Key) = Sum.inr x then ((Sum.inr p.1 : Key), f v) else (Sum.inr p.1, f p.2)) = (Sum.inr (if p.1 = x then (p.1, v) else p).1, f (if p.1 = x then (p.1, v) else p).2)
    by_cases q : p.1 = x
    · rw [if_pos (by rw [q]), if_pos q]
    · rw [if_neg (fun z => q (Sum.inr.inj z)), if_neg q]
  · rw [if_neg c, if_neg c, List.map_append]
    rfl

/-! ### steps -/
abbrev Row := (Str × Str) × (Str × Bool)
def StepRel (H : Hp) (kv : List Key × V) (e : Row) : Prop := kv.1 = [Sum.inr e.1.1, Sum.inr e.1.2] ∧ ∃ p, kv.2 = V.ref p ∧ H p = some (.tup [.str e.2.1, .bl e.2.2])
def StepsIs (H : Hp) (kvs : List (List Key × V)) (st : List Row) : Prop := Paired (StepRel H) kvs st
def skey (k : Str × Str) : List Key := [Sum.inr k.1, Sum.inr k.2]
theorem skey_inj {a b : Str × Str} (h : skey a = skey b) : a = b := by
  unfold skey at h
  injection h with h1 h2
  injection h2 with h2 _
  exact Prod.ext (Sum.inr.inj h1) (Sum.inr.inj h2)
theorem StepsIs.mono {H H' : Hp} {kvs : List (List Key × V)} {st : List Row} (h : StepsIs H kvs st) (k : ∀ p xs, H p = some (.tup xs) → H' p = some (.tup xs)) : StepsIs H' kvs st :=
  Paired.mapP h fun _ _ ⟨a, p, b, c⟩ => ⟨a, p, b, k _ _ c⟩
theorem StepsIs.len {H : Hp} {kvs : List (List Key × V)} {st : List Row} (h : StepsIs H kvs st) : kvs.length = st.length := Paired.length h
theorem StepsIs.get {H : Hp} {kvs : List (List Key × V)} {st : List Row} (h : StepsIs H kvs st) (k : Str × Str) : match getA st k with
    | none => valV kvs (skey k) = none
    | some r => ∃ p, valV kvs (skey k) = some (V.ref p) ∧ H p = some (.tup [.str r.1, .bl r.2]) := by
  unfold StepsIs at h
  induction h with
  | nil => rfl
  | @cons kv e ks es hr t ih =>
    obtain ⟨h1, p, h2, h3⟩ := hr
    rw [getA_cons]
    by_cases c : e.1 = k
    · rw [if_pos c]
      refine ⟨p, ?_, h3⟩
      rw [valV_pos (by rw [h1, ← c]; rfl), h2]
    · rw [if_neg c]
      have : ¬ kv.1 = skey k := fun q => c (skey_inj (h1.symm.trans q))
      rw [valV_neg this]
      exact ih
theorem StepsIs.at {H : Hp} {kvs : List (List Key × V)} {st : List Row} (h : StepsIs H kvs st) {i : Nat} {kv : List Key × V} (hi : kvs[i]? = some kv) : ∃ e, st[i]? = some e ∧ StepRel H kv e := by
  unfold StepsIs at h
  induction h generalizing i with
  | nil => simp at hi
  | @cons kv0 e0 ks es hr t ih =>
    cases i with
    | zero =>
      have : kv0 = kv := by simpa using hi
      subst this
      exact ⟨e0, rfl, hr⟩
    | succ i => simpa using ih (by simpa using hi)
theorem StepsIs.put {H : Hp} {kvs : List (List Key × V)} {st : List Row} (h : StepsIs H kvs st) (k : Str × Str) {p : Addr} {t : Str} {b : Bool} (hp : H p = some (.tup [.str t, .bl b])) : StepsIs H (putK kvs (skey k) (.ref p)) (putA st k (t, b)) := by
  have e : (kvs.any fun kv => decide (kv.1 = skey k)) = (st.any fun q => decide (q.1 = k)) := by
    unfold StepsIs at h
    induction h with
    | nil => rfl
    | @cons kv e ks es hr t ih =>
      rw [List.any_cons, List.any_cons, ih]
      congr 1
      refine decide_eq_decide.mpr ⟨fun q => skey_inj (hr.1.symm.trans q), fun q => by rw [hr.1, ← q]; rfl⟩
  unfold putK putA
  rw [e]
  by_cases c : (st.any fun q => decide (q.1 = k)) = true
  · rw [if_pos c, if_pos c]
    unfold StepsIs at h ⊢
    clear e c
    induction h with
    | nil => exact .nil
    | @cons kv e ks es hr _ ih =>
      rw [List.map_cons, List.map_cons]
      refine .cons ?_ ih
      by_cases q : e.1 = k
      · rw [if_pos (show kv.1 = skey k by rw [hr.1, ← q]; rfl), if_pos q]
        exact ⟨hr.1, p, rfl, hp⟩
      · rw [if_neg (fun z => q (skey_inj (hr.1.symm.trans z))), if_neg q]
        exact hr
  · rw [if_neg c, if_neg c]
    exact Paired.snoc h ⟨rfl, p, rfl, hp⟩

/-! ### heaps -/
theorem same_new {H : Hp} {p : Addr} {o : HO} (h : H p = none) : Same H (upd H p o) := fun b x e => by
  rw [upd_ne (ne_of_none e h)]
  exact e
theorem same_mut {H0 H : Hp} {p : Addr} {o : HO} (s : Same H0 H) (h : H0 p = none) : Same H0 (upd H p o) := fun b x e => by
  rw [upd_ne (ne_of_none e h)]
  exact s b x e
theorem upd_back {H : Hp} {d : Addr} {u o : HO} (h : H d = some u) : upd (upd H d o) d u = H := by
  rw [upd_upd]
  funext b
  by_cases e : b = d
  · subst e
    rw [upd_same, h]
  · rw [upd_ne e]
theorem sq_of {K : PySem.W.Frag} {H : Hp} {a : Addr} {xs : List V} (h : H a = some (.lst xs)) : SqL K H a xs := .inl (.inl h)
theorem st_of {K : PySem.W.Frag} {H : Hp} {a : Addr} {xs : List V} (h : H a = some (.tup xs)) : SqT K H a xs := .inl (.inl h)

/-! ### a dict's own loop, the dict locked -/
section
variable {σ : L2.St} {H : Hp} {D : Ends} {g : TG} {tb : TS} {td : TE} {d : Addr}
abbrev relK (d : Addr) (od : Obj) (u : HO) (D : Ends) (Pv : L2.St → Hp → Prop) : Ends :=
  { nx := Pv, ct := Pv, bk := fun σ' H' => H' d = some (.frz od u) ∧ D.nx σ' (upd H' d u), rt := fun v H' => H' d = some (.frz od u) ∧ D.rt v (upd H' d u) }
theorem lockK {kvs : List (Key × V)} (hd : H d = some (.dK kvs)) (htd : ∀ od (Q : VK), Q (.ref d) (upd H d (.frz od (.dK kvs))) → td σ (upd H d (.frz od (.dK kvs))) Q) (Pv : Obj → Nat → L2.St → Hp → Prop)
    (h0 : ∀ od, Pv od 0 σ (upd H d (.frz od (.dK kvs)))) (hl : ∀ od i σ' H', Pv od i σ' H' → H' d = some (.frz od (.dK kvs)))
    (hs : ∀ od i k v σ' H', kvs[i]? = some (k, v) → Pv od i σ' H' → g (kV k) σ' H' fun σ2 H2 => tb (relK d od (.dK kvs) D (Pv od (i + 1))) σ2 H2)
    (he : ∀ od σ' H', Pv od kvs.length σ' H' → D.nx σ' (upd H' d (.dK kvs))) : tLock (tFor (iKeys td) g tb) D σ H := by
  refine ⟨d, .dK kvs, hd, True.intro, fun od => htd od _ ⟨d, od, rfl, .inl ⟨kvs, upd_same, ?_⟩⟩⟩
  refine ⟨fun i m σ' H' => m = kvs.length - i ∧ i ≤ kvs.length ∧ Pv od i σ' H', ⟨kvs.length, by simp, Nat.zero_le _, h0 od⟩, ?_⟩
  rintro i m σ' H' ⟨rfl, hi, p⟩
  have fz := hl od i σ' H' p
  by_cases hlt : i < kvs.length
  · refine .inr ⟨⟨fz, hlt⟩, Pv od (i + 1), fun σ2 H2 p2 => ⟨kvs.length - (i + 1), by omega, rfl, hlt, p2⟩, fun x H2 y => ?_⟩
    obtain ⟨e, k, v, hk, ex⟩ := y
    rw [e, ex]
    exact hs od i k v σ' H' hk p
  · have ei : i = kvs.length := by omega
    subst ei
    exact .inl ⟨⟨fz, Nat.le_refl _⟩, fz, he od σ' H' p⟩
theorem lockT {kvs : List (List Key × V)} (hd : H d = some (.dT kvs)) (htd : ∀ od (Q : VK), Q (.ref d) (upd H d (.frz od (.dT kvs))) → td σ (upd H d (.frz od (.dT kvs))) Q) (Pv : Obj → Nat → L2.St → Hp → Prop)
    (h0 : ∀ od, Pv od 0 σ (upd H d (.frz od (.dT kvs)))) (hl : ∀ od i σ' H', Pv od i σ' H' → H' d = some (.frz od (.dT kvs)))
    (hs : ∀ od i k v q σ' H', kvs[i]? = some (k, v) → H' q = some (.tup (k.map kV)) → Pv od i σ' H' → g (.ref q) σ' H' fun σ2 H2 => tb (relK d od (.dT kvs) D (Pv od (i + 1))) σ2 H2)
    (he : ∀ od σ' H', Pv od kvs.length σ' H' → D.nx σ' (upd H' d (.dT kvs))) : tLock (tFor (iKeys td) g tb) D σ H := by
  refine ⟨d, .dT kvs, hd, True.intro, fun od => htd od _ ⟨d, od, rfl, .inr ⟨kvs, upd_same, ?_⟩⟩⟩
  refine ⟨fun i m σ' H' => m = kvs.length - i ∧ i ≤ kvs.length ∧ Pv od i σ' H', ⟨kvs.length, by simp, Nat.zero_le _, h0 od⟩, ?_⟩
  rintro i m σ' H' ⟨rfl, hi, p⟩
  have fz := hl od i σ' H' p
  by_cases hlt : i < kvs.length
  · refine .inr ⟨⟨fz, hlt⟩, Pv od (i + 1), fun σ2 H2 p2 => ⟨kvs.length - (i + 1), by omega, rfl, hlt, p2⟩, fun x H2 y => ?_⟩
    obtain ⟨e, k, v, q, hk, ex, hq⟩ := y
    rw [e, ex]
    exact hs od i k v q σ' H' hk hq p
  · have ei : i = kvs.length := by omega
    subst ei
    exact .inl ⟨⟨fz, Nat.le_refl _⟩, fz, he od σ' H' p⟩
end
/-! ### a comprehension over a text's signs -/
theorem lcStr {x : Str} {g : TG} {tt : TT} {te : TE} {vs : List Nat} {σ : L2.St} {H1 : Hp} {D : Addr} {Qd : Hp → Prop} (Pv : Nat → Hp → Prop) (h0 : Pv 0 (upd H1 D (.lst [])))
    (hs : ∀ i c H, x.cps.toList[i]? = some c → Pv i H → g (.str ⟨#[c]⟩) (wipe σ vs) H fun σ2 H2 => wipe σ2 vs = wipe σ vs ∧ tt σ2 H2 fun b H3 =>
      if b = true then te σ2 H3 fun y H4 => ∃ acc, H4 D = some (.lst acc) ∧ acc.length < sizeLine ∧ Pv (i + 1) (upd H4 D (.lst (acc ++ [y]))) else Pv (i + 1) H3) (hd : ∀ H, Pv x.cps.toList.length H → Qd H) :
    ∃ W : Nat → Nat → Hp → Prop, (∃ m, W 0 m (upd H1 D (.lst []))) ∧ ∀ i m H, W i m H →
      ((Its x).stop i H ∧ Qd H) ∨ ((Its x).go i H ∧ ∃ Nx : Hp → Prop, (∀ H', Nx H' → ∃ m', m' < m ∧ W (i + 1) m' H') ∧ ∀ y H', (Its x).yld i H y H' → g y (wipe σ vs) H' fun σ2 H2 => wipe σ2 vs = wipe σ vs ∧ tt σ2 H2 fun b H3 =>
        if b = true then te σ2 H3 fun y H4 => ∃ acc, H4 D = some (.lst acc) ∧ acc.length < sizeLine ∧ Nx (upd H4 D (.lst (acc ++ [y]))) else Nx H3) := by
  refine ⟨fun i m H => m = x.cps.toList.length - i ∧ i ≤ x.cps.toList.length ∧ Pv i H, ⟨x.cps.toList.length, by simp, Nat.zero_le _, h0⟩, ?_⟩
  rintro i m H ⟨rfl, hi, p⟩
  have hz : x.cps.toList.length = x.cps.size := Array.length_toList
  by_cases hlt : i < x.cps.size
  · refine .inr ⟨hlt, Pv (i + 1), fun H' p' => ⟨x.cps.toList.length - (i + 1), by omega, rfl, by omega, p'⟩, fun y H' q => ?_⟩
    obtain ⟨e, c, hc, ey⟩ := q
    rw [e, ey]
    exact hs i c _ (by rw [Array.getElem?_toList]; exact hc) p
  · have e : i = x.cps.toList.length := by omega
    subst e
    exact .inl ⟨(by show x.cps.size ≤ _; omega), hd H p⟩
end Dat

set_option Elab.async false
set_option linter.all false
set_option maxRecDepth 100000
set_option maxHeartbeats 4000000
/-! what each def of the table laws promises -/
namespace Sp33
open PySem L2 Dat TOr

/-- a name: one to eight letters -/
def NameOk (x : Str) : Prop := 1 ≤ x.length ∧ x.length ≤ 8 ∧ ∀ c ∈ x.cps.toList, 97 ≤ c ∧ c ≤ 122
def HomesOk (hs : List (Str × Str)) (rs : List (Str × Int)) : Prop := 1 ≤ hs.length ∧ hs.length ≤ 8 ∧ ∀ p ∈ hs, NameOk p.1 ∧ NameOk p.2 ∧ p.2 ∈ rs.map (·.1)
def RatesOk (rs : List (Str × Int)) : Prop := 1 ≤ rs.length ∧ rs.length ≤ 6 ∧ ∀ p ∈ rs, NameOk p.1 ∧ 0 ≤ p.2 ∧ p.2 ≤ 1000000000
structure Tab where
  start : Str
  homes : List (Str × Str)
  rates : List (Str × Int)
  steps : List Row
def Tab.step (T : Tab) (s c : Str) : Str := ((getA T.steps (s, c)).getD (Str.empty, false)).1
/-- what holds of a drawn table; cs: its causes -/
structure TabOk (T : Tab) (cs : List Str) : Prop where
  start : T.start ∈ T.homes.map (·.1)
  homes : HomesOk T.homes T.rates
  hnd : (T.homes.map (·.1)).Nodup
  rates : RatesOk T.rates
  rnd : (T.rates.map (·.1)).Nodup
  snd : (T.steps.map (·.1)).Nodup
  srow : ∀ e ∈ T.steps, e.1.1 ∈ T.homes.map (·.1) ∧ e.1.2 ∈ cs ∧ e.2.1 ∈ T.homes.map (·.1)
  full : ∀ s ∈ T.homes.map (·.1), ∀ c ∈ cs, ∃ r, getA T.steps (s, c) = some r
  causes : ∀ c ∈ cs, NameOk c
  few : cs.length ≤ 6
theorem TabOk.tgt {T : Tab} {cs : List Str} (o : TabOk T cs) {s c : Str} (hs : s ∈ T.homes.map (·.1)) (hc : c ∈ cs) : T.step s c ∈ T.homes.map (·.1) := by
  obtain ⟨r, e⟩ := o.full s hs c hc
  unfold Tab.step
  rw [e]
  exact (o.srow _ (getA_mem e)).2.2
theorem TabOk.name {T : Tab} {cs : List Str} (o : TabOk T cs) {s : Str} (hs : s ∈ T.homes.map (·.1)) : NameOk s := by
  obtain ⟨p, hp, rfl⟩ := List.mem_map.mp hs
  exact (o.homes.2.2 p hp).1
/-- the table's own object -/
def tabFs (start : Str) (p1 p2 p3 d1 d2 d3 : Addr) : List (Str × V) :=
  [("start", .str start), ("statuses", .ref p1), ("causes", .ref p2), ("columns", .ref p3), ("_homes", .ref d1), ("_rates", .ref d2), ("_steps", .ref d3)]
structure TabAt (C : Addr) (H : Hp) (a : Addr) (T : Tab) (cs : List Str) : Prop where
  ex : ∃ (dx p1 p2 p3 d1 d2 d3 : Addr) (ss cl : List Str) (skv : List (List Key × V)), H a = some (.ins C dx (tabFs T.start p1 p2 p3 d1 d2 d3)) ∧ H p1 = some (.tup (ss.map V.str)) ∧ H p2 = some (.tup (cs.map V.str)) ∧ H p3 = some (.tup (cl.map V.str)) ∧
    H d1 = some (.dK (kvM V.str T.homes)) ∧ H d2 = some (.dK (kvM V.int T.rates)) ∧ H d3 = some (.dT skv) ∧ StepsIs H skv T.steps
theorem TabAt.mono {C : Addr} {H H' : Hp} {a : Addr} {T : Tab} {cs : List Str} (h : TabAt C H a T cs) (s : Same H H') : TabAt C H' a T cs := by
  obtain ⟨dx, p1, p2, p3, d1, d2, d3, ss, cl, skv, h0, h1, h2, h3, h4, h5, h6, h7⟩ := h.ex
  exact ⟨dx, p1, p2, p3, d1, d2, d3, ss, cl, skv, s _ _ h0, s _ _ h1, s _ _ h2, s _ _ h3, s _ _ h4, s _ _ h5, s _ _ h6, h7.mono fun p xs e => s _ _ e⟩
/-- what the causes of a made table are -/
structure CausesOf (cs tcs : List Str) : Prop where
  mem : ∀ c, c ∈ tcs ↔ c ∈ cs
  srt : tcs.Pairwise (fun a b => ltS a b = true)
/-- the law's plan -/
structure PlanAt (H : Hp) (a : Addr) (T : Tab) (cs : List Str) : Prop where
  ex : ∃ (kvs : List (Key × V)) (d1 d2 d3 l : Addr) (skv : List (List Key × V)), H a = some (.dK kvs) ∧ valV kvs (.inr "first") = some (.str T.start) ∧ valV kvs (.inr "homes") = some (.ref d1) ∧ valV kvs (.inr "rates") = some (.ref d2) ∧ valV kvs (.inr "steps") = some (.ref d3) ∧ valV kvs (.inr "causes") = some (.ref l) ∧
    H d1 = some (.dK (kvM V.str T.homes)) ∧ H d2 = some (.dK (kvM V.int T.rates)) ∧ H d3 = some (.dT skv) ∧ StepsIs H skv T.steps ∧ H l = some (.lst (cs.map V.str))
theorem PlanAt.mono {H H' : Hp} {a : Addr} {T : Tab} {cs : List Str} (h : PlanAt H a T cs) (s : Same H H') : PlanAt H' a T cs := by
  obtain ⟨kvs, d1, d2, d3, l, skv, h0, v1, v2, v3, v4, v5, h1, h2, h3, h4, h5⟩ := h.ex
  exact ⟨kvs, d1, d2, d3, l, skv, s _ _ h0, v1, v2, v3, v4, v5, s _ _ h1, s _ _ h2, s _ _ h3, h4.mono fun p xs e => s _ _ e, s _ _ h5⟩

/-! ### the generator's heap: which thing stands where, by its kind -/
inductive Ty where
  | pot | ints (n : Nat) (hi : Int) | bools (n : Nat) | rows (n : Nat) (t : Ty) | ex (o : HO) | rates (cols : List Str)
def Sat (T : Addr → Option Ty) (o : HO) : Ty → Prop
  | .pot => ∃ c s n : Int, o = .lst [.int c, .int s, .int n]
  | .ints n hi => ∃ xs : List Int, o = .lst (xs.map V.int) ∧ xs.length = n ∧ ∀ x ∈ xs, 0 ≤ x ∧ x < hi
  | .bools n => ∃ bs : List Bool, o = .lst (bs.map V.bl) ∧ bs.length = n
  | .rows n t => ∃ ps : List Addr, o = .lst (ps.map V.ref) ∧ ps.length = n ∧ ∀ p ∈ ps, T p = some t
  | .ex u => o = u
  | .rates cols => ∃ rs : List (Str × Int), o = .dK (kvM V.int rs) ∧ (rs.map (·.1)).Nodup ∧ (∀ x, x ∈ rs.map (·.1) ↔ x ∈ cols) ∧ ∀ p ∈ rs, 0 ≤ p.2 ∧ p.2 ≤ 1000000000
abbrev TM := Addr → Option Ty
def Hty (T : TM) (H : Hp) : Prop := ∀ a t, T a = some t → ∃ o, H a = some o ∧ Sat T o t
def ext (T : TM) (p : Addr) (t : Ty) : TM := fun b => if b = p then some t else T b
theorem ext_same {T : TM} {p : Addr} {t : Ty} : ext T p t p = some t := if_pos rfl
theorem ext_ne {T : TM} {p b : Addr} {t : Ty} (h : b ≠ p) : ext T p t b = T b := if_neg h
structure Post (T : TM) (H : Hp) (T' : TM) (H' : Hp) : Prop where
  ty : ∀ a t, T a = some t → T' a = some t
  ok : Hty T' H'
  fr : ∀ b o, H b = some o → T b = none → H' b = some o ∧ T' b = none
theorem Sat.mono {T T' : TM} (h : ∀ a t, T a = some t → T' a = some t) {o : HO} : ∀ {t : Ty}, Sat T o t → Sat T' o t
  | .pot, s => s
  | .ints _ _, s => s
  | .bools _, s => s
  | .rows _ _, ⟨ps, a, b, c⟩ => ⟨ps, a, b, fun p hp => h _ _ (c p hp)⟩
  | .ex _, s => s
  | .rates _, s => s
theorem Hty.none {T : TM} {H : Hp} (h : Hty T H) {p : Addr} (hp : H p = Option.none) : T p = Option.none := by
  cases e : T p with
  | none => rfl
  | some t =>
    obtain ⟨o, ho, _⟩ := h p t e
    rw [hp] at ho
    cases ho
theorem Post.refl {T : TM} {H : Hp} (h : Hty T H) : Post T H T H := ⟨fun _ _ e => e, h, fun _ _ a b => ⟨a, b⟩⟩
theorem Post.trans {T T1 T2 : TM} {H H1 H2 : Hp} (a : Post T H T1 H1) (b : Post T1 H1 T2 H2) : Post T H T2 H2 :=
  ⟨fun x t e => b.ty x t (a.ty x t e), b.ok, fun x o h1 h2 => let ⟨q1, q2⟩ := a.fr x o h1 h2; b.fr x o q1 q2⟩
/-- a new thing that no kind is said of -/
theorem Post.new {T0 T : TM} {H0 H : Hp} (a : Post T0 H0 T H) {p : Addr} {o : HO} (hp : H p = none) : Post T0 H0 T (upd H p o) := by
  have tp := a.ok.none hp
  refine ⟨a.ty, fun x t e => ?_, fun x u h1 h2 => ?_⟩
  · obtain ⟨u, hu, s⟩ := a.ok x t e
    exact ⟨u, by rw [upd_ne (fun q => by rw [q, tp] at e; cases e)]; exact hu, s⟩
  · obtain ⟨q1, q2⟩ := a.fr x u h1 h2
    exact ⟨by rw [upd_ne (ne_of_none q1 hp)]; exact q1, q2⟩
/-- an own new thing changes -/
theorem Post.mut {T0 T : TM} {H0 H : Hp} (a : Post T0 H0 T H) {p : Addr} {o : HO} (h0 : H0 p = none) (tp : T p = none) : Post T0 H0 T (upd H p o) := by
  refine ⟨a.ty, fun x t e => ?_, fun x u h1 h2 => ?_⟩
  · obtain ⟨u, hu, s⟩ := a.ok x t e
    exact ⟨u, by rw [upd_ne (fun q => by rw [q, tp] at e; cases e)]; exact hu, s⟩
  · obtain ⟨q1, q2⟩ := a.fr x u h1 h2
    exact ⟨by rw [upd_ne (ne_of_none h1 h0)]; exact q1, q2⟩
/-- a thing keeps its kind -/
theorem Post.set {T0 T : TM} {H0 H : Hp} (a : Post T0 H0 T H) {p : Addr} {t : Ty} {o : HO} (tp : T p = some t) (s : Sat T o t) : Post T0 H0 T (upd H p o) := by
  refine ⟨a.ty, fun x u e => ?_, fun x u h1 h2 => ?_⟩
  · by_cases q : x = p
    · subst q
      rw [tp] at e
      cases e
      exact ⟨o, upd_same, s⟩
    · obtain ⟨v, hv, s'⟩ := a.ok x u e
      exact ⟨v, by rw [upd_ne q]; exact hv, s'⟩
  · obtain ⟨q1, q2⟩ := a.fr x u h1 h2
    exact ⟨by rw [upd_ne (fun e => by rw [e, tp] at q2; cases q2)]; exact q1, q2⟩
/-- a new thing gets its kind -/
theorem Post.kind {T0 T : TM} {H0 H : Hp} (a : Post T0 H0 T H) {p : Addr} {t : Ty} {o : HO} (h0 : H0 p = none) (tp : T p = none) (hp : H p = some o) (s : Sat T o t) : Post T0 H0 (ext T p t) H := by
  have up : ∀ x u, T x = some u → ext T p t x = some u := fun x u e => by rw [ext_ne (fun q => by rw [q, tp] at e; cases e)]; exact e
  refine ⟨fun x u e => up x u (a.ty x u e), fun x u e => ?_, fun x u h1 h2 => ?_⟩
  · by_cases q : x = p
    · subst q
      rw [ext_same] at e
      cases e
      exact ⟨o, hp, s.mono up⟩
    · rw [ext_ne q] at e
      obtain ⟨v, hv, s'⟩ := a.ok x u e
      exact ⟨v, hv, s'.mono up⟩
  · obtain ⟨q1, q2⟩ := a.fr x u h1 h2
    exact ⟨q1, by rw [ext_ne (ne_of_none h1 h0)]; exact q2⟩
/-- an own thing stays behind a call -/
theorem Post.own {T T' : TM} {H H' : Hp} (a : Post T H T' H') {p : Addr} {o : HO} (hp : H p = some o) (tp : T p = none) : H' p = some o ∧ T' p = none := a.fr p o hp tp
theorem Post.at_ex {T T' : TM} {H H' : Hp} (a : Post T H T' H') {p : Addr} {o : HO} (tp : T p = some (.ex o)) : H' p = some o := by
  obtain ⟨u, hu, s⟩ := a.ok p _ (a.ty _ _ tp)
  rw [hu, show u = o from s]
theorem Hty.at_ex {T : TM} {H : Hp} (a : Hty T H) {p : Addr} {o : HO} (tp : T p = some (.ex o)) : H p = some o := by
  obtain ⟨u, hu, s⟩ := a p _ tp
  rw [hu, show u = o from s]
/-- the script, under such a heap -/
def ScrAt (K : PySem.W.Frag) (T : TM) (H : Hp) (a : Addr) (ns : List Int) : Prop := (Rd H a (.lst (ns.map V.int)) ∧ T a = none) ∨ ∀ H', SqL K H' a (ns.map V.int)
theorem ScrAt.sq {K : PySem.W.Frag} {T : TM} {H : Hp} {a : Addr} {ns : List Int} (s : ScrAt K T H a ns) : SqL K H a (ns.map V.int) := by
  rcases s with ⟨h, _⟩ | h
  · exact .inl h
  · exact h H
theorem ScrAt.of {K : PySem.W.Frag} {H : Hp} {a : Addr} {ns : List Int} (s : SqL K H a (ns.map V.int)) : ScrAt K (fun _ => none) H a ns := by
  rcases s with h | h
  · exact .inl ⟨h, rfl⟩
  · exact .inr fun _ => .inr h
theorem ScrAt.mono {K : PySem.W.Frag} {T T' : TM} {H H' : Hp} {a : Addr} {ns : List Int} (s : ScrAt K T H a ns) (p : Post T H T' H') : ScrAt K T' H' a ns := by
  rcases s with ⟨h, t⟩ | h
  · rcases h with h | ⟨u, h⟩
    · obtain ⟨q1, q2⟩ := p.fr a _ h t
      exact .inl ⟨.inl q1, q2⟩
    · obtain ⟨q1, q2⟩ := p.fr a _ h t
      exact .inl ⟨.inr ⟨u, q1⟩, q2⟩
  · exact .inr h

/-! ### the promises -/
abbrev Ret (Q : VK) (H : Hp) (v : V) : Prop := ∀ H', Same H H' → Q v H'
-- the program's own checks
def sp_is_integer (K : PySem.W.Frag) : Sp := fun vs H Q _ => ∃ i : Int, vs = [.int i] ∧ Q (.bl true) H
def sp_within (K : PySem.W.Frag) : Sp := fun vs H Q _ => ∃ i lo hi : Int, vs = [.int i, .int lo, .int hi] ∧ lo ≤ i ∧ i ≤ hi ∧ Q (.bl true) H
def sp__is_letter (K : PySem.W.Frag) : Sp := fun vs H Q _ => ∃ c : Nat, vs = [.str ⟨#[c]⟩] ∧ 97 ≤ c ∧ c ≤ 122 ∧ Q (.bl true) H
def sp_is_name (K : PySem.W.Frag) : Sp := fun vs H Q _ => ∃ (x : Str), vs = [.str x] ∧ NameOk x ∧ Ret Q H (.bl true)
def sp__is_known (K : PySem.W.Frag) : Sp := fun vs H Q _ => ∃ (x : Str) (d : Addr) (kvs : List (Key × V)), vs = [.str x, .ref d] ∧ NameOk x ∧ Rd H d (.dK kvs) ∧ (valV kvs (.inr x)).isSome = true ∧ Ret Q H (.bl true)
def sp__rates_are_good (K : PySem.W.Frag) : Sp := fun vs H Q _ => ∃ (d : Addr) (rs : List (Str × Int)), vs = [.ref d] ∧ H d = some (.dK (kvM V.int rs)) ∧ RatesOk rs ∧ (rs.map (·.1)).Nodup ∧ Ret Q H (.bl true)
def sp__homes_are_good (K : PySem.W.Frag) : Sp := fun vs H Q _ => ∃ (d : Addr) (hs : List (Str × Str)) (e : Addr) (rs : List (Str × Int)), vs = [.ref d, .ref e] ∧ H d = some (.dK (kvM V.str hs)) ∧ H e = some (.dK (kvM V.int rs)) ∧ HomesOk hs rs ∧ (hs.map (·.1)).Nodup ∧ Ret Q H (.bl true)
def sp__is_pair (K : PySem.W.Frag) : Sp := fun vs H Q _ => ∃ (p : Addr) (a : V) (b : V), vs = [.ref p] ∧ H p = some (.tup [a, b]) ∧ Q (.bl true) H
def sp__step_is_good (K : PySem.W.Frag) : Sp := fun vs H Q _ => ∃ (p : Addr) (q : Addr) (d : Addr) (s : Str) (c : Str) (t : Str) (b : Bool) (kvs : List (Key × V)), vs = [.ref p, .ref q, .ref d] ∧ H p = some (.tup [.str s, .str c]) ∧ H q = some (.tup [.str t, .bl b]) ∧ Rd H d (.dK kvs) ∧
  NameOk s ∧ NameOk c ∧ NameOk t ∧ (valV kvs (.inr s)).isSome = true ∧ (valV kvs (.inr t)).isSome = true ∧ Ret Q H (.bl true)
def sp__causes_of (K : PySem.W.Frag) : Sp := fun vs H Q _ => ∃ (d : Addr) (kvs : List (List Key × V)) (st : List Row) (cs : List Str), vs = [.ref d] ∧ H d = some (.dT kvs) ∧ StepsIs H kvs st ∧ (∀ e ∈ st, e.1.2 ∈ cs) ∧ cs.length ≤ 6 ∧
  ∀ (H' : Hp) (p : Addr) (ns : List Str), Same H H' → H p = none → H' p = some (.lst (ns.map V.str)) → (∀ (c : Str), c ∈ ns ↔ c ∈ st.map (fun e => e.1.2)) → ns.Pairwise (fun a b => ltS a b = true) → ns.length ≤ 6 → Q (.ref p) H'
def sp__steps_are_good (K : PySem.W.Frag) : Sp := fun vs H Q _ => ∃ (d : Addr) (kvs : List (List Key × V)) (e : Addr) (T : Tab) (cs : List Str), vs = [.ref d, .ref e] ∧ H d = some (.dT kvs) ∧ StepsIs H kvs T.steps ∧ H e = some (.dK (kvM V.str T.homes)) ∧ TabOk T cs ∧ Ret Q H (.bl true)
def sp_RecoveryTable___init__ (K : PySem.W.Frag) (C : Addr) : Sp := fun vs H Q _ => ∃ (a : Addr) (dx : Addr) (T : Tab) (cs : List Str) (d1 : Addr) (d2 : Addr) (d3 : Addr) (skv : List (List Key × V)), vs = [.ref a, .str T.start, .ref d1, .ref d2, .ref d3] ∧ H a = some (.ins C dx []) ∧
  H d1 = some (.dK (kvM V.str T.homes)) ∧ H d2 = some (.dK (kvM V.int T.rates)) ∧ H d3 = some (.dT skv) ∧ StepsIs H skv T.steps ∧ TabOk T cs ∧
  ∀ (H' : Hp) (tcs : List Str), (∀ b o, b ≠ a → H b = some o → H' b = some o) → TabAt C H' a T tcs → CausesOf cs tcs → Q .non H'
def sp_RecoveryTable_home (K : PySem.W.Frag) (C : Addr) : Sp := fun vs H Q _ => ∃ (a : Addr) (T : Tab) (cs : List Str) (s : Str) (h : Str), vs = [.ref a, .str s] ∧ TabAt C H a T cs ∧ getA T.homes s = some h ∧ Q (.str h) H
def sp_RecoveryTable_rate (K : PySem.W.Frag) (C : Addr) : Sp := fun vs H Q _ => ∃ (a : Addr) (T : Tab) (cs : List Str) (s : Str) (r : Int), vs = [.ref a, .str s] ∧ TabAt C H a T cs ∧ getA T.rates s = some r ∧ Q (.int r) H
def sp_RecoveryTable_step (K : PySem.W.Frag) (C : Addr) : Sp := fun vs H Q _ => ∃ (a : Addr) (T : Tab) (cs : List Str) (s : Str) (c : Str) (t : Str) (b : Bool), vs = [.ref a, .str s, .str c] ∧ TabAt C H a T cs ∧ s ∈ T.homes.map (·.1) ∧ c ∈ cs ∧ NameOk c ∧ getA T.steps (s, c) = some (t, b) ∧
  ∀ (H' : Hp) (q : Addr), Same H H' → H' q = some (.tup [.str t, .bl b]) → Q (.ref q) H'
/-- the search's list -/
def FoundAt (H : Hp) (p : Addr) (F : List (Str × List Str)) : Prop := ∃ ps : List Addr, H p = some (.lst (ps.map V.ref)) ∧ Paired (fun q (f : Str × List Str) => ∃ r, H q = some (.tup [.str f.1, .ref r]) ∧ H r = some (.tup (f.2.map V.str))) ps F
def found (T : Tab) (cs : List Str) : List (Str × List Str) := Bfs.search T.step cs 9 0 [(T.start, [])]
def sp_reach (K : PySem.W.Frag) (C : Addr) : Sp := fun vs H Q _ => ∃ (a : Addr) (T : Tab) (cs : List Str) (ps : List Str), vs = [.ref a] ∧ TabAt C H a T cs ∧ TabOk T ps ∧ CausesOf ps cs ∧ ∀ (H' : Hp) (p : Addr), Same H H' → H p = none → FoundAt H' p (found T cs) → Q (.ref p) H'
-- the law's draws
def sp__law_pot (K : PySem.W.Frag) : Sp := fun vs H Q _ => ∃ (T : TM) (a : Addr) (ns : List Int) (place : Int), vs = [.ref a, .int place] ∧ Hty T H ∧ ScrAt K T H a ns ∧ ns.length ≤ 63 ∧ 0 ≤ place ∧ place ≤ 100 ∧
  ∀ (T' : TM) (H' : Hp) (p : Addr), Post T H T' H' → T' p = some .pot → H p = none → Q (.ref p) H'
def sp__law_draw (K : PySem.W.Frag) : Sp := fun vs H Q _ => ∃ (T : TM) (a : Addr) (size : Int), vs = [.ref a, .int size] ∧ Hty T H ∧ T a = some .pot ∧ 1 ≤ size ∧ size < 1073741824 ∧
  ∀ (v : Int) (H' : Hp), Post T H T H' → 0 ≤ v → v < size → Q (.int v) H'
def sp__law_word (K : PySem.W.Frag) : Sp := fun vs H Q _ => ∃ (T : TM) (a : Addr) (size : Int), vs = [.ref a, .int size] ∧ Hty T H ∧ T a = some .pot ∧ 1 ≤ size ∧ size ≤ 8 ∧
  ∀ (x : Str) (H' : Hp), Post T H T H' → NameOk x → (x.length : Int) = size → Q (.str x) H'
def sp__law_bumped (K : PySem.W.Frag) : Sp := fun vs H Q _ => ∃ (x : Str) (l : Addr) (xs : List Str), vs = [.str x, .ref l] ∧ NameOk x ∧ H l = some (.lst (xs.map V.str)) ∧ xs.length ≤ 100 ∧ ∀ (y : Str), NameOk y → Q (.str y) H
def sp__law_names (K : PySem.W.Frag) : Sp := fun vs H Q _ => ∃ (T : TM) (a : Addr) (n : Int), vs = [.ref a, .int n] ∧ Hty T H ∧ T a = some .pot ∧ 0 ≤ n ∧ n ≤ 8 ∧
  ∀ (T' : TM) (H' : Hp) (p : Addr) (xs : List Str), Post T H T' H' → T' p = some (.ex (.lst (xs.map V.str))) → (xs.length : Int) = n → (∀ x ∈ xs, NameOk x) → Q (.ref p) H'
def sp__law_sizes (K : PySem.W.Frag) : Sp := fun vs H Q _ => ∃ (T : TM) (a : Addr), vs = [.ref a] ∧ Hty T H ∧ T a = some .pot ∧
  ∀ (T' : TM) (H' : Hp) (p : Addr) (x : Int) (y : Int) (z : Int), Post T H T' H' → T' p = some (.ex (.lst [.int x, .int y, .int z])) → 1 ≤ x → x ≤ 8 → 0 ≤ y → y ≤ 6 → 1 ≤ z → z ≤ 6 → Q (.ref p) H'
def sp__law_target (K : PySem.W.Frag) : Sp := fun vs H Q _ => ∃ (T : TM) (a : Addr) (l : Addr) (style : Int) (many : Int) (core : Int) (at' : Int) (shift : Int), vs = [.ref a, .int style, .ref l, .int at', .int shift] ∧ Hty T H ∧ T a = some .pot ∧ H l = some (.lst [.int many, .int core]) ∧ 1 ≤ core ∧ core ≤ many ∧ many ≤ 8 ∧ 0 ≤ at' ∧ at' < many ∧ 0 ≤ shift ∧ (shift < core ∨ 4 < style) ∧
  ∀ (v : Int) (H' : Hp), Post T H T H' → 0 ≤ v → v < many → Q (.int v) H'
def sp__law_targets (K : PySem.W.Frag) : Sp := fun vs H Q _ => ∃ (T : TM) (a : Addr) (many : Int) (kinds : Int), vs = [.ref a, .int many, .int kinds] ∧ Hty T H ∧ T a = some .pot ∧ 1 ≤ many ∧ many ≤ 8 ∧ 0 ≤ kinds ∧ kinds ≤ 6 ∧
  ∀ (T' : TM) (H' : Hp) (p : Addr) (r : Addr) (core : Int), Post T H T' H' → T' p = some (.ex (.lst [.int core, .ref r])) → T' r = some (.rows many.toNat (.ints kinds.toNat many)) → 1 ≤ core → core ≤ many → Q (.ref p) H'
def sp__law_rate (K : PySem.W.Frag) : Sp := fun vs H Q _ => ∃ (T : TM) (a : Addr) (least : Int), vs = [.ref a, .int least] ∧ Hty T H ∧ T a = some .pot ∧ 0 ≤ least ∧ least ≤ 1 ∧ ∀ (v : Int) (H' : Hp), Post T H T H' → 0 ≤ v → v ≤ 1000000000 → Q (.int v) H'
def sp__law_flags (K : PySem.W.Frag) : Sp := fun vs H Q _ => ∃ (T : TM) (a : Addr) (many : Int) (kinds : Int), vs = [.ref a, .int many, .int kinds] ∧ Hty T H ∧ T a = some .pot ∧ 1 ≤ many ∧ many ≤ 8 ∧ 0 ≤ kinds ∧ kinds ≤ 6 ∧
  ∀ (T' : TM) (H' : Hp) (p : Addr), Post T H T' H' → T' p = some (.rows many.toNat (.bools kinds.toNat)) → Q (.ref p) H'
def sp__law_homes (K : PySem.W.Frag) : Sp := fun vs H Q _ => ∃ (T : TM) (a : Addr) (many : Int) (l : Addr) (cs : List Str), vs = [.ref a, .int many, .ref l] ∧ Hty T H ∧ T a = some .pot ∧ 1 ≤ many ∧ many ≤ 8 ∧ T l = some (.ex (.lst (cs.map V.str))) ∧ 1 ≤ cs.length ∧ cs.length ≤ 8 ∧
  ∀ (T' : TM) (H' : Hp) (p : Addr) (xs : List Str), Post T H T' H' → T' p = some (.ex (.lst (xs.map V.str))) → (xs.length : Int) = many → (∀ x ∈ xs, x ∈ cs) → Q (.ref p) H'
def sp__law_spoilt (K : PySem.W.Frag) : Sp := fun vs H Q _ => ∃ (T : TM) (a : Addr) (core : Int) (r : Addr) (f : Addr) (h : Addr) (d : Addr) (many : Nat) (kinds : Nat) (hs : List Str) (cols : List Str), vs = [.ref a, .int core, .ref r, .ref f, .ref h, .ref d] ∧ Hty T H ∧ T a = some .pot ∧ 1 ≤ core ∧ core ≤ (many : Int) ∧ 1 ≤ many ∧ many ≤ 8 ∧ kinds ≤ 6 ∧
  T r = some (.rows many (.ints kinds (many : Int))) ∧ T f = some (.rows many (.bools kinds)) ∧ T h = some (.ex (.lst (hs.map V.str))) ∧ hs.length = many ∧ (∀ x ∈ hs, x ∈ cols) ∧ T d = some (.rates cols) ∧ cols.length ≤ 8 ∧
  ∀ (H' : Hp), Post T H T H' → Q .non H'
def sp__law_plan (K : PySem.W.Frag) : Sp := fun vs H Q _ => ∃ (a : Addr) (ns : List Int), vs = [.ref a] ∧ SqL K H a (ns.map V.int) ∧ ns.length ≤ 63 ∧ ∀ (H' : Hp) (p : Addr) (T : Tab) (cs : List Str), Same H H' → PlanAt H' p T cs → TabOk T cs → Q (.ref p) H'
/-- one status is filled in: its home, its steps -/
def sp__law_fill (K : PySem.W.Frag) : Sp := fun vs H Q _ => ∃ (pl : Addr) (ln : Addr) (lc : Addr) (gv : Addr) (r : Addr) (f : Addr) (d1 : Addr) (d3 : Addr) (kvs : List (Key × V)) (ns : List Str) (cs : List Str) (j : Nat) (n : Str) (h : Str) (hs : List (Str × Str)) (skv : List (List Key × V)) (st : List Row) (ts : List Int) (bs : List Bool), vs = [.ref pl, .ref ln, .ref lc, .int (j : Nat), .ref gv] ∧ pl ≠ d1 ∧
  H pl = some (.dK kvs) ∧ valV kvs (.inr "homes") = some (.ref d1) ∧ valV kvs (.inr "steps") = some (.ref d3) ∧ H d1 = some (.dK (kvM V.str hs)) ∧ H d3 = some (.dT skv) ∧ StepsIs H skv st ∧
  H ln = some (.lst (ns.map V.str)) ∧ H lc = some (.lst (cs.map V.str)) ∧ ns[j]? = some n ∧ H gv = some (.lst [.ref r, .ref f, .str h]) ∧ H r = some (.lst (ts.map V.int)) ∧ H f = some (.lst (bs.map V.bl)) ∧
  ts.length = cs.length ∧ bs.length = cs.length ∧ cs.length ≤ 6 ∧ (∀ t ∈ ts, 0 ≤ t ∧ t < ns.length) ∧ hs.length ≤ 100 ∧ st.length ≤ 1000 ∧
  ∀ (H' : Hp) (skv' : List (List Key × V)) (st' : List Row), (∀ b o, b ≠ d1 → b ≠ d3 → H b = some o → H' b = some o) → H' d1 = some (.dK (kvM V.str (putA hs n h))) → H' d3 = some (.dT skv') → StepsIs H' skv' st' →
    ((st.map (·.1)).Nodup → (st'.map (·.1)).Nodup) → (∀ e ∈ st', e ∈ st ∨ (e.1.1 = n ∧ e.1.2 ∈ cs ∧ e.2.1 ∈ ns)) → (∀ (k : Str × Str), k ∈ st'.map (·.1) ↔ k ∈ st.map (·.1) ∨ (k.1 = n ∧ k.2 ∈ cs)) → Q .non H'
def sp__law_table (K : PySem.W.Frag) (C : Addr) : Sp := fun vs H Q _ => ∃ (a : Addr) (T : Tab) (cs : List Str), vs = [.ref a] ∧ PlanAt H a T cs ∧ TabOk T cs ∧ ∀ (H' : Hp) (p : Addr) (tcs : List Str), Same H H' → TabAt C H' p T tcs → CausesOf cs tcs → Q (.ref p) H'
-- the law's own judgement
def sp__law_after (K : PySem.W.Frag) : Sp := fun vs H Q _ => ∃ (a : Addr) (T : Tab) (cs : List Str) (p : Addr) (w : List Str), vs = [.ref a, .ref p] ∧ PlanAt H a T cs ∧ TabOk T cs ∧ H p = some (.tup (w.map V.str)) ∧ (∀ c ∈ w, c ∈ cs) ∧ Ret Q H (.str (Bfs.run T.step T.start w))
def sp__law_form (K : PySem.W.Frag) : Sp := fun vs H Q _ => ∃ (p : Addr) (most : Int) (F : List (Str × List Str)), vs = [.ref p, .int most] ∧ FoundAt H p F ∧ (F.length : Int) ≤ most ∧ (∀ f ∈ F, (f.2.length : Int) < most) ∧ Q (.bl true) H
def sp__law_leads (K : PySem.W.Frag) : Sp := fun vs H Q _ => ∃ (a : Addr) (p : Addr) (T : Tab) (cs : List Str) (F : List (Str × List Str)), vs = [.ref a, .ref p] ∧ PlanAt H a T cs ∧ TabOk T cs ∧ FoundAt H p F ∧ F.length ≤ 100 ∧ (F.map (·.1)).Nodup ∧ (∀ f ∈ F, Bfs.run T.step T.start f.2 = f.1 ∧ ∀ c ∈ f.2, c ∈ cs) ∧
  F.Pairwise (fun f g => Bfs.klt ltS f.2 g.2 = true) ∧ Ret Q H (.bl true)
/-- the dict of the listed words -/
def WordsAt (H : Hp) (d : Addr) (F : List (Str × List Str)) : Prop := ∃ kvs, Rd H d (.dK kvs) ∧ ∀ x, match getA F x with
  | none => valV kvs (.inr x) = none
  | some w => ∃ r, valV kvs (.inr x) = some (.ref r) ∧ H r = some (.tup (w.map V.str))
def sp__law_no_later (K : PySem.W.Frag) : Sp := fun vs H Q _ => ∃ (d : Addr) (s : Str) (p : Addr) (F : List (Str × List Str)) (w : List Str) (u : List Str), vs = [.ref d, .str s, .ref p] ∧ WordsAt H d F ∧ getA F s = some w ∧ H p = some (.tup (u.map V.str)) ∧ Bfs.kle ltS w u = true ∧ Ret Q H (.bl true)
def sp__law_closed (K : PySem.W.Frag) : Sp := fun vs H Q _ => ∃ (a : Addr) (d : Addr) (T : Tab) (cs : List Str) (F : List (Str × List Str)) (kvs : List (Key × V)), vs = [.ref a, .ref d] ∧ a ≠ d ∧ PlanAt H a T cs ∧ TabOk T cs ∧ H d = some (.dK kvs) ∧ kvs.map (·.1) = F.map (fun f => Sum.inr f.1) ∧ WordsAt H d F ∧ (F.map (·.1)).Nodup ∧
  getA F T.start = some [] ∧ (∀ f ∈ F, f.1 ∈ T.homes.map (·.1)) ∧ (∀ f ∈ F, ∀ c ∈ cs, ∃ (w : List Str), (T.step f.1 c, w) ∈ F ∧ Bfs.kle ltS w (f.2 ++ [c]) = true) ∧ (∀ f ∈ F, f.2.length ≤ 100) ∧ Ret Q H (.bl true)
def sp__law_drawn (K : PySem.W.Frag) : Sp := fun vs H Q _ => ∃ (a : Addr) (ns : List Int) (l : Addr) (cs : List Str), vs = [.ref a, .ref l] ∧ SqL K H a (ns.map V.int) ∧ ns.length ≤ 63 ∧ H l = some (.lst (cs.map V.str)) ∧ cs.length ≤ 6 ∧
  ∀ (H' : Hp) (p : Addr) (u : List Str), Same H H' → H' p = some (.tup (u.map V.str)) → (∀ c ∈ u, c ∈ cs) → Q (.ref p) H'
def sp_law (K : PySem.W.Frag) (C : Addr) : Sp := fun vs H Q _ => ∃ (a : Addr) (ns : List Int), vs = [.ref a] ∧ SqL K H a (ns.map V.int) ∧ ns.length ≤ 63 ∧ ∀ (H' : Hp), Q (.bl true) H'
end Sp33

set_option linter.all false
namespace Sp33
open PySem L2
theorem len_is_integer {K : PySem.W.Frag} {vs : List V} {H : Hp} {Q : VK} {E : XK} (h : sp_is_integer K vs H Q E) : vs.length = 1 := by
  obtain ⟨_, rfl, _⟩ := h
  rfl
theorem len_within {K : PySem.W.Frag} {vs : List V} {H : Hp} {Q : VK} {E : XK} (h : sp_within K vs H Q E) : vs.length = 3 := by
  obtain ⟨_, _, _, rfl, _⟩ := h
  rfl
theorem len__is_letter {K : PySem.W.Frag} {vs : List V} {H : Hp} {Q : VK} {E : XK} (h : sp__is_letter K vs H Q E) : vs.length = 1 := by
  obtain ⟨_, rfl, _⟩ := h
  rfl
theorem len_is_name {K : PySem.W.Frag} {vs : List V} {H : Hp} {Q : VK} {E : XK} (h : sp_is_name K vs H Q E) : vs.length = 1 := by
  obtain ⟨_, rfl, _⟩ := h
  rfl
theorem len__is_known {K : PySem.W.Frag} {vs : List V} {H : Hp} {Q : VK} {E : XK} (h : sp__is_known K vs H Q E) : vs.length = 2 := by
  obtain ⟨_, _, _, rfl, _⟩ := h
  rfl
theorem len__rates_are_good {K : PySem.W.Frag} {vs : List V} {H : Hp} {Q : VK} {E : XK} (h : sp__rates_are_good K vs H Q E) : vs.length = 1 := by
  obtain ⟨_, _, rfl, _⟩ := h
  rfl
theorem len__homes_are_good {K : PySem.W.Frag} {vs : List V} {H : Hp} {Q : VK} {E : XK} (h : sp__homes_are_good K vs H Q E) : vs.length = 2 := by
  obtain ⟨_, _, _, _, rfl, _⟩ := h
  rfl
theorem len__is_pair {K : PySem.W.Frag} {vs : List V} {H : Hp} {Q : VK} {E : XK} (h : sp__is_pair K vs H Q E) : vs.length = 1 := by
  obtain ⟨_, _, _, rfl, _⟩ := h
  rfl
theorem len__step_is_good {K : PySem.W.Frag} {vs : List V} {H : Hp} {Q : VK} {E : XK} (h : sp__step_is_good K vs H Q E) : vs.length = 3 := by
  obtain ⟨_, _, _, _, _, _, _, _, rfl, _⟩ := h
  rfl
theorem len__causes_of {K : PySem.W.Frag} {vs : List V} {H : Hp} {Q : VK} {E : XK} (h : sp__causes_of K vs H Q E) : vs.length = 1 := by
  obtain ⟨_, _, _, _, rfl, _⟩ := h
  rfl
theorem len__steps_are_good {K : PySem.W.Frag} {vs : List V} {H : Hp} {Q : VK} {E : XK} (h : sp__steps_are_good K vs H Q E) : vs.length = 2 := by
  obtain ⟨_, _, _, _, _, rfl, _⟩ := h
  rfl
theorem len_RecoveryTable___init__ {K : PySem.W.Frag} {C : Addr} {vs : List V} {H : Hp} {Q : VK} {E : XK} (h : sp_RecoveryTable___init__ K C vs H Q E) : vs.length = 5 := by
  obtain ⟨_, _, _, _, _, _, _, _, rfl, _⟩ := h
  rfl
theorem len_RecoveryTable_home {K : PySem.W.Frag} {C : Addr} {vs : List V} {H : Hp} {Q : VK} {E : XK} (h : sp_RecoveryTable_home K C vs H Q E) : vs.length = 2 := by
  obtain ⟨_, _, _, _, _, rfl, _⟩ := h
  rfl
theorem len_RecoveryTable_rate {K : PySem.W.Frag} {C : Addr} {vs : List V} {H : Hp} {Q : VK} {E : XK} (h : sp_RecoveryTable_rate K C vs H Q E) : vs.length = 2 := by
  obtain ⟨_, _, _, _, _, rfl, _⟩ := h
  rfl
theorem len_RecoveryTable_step {K : PySem.W.Frag} {C : Addr} {vs : List V} {H : Hp} {Q : VK} {E : XK} (h : sp_RecoveryTable_step K C vs H Q E) : vs.length = 3 := by
  obtain ⟨_, _, _, _, _, _, _, rfl, _⟩ := h
  rfl
theorem len_reach {K : PySem.W.Frag} {C : Addr} {vs : List V} {H : Hp} {Q : VK} {E : XK} (h : sp_reach K C vs H Q E) : vs.length = 1 := by
  obtain ⟨_, _, _, _, rfl, _⟩ := h
  rfl
theorem len__law_pot {K : PySem.W.Frag} {vs : List V} {H : Hp} {Q : VK} {E : XK} (h : sp__law_pot K vs H Q E) : vs.length = 2 := by
  obtain ⟨_, _, _, _, rfl, _⟩ := h
  rfl
theorem len__law_draw {K : PySem.W.Frag} {vs : List V} {H : Hp} {Q : VK} {E : XK} (h : sp__law_draw K vs H Q E) : vs.length = 2 := by
  obtain ⟨_, _, _, rfl, _⟩ := h
  rfl
theorem len__law_word {K : PySem.W.Frag} {vs : List V} {H : Hp} {Q : VK} {E : XK} (h : sp__law_word K vs H Q E) : vs.length = 2 := by
  obtain ⟨_, _, _, rfl, _⟩ := h
  rfl
theorem len__law_bumped {K : PySem.W.Frag} {vs : List V} {H : Hp} {Q : VK} {E : XK} (h : sp__law_bumped K vs H Q E) : vs.length = 2 := by
  obtain ⟨_, _, _, rfl, _⟩ := h
  rfl
theorem len__law_names {K : PySem.W.Frag} {vs : List V} {H : Hp} {Q : VK} {E : XK} (h : sp__law_names K vs H Q E) : vs.length = 2 := by
  obtain ⟨_, _, _, rfl, _⟩ := h
  rfl
theorem len__law_sizes {K : PySem.W.Frag} {vs : List V} {H : Hp} {Q : VK} {E : XK} (h : sp__law_sizes K vs H Q E) : vs.length = 1 := by
  obtain ⟨_, _, rfl, _⟩ := h
  rfl
theorem len__law_target {K : PySem.W.Frag} {vs : List V} {H : Hp} {Q : VK} {E : XK} (h : sp__law_target K vs H Q E) : vs.length = 5 := by
  obtain ⟨_, _, _, _, _, _, _, _, rfl, _⟩ := h
  rfl
theorem len__law_targets {K : PySem.W.Frag} {vs : List V} {H : Hp} {Q : VK} {E : XK} (h : sp__law_targets K vs H Q E) : vs.length = 3 := by
  obtain ⟨_, _, _, _, rfl, _⟩ := h
  rfl
theorem len__law_rate {K : PySem.W.Frag} {vs : List V} {H : Hp} {Q : VK} {E : XK} (h : sp__law_rate K vs H Q E) : vs.length = 2 := by
  obtain ⟨_, _, _, rfl, _⟩ := h
  rfl
theorem len__law_flags {K : PySem.W.Frag} {vs : List V} {H : Hp} {Q : VK} {E : XK} (h : sp__law_flags K vs H Q E) : vs.length = 3 := by
  obtain ⟨_, _, _, _, rfl, _⟩ := h
  rfl
theorem len__law_homes {K : PySem.W.Frag} {vs : List V} {H : Hp} {Q : VK} {E : XK} (h : sp__law_homes K vs H Q E) : vs.length = 3 := by
  obtain ⟨_, _, _, _, _, rfl, _⟩ := h
  rfl
theorem len__law_spoilt {K : PySem.W.Frag} {vs : List V} {H : Hp} {Q : VK} {E : XK} (h : sp__law_spoilt K vs H Q E) : vs.length = 6 := by
  obtain ⟨_, _, _, _, _, _, _, _, _, _, _, rfl, _⟩ := h
  rfl
theorem len__law_plan {K : PySem.W.Frag} {vs : List V} {H : Hp} {Q : VK} {E : XK} (h : sp__law_plan K vs H Q E) : vs.length = 1 := by
  obtain ⟨_, _, rfl, _⟩ := h
  rfl
theorem len__law_fill {K : PySem.W.Frag} {vs : List V} {H : Hp} {Q : VK} {E : XK} (h : sp__law_fill K vs H Q E) : vs.length = 5 := by
  obtain ⟨_, _, _, _, _, _, _, _, _, _, _, _, _, _, _, _, _, _, _, rfl, _⟩ := h
  rfl
theorem len__law_table {K : PySem.W.Frag} {C : Addr} {vs : List V} {H : Hp} {Q : VK} {E : XK} (h : sp__law_table K C vs H Q E) : vs.length = 1 := by
  obtain ⟨_, _, _, rfl, _⟩ := h
  rfl
theorem len__law_after {K : PySem.W.Frag} {vs : List V} {H : Hp} {Q : VK} {E : XK} (h : sp__law_after K vs H Q E) : vs.length = 2 := by
  obtain ⟨_, _, _, _, _, rfl, _⟩ := h
  rfl
theorem len__law_form {K : PySem.W.Frag} {vs : List V} {H : Hp} {Q : VK} {E : XK} (h : sp__law_form K vs H Q E) : vs.length = 2 := by
  obtain ⟨_, _, _, rfl, _⟩ := h
  rfl
theorem len__law_leads {K : PySem.W.Frag} {vs : List V} {H : Hp} {Q : VK} {E : XK} (h : sp__law_leads K vs H Q E) : vs.length = 2 := by
  obtain ⟨_, _, _, _, _, rfl, _⟩ := h
  rfl
theorem len__law_no_later {K : PySem.W.Frag} {vs : List V} {H : Hp} {Q : VK} {E : XK} (h : sp__law_no_later K vs H Q E) : vs.length = 3 := by
  obtain ⟨_, _, _, _, _, _, rfl, _⟩ := h
  rfl
theorem len__law_closed {K : PySem.W.Frag} {vs : List V} {H : Hp} {Q : VK} {E : XK} (h : sp__law_closed K vs H Q E) : vs.length = 2 := by
  obtain ⟨_, _, _, _, _, _, rfl, _⟩ := h
  rfl
theorem len__law_drawn {K : PySem.W.Frag} {vs : List V} {H : Hp} {Q : VK} {E : XK} (h : sp__law_drawn K vs H Q E) : vs.length = 2 := by
  obtain ⟨_, _, _, _, rfl, _⟩ := h
  rfl
theorem len_law {K : PySem.W.Frag} {C : Addr} {vs : List V} {H : Hp} {Q : VK} {E : XK} (h : sp_law K C vs H Q E) : vs.length = 1 := by
  obtain ⟨_, _, rfl, _⟩ := h
  rfl
end Sp33

set_option Elab.async false
set_option linter.all false
set_option maxRecDepth 100000
set_option maxHeartbeats 4000000
/-! comprehensions over a locked dict -/
namespace Lck
open PySem L2 Dat SSt
section
variable {σ : L2.St} {H : Hp} {Q : VK} {g : TG} {tt : TT} {te tk tv td : TE} {d : Addr} {vs : List Nat} {w : World}
/-- {elt for target in d}, the keys tuples -/
theorem scT {kvs : List (List Key × V)} (hd : H d = some (.dT kvs)) (htd : ∀ od (Q : VK), Q (.ref d) (upd H d (.frz od (.dT kvs))) → td σ (upd H d (.frz od (.dT kvs))) Q) (Pv : Obj → Addr → Nat → Hp → Prop)
    (h0 : ∀ od D, H D = none → Pv od D 0 (upd (upd H d (.frz od (.dT kvs))) D (SetSO w D (fun _ => false) 0))) (hl : ∀ od D i H', Pv od D i H' → H' d = some (.frz od (.dT kvs)))
    (hs : ∀ od D i k v q H', kvs[i]? = some (k, v) → H' q = some (.tup (k.map kV)) → Pv od D i H' → g (.ref q) (wipe σ vs) H' fun σ2 H2 => wipe σ2 vs = wipe σ vs ∧ tt σ2 H2 fun b H3 =>
      if b = true then te σ2 H3 fun y H4 => ∃ (c : Str) (S : Str → Bool) (n : Nat), y = .str c ∧ H4 D = some (SetSO w D S n) ∧ n + 1 < scanBound ∧ Pv od D (i + 1) (upd H4 D (SetSO w D (fun j => S j || decide (j = c)) (if S c = true then n else n + 1))) else Pv od D (i + 1) H3)
    (he : ∀ od D H', Pv od D kvs.length H' → Q (.ref D) (upd H' d (.dT kvs))) : tLockE (tScS w (iKeys td) g tt te vs) σ H Q := by
  refine ⟨d, .dT kvs, hd, True.intro, fun od => htd od _ ⟨d, od, rfl, .inr ⟨kvs, upd_same, fun D hD => ?_⟩⟩⟩
  have hDn : H D = none := by
    by_cases e : D = d
    · subst e
      rw [upd_same] at hD
      cases hD
    · rw [upd_ne e] at hD
      exact hD
  refine ⟨fun i m H' => m = kvs.length - i ∧ i ≤ kvs.length ∧ Pv od D i H', ⟨kvs.length, by simp, Nat.zero_le _, h0 od D hDn⟩, ?_⟩
  rintro i m H' ⟨rfl, hi, p⟩
  have fz := hl od D i H' p
  by_cases hlt : i < kvs.length
  · refine .inr ⟨⟨fz, hlt⟩, Pv od D (i + 1), fun H2 p2 => ⟨kvs.length - (i + 1), by omega, rfl, hlt, p2⟩, fun x H2 y => ?_⟩
    obtain ⟨e, k, v, q, hk, ex, hq⟩ := y
    rw [e, ex]
    exact hs od D i k v q H' hk hq p
  · have ei : i = kvs.length := by omega
    subst ei
    exact .inl ⟨⟨fz, Nat.le_refl _⟩, fz, he od D H' p⟩
/-- {k: v for target in d}, the keys tuples -/
theorem dcT {kvs : List (List Key × V)} (hd : H d = some (.dT kvs)) (htd : ∀ od (Q : VK), Q (.ref d) (upd H d (.frz od (.dT kvs))) → td σ (upd H d (.frz od (.dT kvs))) Q) (Pv : Obj → Addr → Nat → Hp → Prop)
    (h0 : ∀ od D, H D = none → Pv od D 0 (upd (upd H d (.frz od (.dT kvs))) D (.dT []))) (hl : ∀ od D i H', Pv od D i H' → H' d = some (.frz od (.dT kvs)))
    (hs : ∀ od D i k v q H', kvs[i]? = some (k, v) → H' q = some (.tup (k.map kV)) → Pv od D i H' → g (.ref q) (wipe σ vs) H' fun σ2 H2 => wipe σ2 vs = wipe σ vs ∧ tt σ2 H2 fun b H3 =>
      if b = true then tk σ2 H3 fun y H4 => tv σ2 H4 fun z H5 => ∃ kvs k b, y = .ref b ∧ H5 b = some (.tup (k.map kV)) ∧ H5 D = some (.dT kvs) ∧ kvs.length < sizeLine ∧ Pv od D (i + 1) (upd H5 D (.dT (putK kvs k z))) else Pv od D (i + 1) H3)
    (he : ∀ od D H', Pv od D kvs.length H' → Q (.ref D) (upd H' d (.dT kvs))) : tLockE (DcT.tDcT (iKeys td) g tt tk tv vs) σ H Q := by
  refine ⟨d, .dT kvs, hd, True.intro, fun od => htd od _ ⟨d, od, rfl, .inr ⟨kvs, upd_same, fun D hD => ?_⟩⟩⟩
  have hDn : H D = none := by
    by_cases e : D = d
    · subst e
      rw [upd_same] at hD
      cases hD
    · rw [upd_ne e] at hD
      exact hD
  refine ⟨fun i m H' => m = kvs.length - i ∧ i ≤ kvs.length ∧ Pv od D i H', ⟨kvs.length, by simp, Nat.zero_le _, h0 od D hDn⟩, ?_⟩
  rintro i m H' ⟨rfl, hi, p⟩
  have fz := hl od D i H' p
  by_cases hlt : i < kvs.length
  · refine .inr ⟨⟨fz, hlt⟩, Pv od D (i + 1), fun H2 p2 => ⟨kvs.length - (i + 1), by omega, rfl, hlt, p2⟩, fun x H2 y => ?_⟩
    obtain ⟨e, k, v, q, hk, ex, hq⟩ := y
    rw [e, ex]
    exact hs od D i k v q H' hk hq p
  · have ei : i = kvs.length := by omega
    subst ei
    exact .inl ⟨⟨fz, Nat.le_refl _⟩, fz, he od D H' p⟩
/-- [elt for a in d for b in l], a and b names, l a local list -/
theorem lc2K {K : PySem.W.Frag} {kvs : List (Key × V)} {a : Addr} {xs : List V} {i0 i1 n : Nat} {vs1 : List Nat} (hd : H d = some (.dK kvs)) (htd : ∀ od (Q : VK), Q (.ref d) (upd H d (.frz od (.dK kvs))) → td σ (upd H d (.frz od (.dK kvs))) Q)
    (hw1 : ∀ x, wipe ((wipe σ vs).set i0 (some x)) vs = wipe σ vs) (hv : ∀ x, ((wipe σ vs).set i0 (some x))[n]? = some (some (.ref a)))
    (hw2 : ∀ x y, wipe ((wipe ((wipe σ vs).set i0 (some x)) vs1).set i1 (some y)) vs1 = wipe ((wipe σ vs).set i0 (some x)) vs1)
    (Pw : Obj → Addr → Nat → Nat → Hp → Prop) (h0 : ∀ od D, H D = none → Pw od D 0 0 (upd (upd H d (.frz od (.dK kvs))) D (.lst []))) (hl : ∀ od D i j H', Pw od D i j H' → H' d = some (.frz od (.dK kvs)) ∧ SqL K H' a xs)
    (hs : ∀ od D i j k v y H', kvs[i]? = some (k, v) → xs[j]? = some y → Pw od D i j H' → te ((wipe ((wipe σ vs).set i0 (some (kV k))) vs1).set i1 (some y)) H' fun z H8 => ∃ acc, H8 D = some (.lst acc) ∧ acc.length < sizeLine ∧ Pw od D i (j + 1) (upd H8 D (.lst (acc ++ [z]))))
    (hn : ∀ od D i H', i < kvs.length → Pw od D i xs.length H' → Pw od D (i + 1) 0 H') (he : ∀ od D H', Pw od D kvs.length 0 H' → Q (.ref D) (upd H' d (.dK kvs))) :
    tLockE (tLc2 (iKeys td) (gName i0) tYes (iList K (tVar n)) (gName i1) tYes te vs vs1) σ H Q := by
  refine ⟨d, .dK kvs, hd, True.intro, fun od => htd od _ ⟨d, od, rfl, .inl ⟨kvs, upd_same, fun D hD => ?_⟩⟩⟩
  have hDn : H D = none := by
    by_cases e : D = d
    · subst e
      rw [upd_same] at hD
      cases hD
    · rw [upd_ne e] at hD
      exact hD
  refine ⟨fun i m H' => m = kvs.length - i ∧ i ≤ kvs.length ∧ Pw od D i 0 H', ⟨kvs.length, by simp, Nat.zero_le _, h0 od D hDn⟩, ?_⟩
  rintro i m H' ⟨rfl, hi, p⟩
  have fz := (hl od D i 0 H' p).1
  by_cases hlt : i < kvs.length
  · refine .inr ⟨⟨fz, hlt⟩, Pw od D (i + 1) 0, fun H2 p2 => ⟨kvs.length - (i + 1), by omega, rfl, hlt, p2⟩, fun x H2 y => ?_⟩
    obtain ⟨e, k, v, hk, ex⟩ := y
    rw [e, ex]
    refine ⟨hw1 _, ?_⟩
    refine Rd.yes ?_
    refine Rd.itT ?_
    refine ⟨_, hv _, a, rfl, ⟨xs, (hl od D i 0 H' p).2⟩, ?_⟩
    refine ⟨fun j m H' => m = xs.length - j ∧ j ≤ xs.length ∧ Pw od D i j H', ⟨xs.length, by simp, Nat.zero_le _, p⟩, ?_⟩
    rintro j m H3 ⟨rfl, hj, p3⟩
    have hq := (hl od D i j H3 p3).2
    by_cases hlt2 : j < xs.length
    · refine .inr ⟨⟨xs, xs[j], hq, by simp [hlt2]⟩, Pw od D i (j + 1), fun H2 p2 => ⟨xs.length - (j + 1), by omega, rfl, hlt2, p2⟩, fun x H2 y => ?_⟩
      obtain ⟨e2, y⟩ := y
      subst e2
      refine ⟨hw2 _ _, ?_⟩
      refine Rd.yes ?_
      refine Rd.itT ?_
      exact hs od D i j k v x _ hk (y xs hq) p3
    · have ej : j = xs.length := by omega
      subst ej
      exact .inl ⟨⟨xs, hq, Nat.le_refl _⟩, hn od D i H3 hlt p3⟩
  · have ei : i = kvs.length := by omega
    subst ei
    exact .inl ⟨⟨fz, Nat.le_refl _⟩, fz, he od D H' p⟩
end
/-- sorted and unlike is strictly ascending -/
theorem rising_pair : ∀ (p : Str) (l : List Str), PyProof.Rows.risingS p l = true → (p :: l).Nodup → (p :: l).Pairwise (fun a b => TOr.ltS a b = true)
  | p, [], _, _ => by simp
  | p, x :: r, h, hn => by
    have h : (!PySem.Spec.ltCps x.cps.toList p.cps.toList && PyProof.Rows.risingS x r) = true := h
    rw [Bool.and_eq_true] at h
    obtain ⟨h1, h2⟩ := h
    have hn2 := (List.nodup_cons.mp hn).2
    have ih := rising_pair x r h2 hn2
    have hpx : TOr.ltS p x = true := by
      have ne : p ≠ x := fun e => (List.nodup_cons.mp hn).1 (by rw [e]; exact List.mem_cons_self)
      rcases TOr.ordS.tot p x ne with q | q
      · exact q
      · rw [PyProof.Rows.ltCps_eq] at h1
        rw [show decide (x.cps.toList < p.cps.toList) = true from q] at h1
        cases h1
    refine List.pairwise_cons.mpr ⟨fun y hy => ?_, ih⟩
    rcases List.mem_cons.mp hy with e | e
    · rw [e]; exact hpx
    · exact TOr.ordS.tr _ _ _ hpx ((List.pairwise_cons.mp ih).1 y e)
theorem sorted_pair {l : List Str} (h : PyProof.Rows.sortedS l = true) (hn : l.Nodup) : l.Pairwise (fun a b => TOr.ltS a b = true) := by
  cases l with
  | nil => simp
  | cons p l => exact rising_pair p l h hn
end Lck

set_option Elab.async false
set_option linter.all false
set_option maxRecDepth 100000
set_option maxHeartbeats 4000000
/-! helpers of the table laws' readings -/
namespace Sp33
open PySem L2 Dat TOr

/-- the class gives none of the object's own names -/
structure TabNames (K : PySem.W.Frag) (C : Addr) : Prop where
  start : NoAttr K C "start"
  statuses : NoAttr K C "statuses"
  causes : NoAttr K C "causes"
  columns : NoAttr K C "columns"
  homes : NoAttr K C "_homes"
  rates : NoAttr K C "_rates"
  steps : NoAttr K C "_steps"
theorem putF_new {f : Str} {v : V} {ns : List Str} : ∀ {fs : List (Str × V)}, fs.map (·.1) = ns → ns.all (fun g => !decide (g = f)) = true → putF f v fs = fs ++ [(f, v)]
  | [], _, _ => rfl
  | (g, x) :: r, e, h => by
    subst e
    rw [List.map_cons, List.all_cons, Bool.and_eq_true, Bool.not_eq_true', decide_eq_false_iff_not] at h
    show (if g = f then _ else (g, x) :: putF f v r) = _
    rw [if_neg h.1, putF_new rfl h.2]
    rfl
theorem lookup_app {f : Str} {v : V} {r : List (Str × V)} {ns : List Str} : ∀ {pre : List (Str × V)}, pre.map (·.1) = ns → ns.all (fun g => !decide (g = f)) = true → (pre ++ (f, v) :: r).lookup f = some v
  | [], _, _ => by
    show (match f == f with | true => some v | false => _) = _
    rw [beq_self_eq_true]
  | (g, x) :: pre, e, h => by
    subst e
    rw [List.map_cons, List.all_cons, Bool.and_eq_true, Bool.not_eq_true', decide_eq_false_iff_not] at h
    show (match f == g with | true => some x | false => (pre ++ (f, v) :: r).lookup f) = _
    rw [show (f == g) = false from beq_eq_false_iff_ne.mpr (fun e => h.1 e.symm)]
    exact lookup_app rfl h.2
section
variable {z0 : Str} {p1 p2 p3 d1 d2 d3 : Addr}
theorem tf_start : (tabFs z0 p1 p2 p3 d1 d2 d3).lookup ("start" : Str) = some (.str z0) := lookup_app (pre := ([] : List (Str × V))) (ns := []) rfl rfl
theorem tf_causes : (tabFs z0 p1 p2 p3 d1 d2 d3).lookup ("causes" : Str) = some (.ref p2) := lookup_app (pre := ([("start", .str z0), ("statuses", .ref p1)] : List (Str × V))) (ns := [("start" : Str), ("statuses" : Str)]) rfl (by decide +kernel)
theorem tf_homes : (tabFs z0 p1 p2 p3 d1 d2 d3).lookup ("_homes" : Str) = some (.ref d1) := lookup_app (pre := ([("start", .str z0), ("statuses", .ref p1), ("causes", .ref p2), ("columns", .ref p3)] : List (Str × V))) (ns := [("start" : Str), ("statuses" : Str), ("causes" : Str), ("columns" : Str)]) rfl (by decide +kernel)
theorem tf_rates : (tabFs z0 p1 p2 p3 d1 d2 d3).lookup ("_rates" : Str) = some (.ref d2) := lookup_app (pre := ([("start", .str z0), ("statuses", .ref p1), ("causes", .ref p2), ("columns", .ref p3), ("_homes", .ref d1)] : List (Str × V))) (ns := [("start" : Str), ("statuses" : Str), ("causes" : Str), ("columns" : Str), ("_homes" : Str)]) rfl (by decide +kernel)
theorem tf_steps : (tabFs z0 p1 p2 p3 d1 d2 d3).lookup ("_steps" : Str) = some (.ref d3) := lookup_app (pre := ([("start", .str z0), ("statuses", .ref p1), ("causes", .ref p2), ("columns", .ref p3), ("_homes", .ref d1), ("_rates", .ref d2)] : List (Str × V))) (ns := [("start" : Str), ("statuses" : Str), ("causes" : Str), ("columns" : Str), ("_homes" : Str), ("_rates" : Str)]) rfl (by decide +kernel)
theorem tp1 : putF "start" (.str z0) [] = ([("start", V.str z0)] : List (Str × V)) := rfl
theorem tp2 : putF "statuses" (.ref p1) ([("start", V.str z0)] : List (Str × V)) = ([("start", V.str z0), ("statuses", .ref p1)] : List (Str × V)) := putF_new (ns := [("start" : Str)]) rfl (by decide +kernel)
theorem tp3 : putF "causes" (.ref p2) ([("start", V.str z0), ("statuses", .ref p1)] : List (Str × V)) = ([("start", V.str z0), ("statuses", .ref p1), ("causes", .ref p2)] : List (Str × V)) := putF_new (ns := [("start" : Str), ("statuses" : Str)]) rfl (by decide +kernel)
theorem tp4 : putF "columns" (.ref p3) ([("start", V.str z0), ("statuses", .ref p1), ("causes", .ref p2)] : List (Str × V)) = ([("start", V.str z0), ("statuses", .ref p1), ("causes", .ref p2), ("columns", .ref p3)] : List (Str × V)) := putF_new (ns := [("start" : Str), ("statuses" : Str), ("causes" : Str)]) rfl (by decide +kernel)
theorem tp5 : putF "_homes" (.ref d1) ([("start", V.str z0), ("statuses", .ref p1), ("causes", .ref p2), ("columns", .ref p3)] : List (Str × V)) = ([("start", V.str z0), ("statuses", .ref p1), ("causes", .ref p2), ("columns", .ref p3), ("_homes", .ref d1)] : List (Str × V)) := putF_new (ns := [("start" : Str), ("statuses" : Str), ("causes" : Str), ("columns" : Str)]) rfl (by decide +kernel)
theorem tp6 : putF "_rates" (.ref d2) ([("start", V.str z0), ("statuses", .ref p1), ("causes", .ref p2), ("columns", .ref p3), ("_homes", .ref d1)] : List (Str × V)) = ([("start", V.str z0), ("statuses", .ref p1), ("causes", .ref p2), ("columns", .ref p3), ("_homes", .ref d1), ("_rates", .ref d2)] : List (Str × V)) := putF_new (ns := [("start" : Str), ("statuses" : Str), ("causes" : Str), ("columns" : Str), ("_homes" : Str)]) rfl (by decide +kernel)
theorem tp7 : putF "_steps" (.ref d3) ([("start", V.str z0), ("statuses", .ref p1), ("causes", .ref p2), ("columns", .ref p3), ("_homes", .ref d1), ("_rates", .ref d2)] : List (Str × V)) = tabFs z0 p1 p2 p3 d1 d2 d3 := putF_new (ns := [("start" : Str), ("statuses" : Str), ("causes" : Str), ("columns" : Str), ("_homes" : Str), ("_rates" : Str)]) rfl (by decide +kernel)
end
/-- the object being made -/
structure ISt (C a dx : Addr) (H0 H : Hp) (fs : List (Str × V)) (os : List (Addr × HO)) : Prop where
  at_ : H a = some (.ins C dx fs)
  fr : ∀ b o, b ≠ a → H0 b = some o → H b = some o
  os : ∀ q ∈ os, q.1 ≠ a ∧ H q.1 = some q.2
section
variable {C a dx : Addr} {H0 H H' : Hp} {fs : List (Str × V)} {os : List (Addr × HO)}
theorem ISt.call (i : ISt C a dx H0 H fs os) (s : Same H H') : ISt C a dx H0 H' fs os :=
  ⟨s _ _ i.at_, fun b o h e => s _ _ (i.fr b o h e), fun q hq => ⟨(i.os q hq).1, s _ _ (i.os q hq).2⟩⟩
theorem ISt.add (i : ISt C a dx H0 H fs os) {p : Addr} {o : HO} (hp : H p = some o) (na : p ≠ a) : ISt C a dx H0 H fs ((p, o) :: os) :=
  ⟨i.at_, i.fr, fun q hq => (List.mem_cons.mp hq).elim (fun e => by rw [e]; exact ⟨na, hp⟩) (i.os q)⟩
theorem ISt.new (i : ISt C a dx H0 H fs os) {p : Addr} {o : HO} (hp : H p = none) : ISt C a dx H0 (upd H p o) fs ((p, o) :: os) :=
  (i.call (same_new hp)).add upd_same (ne_of_none i.at_ hp).symm
theorem ISt.put (i : ISt C a dx H0 H fs os) {gs : List (Str × V)} : ISt C a dx H0 (upd H a (.ins C dx gs)) gs os :=
  ⟨upd_same, fun b o h e => by rw [upd_ne h]; exact i.fr b o h e, fun q hq => ⟨(i.os q hq).1, by rw [upd_ne (i.os q hq).1]; exact (i.os q hq).2⟩⟩
theorem ISt.get (i : ISt C a dx H0 H fs os) {p : Addr} {o : HO} (h : (p, o) ∈ os) : H p = some o := (i.os _ h).2
end
theorem lock_same {H H' : Hp} {d : Addr} {u o : HO} (h : H d = some u) (s : Same (upd H d o) H') : Same H (upd H' d u) := fun b x e => by
  by_cases c : b = d
  · subst c
    rw [upd_same, ← e, h]
  · rw [upd_ne c]
    exact s _ _ (by rw [upd_ne c]; exact e)
theorem kvM_keys {β : Type} (f : β → V) (l : List (Str × β)) : (kvM f l).map (fun kv => kV kv.1) = (l.map (·.1)).map V.str := by
  unfold kvM
  rw [List.map_map, List.map_map]
  rfl
theorem putA_new {κ β : Type} [DecidableEq κ] {l : List (κ × β)} {k : κ} {v : β} (h : k ∉ l.map (·.1)) : putA l k v = l ++ [(k, v)] := by
  unfold putA
  rw [if_neg (fun q => h (any_iff.mp q))]
theorem putA_take {κ β : Type} [DecidableEq κ] {l : List (κ × β)} (hn : (l.map (·.1)).Nodup) {i : Nat} {r : κ × β} (h : l[i]? = some r) : putA (l.take i) r.1 r.2 = l.take (i + 1) := by
  rw [List.take_add_one, h]
  refine putA_new fun hm => ?_
  obtain ⟨e, he, ee⟩ := List.mem_map.mp hm
  obtain ⟨j, hj, ej⟩ := List.getElem_of_mem he
  rw [List.length_take] at hj
  have hi := (List.getElem?_eq_some_iff.mp h)
  have hjl : j < l.length := by omega
  have h1 : (l.map (·.1))[j]'(by rw [List.length_map]; exact hjl) = r.1 := by
    rw [List.getElem_map, ← ee, ← ej, List.getElem_take]
  have h2 : (l.map (·.1))[i]'(by rw [List.length_map]; exact hi.1) = r.1 := by
    rw [List.getElem_map, hi.2]
  have e2 : j = i := by
    rcases Nat.lt_trichotomy j i with q | q | q
    · exact absurd (h1.trans h2.symm) (List.pairwise_iff_getElem.mp hn j i _ _ q)
    · exact q
    · exact absurd (h2.trans h1.symm) (List.pairwise_iff_getElem.mp hn i j _ _ q)
  omega
theorem TabOk.steps_len {T : Tab} {cs : List Str} (o : TabOk T cs) : T.steps.length ≤ 48 := by
  have h : (T.steps.map (·.1)) ⊆ (T.homes.map (·.1)).flatMap (fun s => cs.map fun c => (s, c)) := fun k hk => by
    obtain ⟨e, he, rfl⟩ := List.mem_map.mp hk
    obtain ⟨m1, m2, _⟩ := o.srow e he
    exact List.mem_flatMap.mpr ⟨_, m1, List.mem_map.mpr ⟨_, m2, rfl⟩⟩
  have h1 := o.snd.length_le_of_subset h
  rw [List.length_map, List.length_flatMap] at h1
  have h2 : ((T.homes.map (·.1)).map fun s => (cs.map fun c => (s, c)).length).sum ≤ (T.homes.map (·.1)).length * 6 := by
    generalize T.homes.map (·.1) = l
    induction l with
    | nil => simp
    | cons x r ih =>
      rw [List.map_cons, List.sum_cons, List.length_map, List.length_cons]
      have := o.few
      omega
  have h3 := o.homes.2.1
  rw [List.length_map] at h2
  omega
theorem inV_str {x : Str} {xs : List Str} : inV (.str x) (xs.map V.str) = decide (x ∈ xs) := by
  unfold inV
  rw [List.any_map]
  by_cases h : x ∈ xs
  · rw [decide_eq_true h, List.any_eq_true]
    exact ⟨x, h, by show eqV (.str x) (.str x) = true; simp [eqV]⟩
  · rw [decide_eq_false h, List.any_eq_false]
    intro y hy
    show ¬ eqV (.str y) (.str x) = true
    have : y ≠ x := fun e => h (e ▸ hy)
    simp [eqV, this]
theorem flat_strs (xs : List Str) : (xs.map V.str).all flatV = true := by
  rw [List.all_map]
  exact List.all_eq_true.mpr fun _ _ => rfl
theorem NameOk.ne {x : Str} (h : NameOk x) : x ≠ Str.empty := fun e => by
  rw [e] at h
  exact absurd h.1 (by decide)
end Sp33
namespace Rd
open PySem L2
theorem fldS {K : PySem.W.Frag} {ta tv : TE} {f : Str} {D : Ends} {σ : L2.St} {H : Hp} (h : tv σ H fun y H1 => ta σ H1 fun x H2 => ∃ a C dx fs, x = .ref a ∧ H2 a = some (.ins C dx fs) ∧ Cls K C ∧ NoAttr K C f ∧ fs.length < 1000 ∧ D.nx σ (upd H2 a (.ins C dx (putF f y fs)))) : sFld K ta tv f D σ H := h
end Rd
namespace Rd
open PySem L2
theorem mt {C : Addr} {m : Str} {sp : Sp} {dvs : List V} {E : XK} {ta : TE} {t : TA} {σ : L2.St} {H : Hp} {Q : VK} (h : ta σ H fun x H1 => ∃ a dx fs, x = .ref a ∧ H1 a = some (.ins C dx fs) ∧ fs.lookup m = none ∧ t σ H1 fun vs H2 => sp (x :: (vs ++ dvs)) H2 Q E) : tMeth C m sp dvs E ta t σ H Q := h
theorem mk {C : Addr} {sp : Sp} {dvs : List V} {E : XK} {t : TA} {σ : L2.St} {H : Hp} {Q : VK} (h : t σ H fun vs H1 => ∀ x dx, H1 x = none → H1 dx = none → dx ≠ x → sp (.ref x :: (vs ++ dvs)) (upd (upd H1 dx (.own x)) x (.ins C dx [])) (fun v H2 => v = .non ∧ Q (.ref x) H2) E) : tMake C sp dvs E t σ H Q := h
end Rd
namespace Sp33
open PySem L2 Dat TOr
theorem lookup_not {f : Str} {ns : List Str} : ∀ {fs : List (Str × V)}, fs.map (·.1) = ns → ns.all (fun g => !decide (g = f)) = true → fs.lookup f = none
  | [], _, _ => rfl
  | (g, x) :: pre, e, h => by
    subst e
    rw [List.map_cons, List.all_cons, Bool.and_eq_true, Bool.not_eq_true', decide_eq_false_iff_not] at h
    show (match f == g with | true => some x | false => pre.lookup f) = _
    rw [show (f == g) = false from beq_eq_false_iff_ne.mpr (fun e => h.1 e.symm)]
    exact lookup_not rfl h.2
section
variable {z0 : Str} {p1 p2 p3 d1 d2 d3 : Addr}
theorem tf_step : (tabFs z0 p1 p2 p3 d1 d2 d3).lookup ("step" : Str) = none := lookup_not (ns := ["start", "statuses", "causes", "columns", "_homes", "_rates", "_steps"]) rfl (by decide +kernel)
theorem tf_home : (tabFs z0 p1 p2 p3 d1 d2 d3).lookup ("home" : Str) = none := lookup_not (ns := ["start", "statuses", "causes", "columns", "_homes", "_rates", "_steps"]) rfl (by decide +kernel)
theorem tf_rate : (tabFs z0 p1 p2 p3 d1 d2 d3).lookup ("rate" : Str) = none := lookup_not (ns := ["start", "statuses", "causes", "columns", "_homes", "_rates", "_steps"]) rfl (by decide +kernel)
end
end Sp33
namespace Rd
open PySem L2
theorem ppc {tk tv : TE} {r : List (TE × TE)} {σ : L2.St} {H : Hp} {Q : List (V × V) → Hp → Prop} (h : tk σ H fun x H1 => tv σ H1 fun y H2 => tPairs r σ H2 fun ps H3 => Q ((x, y) :: ps) H3) : tPairs ((tk, tv) :: r) σ H Q := h
theorem ppn {σ : L2.St} {H : Hp} {Q : List (V × V) → Hp → Prop} (h : Q [] H) : tPairs [] σ H Q := h
end Rd
namespace Bfs
section
variable {α κ : Type} [DecidableEq α] [DecidableEq κ] {step : α → κ → α} {causes : List κ} {F : List (α × List κ)} {at' : Nat}
theorem search_none (h : F[at']? = none) : ∀ n, search step causes n at' F = F
  | 0 => rfl
  | n + 1 => by
    unfold search
    rw [h]
theorem search_some {s : α} {w : List κ} (h : F[at']? = some (s, w)) (n : Nat) : search step causes (n + 1) at' F = search step causes n (at' + 1) (row step causes s w F) := by
  conv => lhs; unfold search
  rw [h]
end
end Bfs
namespace Sp33
open PySem L2 Dat TOr
theorem paired_at {α β : Type} {R : α → β → Prop} {xs : List α} {ys : List β} (h : Paired R xs ys) : ∀ {i : Nat} {y : β}, ys[i]? = some y → ∃ x, xs[i]? = some x ∧ R x y := by
  induction h with
  | nil => intro i y e; simp at e
  | @cons x y xs ys hr t ih =>
    intro i z e
    cases i with
    | zero =>
      have : y = z := by simpa using e
      subst this
      exact ⟨x, rfl, hr⟩
    | succ i => simpa using ih (by simpa using e)
theorem paired_atL {α β : Type} {R : α → β → Prop} {xs : List α} {ys : List β} (h : Paired R xs ys) : ∀ {i : Nat} {x : α}, xs[i]? = some x → ∃ y, ys[i]? = some y ∧ R x y := by
  induction h with
  | nil => intro i y e; simp at e
  | @cons x y xs ys hr t ih =>
    intro i z e
    cases i with
    | zero =>
      have : x = z := by simpa using e
      subst this
      exact ⟨y, rfl, hr⟩
    | succ i => simpa using ih (by simpa using e)
theorem lock_new {H : Hp} {d p : Addr} {u o x : HO} (h : H d = some u) (hp : H p = none) : Same (upd H d o) (upd (upd H p x) d o) := fun b y e => by
  by_cases c : b = d
  · subst c
    rw [upd_same] at e ⊢
    exact e
  · rw [upd_ne c] at e ⊢
    rw [upd_ne (ne_of_none e hp)]
    exact e
theorem rd_mono {H H' : Hp} {d : Addr} {o : HO} (h : Rd H d o) (s : Same H H') : Rd H' d o := h.elim (fun e => .inl (s _ _ e)) fun ⟨u, e⟩ => .inr ⟨u, s _ _ e⟩
theorem WordsAt.mono {H H' : Hp} {d : Addr} {F : List (Str × List Str)} (h : WordsAt H d F) (s : Same H H') : WordsAt H' d F := by
  obtain ⟨kvs, rd, hx⟩ := h
  refine ⟨kvs, rd_mono rd s, fun x => ?_⟩
  have := hx x
  cases e : getA F x with
  | none =>
    rw [e] at this
    exact this
  | some w =>
    rw [e] at this
    obtain ⟨r, a, b⟩ := this
    exact ⟨r, a, s _ _ b⟩
theorem FoundAt.mono {H H' : Hp} {p : Addr} {F : List (Str × List Str)} (h : FoundAt H p F) (s : Same H H') : FoundAt H' p F := by
  obtain ⟨ps, e, hp⟩ := h
  exact ⟨ps, s _ _ e, Paired.mapP hp fun _ _ ⟨r, a, b⟩ => ⟨r, s _ _ a, s _ _ b⟩⟩
theorem run_mem {T : Tab} {cs : List Str} (ok : TabOk T cs) : ∀ (w : List Str) (s : Str), s ∈ T.homes.map (·.1) → (∀ c ∈ w, c ∈ cs) → Bfs.run T.step s w ∈ T.homes.map (·.1)
  | [], s, h, _ => h
  | c :: r, s, h, hc => run_mem ok r _ (ok.tgt h (hc c (by simp))) fun d hd => hc d (by simp [hd])
theorem run_take {T : Tab} {w : List Str} {i : Nat} {c : Str} {s : Str} (h : w[i]? = some c) : Bfs.run T.step s (w.take (i + 1)) = T.step (Bfs.run T.step s (w.take i)) c := by
  rw [List.take_add_one, h]
  exact Bfs.run_snoc _ _ _ _
/-- the step that the plan tells -/
theorem plan_step {T : Tab} {cs : List Str} (ok : TabOk T cs) {H : Hp} {skv : List (List Key × V)} (h : StepsIs H skv T.steps) {s c : Str} (hs : s ∈ T.homes.map (·.1)) (hc : c ∈ cs) :
    ∃ p b, some (V.ref p) = valV skv (skey (s, c)) ∧ H p = some (.tup [.str (T.step s c), .bl b]) := by
  obtain ⟨r, e⟩ := ok.full s hs c hc
  have g := h.get (s, c)
  rw [e] at g
  obtain ⟨p, g1, g2⟩ := g
  refine ⟨p, r.2, g1.symm, ?_⟩
  unfold Tab.step
  rw [e]
  exact g2
end Sp33

set_option Elab.async false
set_option linter.all false
set_option maxRecDepth 100000
set_option maxHeartbeats 4000000
/-! helpers of the draws' readings -/
namespace Sp33
open PySem L2 Dat TOr
theorem fm0 (i : Int) {j : Int} (h : 0 < j) : 0 ≤ i.fmod j := Int.fmod_nonneg_of_pos i h
theorem fm1 (i : Int) {j : Int} (h : 0 < j) : i.fmod j < j := Int.fmod_lt_of_pos i h
theorem Post.free {τ τ' : TM} {H H' : Hp} (p : Post τ H τ' H') {b : Addr} (h : H' b = none) : H b = none := by
  cases e : H b with
  | none => rfl
  | some o =>
    cases t : τ b with
    | none =>
      rw [(p.fr b o e t).1] at h
      cases h
    | some u =>
      obtain ⟨x, hx, _⟩ := p.ok b u (p.ty b u t)
      rw [hx] at h
      cases h
theorem Post.tfree {τ τ' : TM} {H H' : Hp} (p : Post τ H τ' H') {b : Addr} (h : H' b = none) : τ' b = none := p.ok.none h
theorem ints_eq {xs : List Int} (h : True) : True := h

def Lets (x : Str) : Prop := ∀ c ∈ x.cps.toList, 97 ≤ c ∧ c ≤ 122
theorem NameOk.lets {x : Str} (h : NameOk x) : Lets x := h.2.2
theorem lets_app {x y : Str} (hx : Lets x) (hy : Lets y) : Lets (x ++ y) := fun c hc => by
  have e : (x ++ y).cps.toList = x.cps.toList ++ y.cps.toList := by show (x.cps ++ y.cps).toList = _; simp
  rw [e] at hc
  exact (List.mem_append.mp hc).elim (hx c) (hy c)
theorem app_len {x y : Str} : (x ++ y).length = x.length + y.length := by
  show (x.cps ++ y.cps).size = x.cps.size + y.cps.size
  simp
theorem lets1 {c : Nat} (h1 : 97 ≤ c) (h2 : c ≤ 122) : Lets ⟨#[c]⟩ := fun d hd => by
  have : d = c := by simpa using hd
  rw [this]
  exact ⟨h1, h2⟩
theorem len_list (x : Str) : x.length = x.cps.toList.length := by show x.cps.size = _; simp
theorem cutS_list (z : Str) (lo hi : Option Int) : (cutS z lo hi).cps.toList = (z.cps.toList.drop (HT.sIx z.length 0 lo)).take (HT.sIx z.length z.length hi - HT.sIx z.length 0 lo) := by
  unfold cutS
  simp
theorem cut_lets {z : Str} (h : Lets z) (lo hi : Option Int) : Lets (cutS z lo hi) := fun c hc => by
  rw [cutS_list] at hc
  exact h c (List.mem_of_mem_drop (List.mem_of_mem_take hc))
theorem cut_len (z : Str) (lo hi : Option Int) : (cutS z lo hi).length = min (HT.sIx z.length z.length hi - HT.sIx z.length 0 lo) (z.length - HT.sIx z.length 0 lo) := by
  rw [len_list, cutS_list, List.length_take, List.length_drop, ← len_list]
theorem cut_to {z : Str} {k : Nat} (h : k ≤ z.length) : (cutS z none (some (k : Int))).length = k := by
  rw [cut_len, HT.sIx_nat, HT.sIx_none]
  omega
theorem cut_mid {z : Str} {j k : Nat} (h : k ≤ z.length) (hj : j ≤ k) : (cutS z (some (j : Int)) (some (k : Int))).length = k - j := by
  rw [cut_len, HT.sIx_nat, HT.sIx_nat]
  omega
theorem cut_init {z : Str} (h : 1 ≤ z.length) : (cutS z none (some (-1))).length = z.length - 1 := by
  have e : HT.sIx z.length z.length (some (-1)) = z.length - 1 := by
    show (if (-1 : Int) < 0 then ((-1 : Int) + (z.length : Int)).toNat else min (-1 : Int).toNat z.length) = _
    rw [if_pos (by decide)]
    omega
  rw [cut_len, e, HT.sIx_none]
  omega
theorem last_at {z : Str} (h : 1 ≤ z.length) : ∃ c, atI z.cps.toList (-1) = some c := by
  rw [len_list] at h
  have hne : z.cps.toList ≠ [] := fun e => by rw [e] at h; exact absurd h (by decide)
  refine ⟨z.cps.toList.getLast hne, ?_⟩
  conv => lhs; rw [← List.dropLast_concat_getLast hne]
  exact atI_last _ _
abbrev letters : Str := "abcdefghijklmnopqrstuvwxyz"
theorem letters_len : letters.length ≤ sizeLine := Nat.le_trans (show letters.length ≤ 26 by decide +kernel) (by decide)
theorem letters_all : ((List.range 26).all fun v => decide (letters.cps.toList[v]? = some (97 + v))) = true := by decide +kernel
theorem letters_at {v : Int} (h0 : 0 ≤ v) (h1 : v < 26) : ∃ c : Nat, atI letters.cps.toList v = some c ∧ 97 ≤ c ∧ c ≤ 122 := by
  obtain ⟨n, rfl⟩ := Int.eq_ofNat_of_zero_le h0
  have := List.all_eq_true.mp letters_all n (List.mem_range.mpr (by omega))
  exact ⟨97 + n, atI_nat (of_decide_eq_true this), by omega, by omega⟩
theorem joinL_one : ∀ cs : List Nat, TL.joinL [] (cs.map fun c => [c]) = cs
  | [] => rfl
  | [c] => rfl
  | c :: d :: r => by
    have ih := joinL_one (d :: r)
    simp only [List.map_cons] at ih ⊢
    simp only [TL.joinL] at ih ⊢
    simp [ih]
theorem join_one (cs : List Nat) : (Txt.join ("" : Str) (cs.map fun c => (⟨#[c]⟩ : Str))).cps.toList = cs := by
  have h := SX.join_S [] (cs.map fun c => [c])
  rw [joinL_one, List.map_map] at h
  have e : (Txt.join ("" : Str) (cs.map fun c => (⟨#[c]⟩ : Str))) = SX.S cs := h
  rw [e]
theorem cut_ints (ns : List Int) (lo hi : Option Int) : cutV (ns.map V.int) lo hi = ((ns.drop (HT.sIx ns.length 0 lo)).take (HT.sIx ns.length ns.length hi - HT.sIx ns.length 0 lo)).map V.int := by
  unfold cutV
  rw [List.length_map, List.map_take, List.map_drop]
theorem cut_strs (ns : List Str) (lo hi : Option Int) : cutV (ns.map V.str) lo hi = ((ns.drop (HT.sIx ns.length 0 lo)).take (HT.sIx ns.length ns.length hi - HT.sIx ns.length 0 lo)).map V.str := by
  unfold cutV
  rw [List.length_map, List.map_take, List.map_drop]
end Sp33
namespace Rd
open PySem L2
theorem setL {p : Addr} {xs ys : List V} {k : Int} {j : Nat} {v : V} {H : Hp} {Q : Hp → Prop} (hp : H p = some (.lst xs)) (hj : ixN xs.length k = some j) (e : xs.set j v = ys) (q : Q (upd H p (.lst ys))) : rSetL (.ref p) (.int k) v H Q := ⟨p, xs, k, j, rfl, rfl, hp, hj, by rw [e]; exact q⟩
end Rd
namespace Rd
open PySem L2
section
variable {i j : Int} {H : Hp} {Q : VK}
theorem mulL (h1 : -18446744073709551616 < i) (h2 : i < 18446744073709551616) (q : Q (.int (i * j)) H) : rI CMul (fun i j => .int (i * j)) (.int i) (.int j) H Q := ⟨i, j, rfl, rfl, .inl ⟨h1, h2⟩, q⟩
theorem mod (h : 0 < j) (q : ∀ m, 0 ≤ m → m < j → Q (.int m) H) : rI (fun _ j => j ≠ 0) (fun i j => .int (i.fmod j)) (.int i) (.int j) H Q := ⟨i, j, rfl, rfl, by omega, q _ (Int.fmod_nonneg_of_pos i h) (Int.fmod_lt_of_pos i h)⟩
theorem fdiv (h : 0 < j) (h2 : j < 1073741824) (q : Q (.int (i.fdiv j)) H) : rI CDivN (fun i j => .int (i.fdiv j)) (.int i) (.int j) H Q := ⟨i, j, rfl, rfl, ⟨by omega, by show j.natAbs < 1073741824; omega⟩, q⟩
end
end Rd
namespace Sp33
open PySem L2 Dat TOr
theorem pick {xs : List Int} {lo hi v : Int} (h : xs.all (fun x => decide (lo ≤ x) && decide (x ≤ hi)) = true) (h0 : 0 ≤ v) (h1 : v < xs.length) : ∃ x, atI (xs.map V.int) v = some (.int x) ∧ lo ≤ x ∧ x ≤ hi := by
  obtain ⟨n, rfl⟩ := Int.eq_ofNat_of_zero_le h0
  have hn : n < xs.length := by omega
  have := List.all_eq_true.mp h xs[n] (List.getElem_mem hn)
  rw [Bool.and_eq_true, decide_eq_true_eq, decide_eq_true_eq] at this
  exact ⟨xs[n], atI_nat (by rw [List.getElem?_map, List.getElem?_eq_getElem hn]; rfl), this⟩
theorem one_lens (cs : List Nat) : ((cs.map fun c => (⟨#[c]⟩ : Str)).map (·.length)).sum = cs.length := by
  induction cs with
  | nil => rfl
  | cons c r ih =>
    rw [List.map_cons, List.map_cons, List.sum_cons, ih, List.length_cons]
    show 1 + r.length = _
    omega
theorem NameOk.small {x : Str} (h : NameOk x) : x.length ≤ sizeLine := Nat.le_trans h.2.1 (by decide)
end Sp33
namespace Sp33
open PySem L2 Dat TOr
theorem pickS {cs : List Str} {v : Int} (h0 : 0 ≤ v) (h1 : v < cs.length) : ∃ c, atI (cs.map V.str) v = some (.str c) ∧ c ∈ cs := by
  obtain ⟨n, rfl⟩ := Int.eq_ofNat_of_zero_le h0
  have hn : n < cs.length := by omega
  exact ⟨cs[n], atI_nat (by rw [List.getElem?_map, List.getElem?_eq_getElem hn]; rfl), List.getElem_mem hn⟩
theorem pickI {cs : List Int} {v : Int} (h0 : 0 ≤ v) (h1 : v < cs.length) : ∃ c, atI (cs.map V.int) v = some (.int c) ∧ c ∈ cs := by
  obtain ⟨n, rfl⟩ := Int.eq_ofNat_of_zero_le h0
  have hn : n < cs.length := by omega
  exact ⟨cs[n], atI_nat (by rw [List.getElem?_map, List.getElem?_eq_getElem hn]; rfl), List.getElem_mem hn⟩
theorem pickB {cs : List Bool} {v : Int} (h0 : 0 ≤ v) (h1 : v < cs.length) : ∃ c, atI (cs.map V.bl) v = some (.bl c) ∧ c ∈ cs := by
  obtain ⟨n, rfl⟩ := Int.eq_ofNat_of_zero_le h0
  have hn : n < cs.length := by omega
  exact ⟨cs[n], atI_nat (by rw [List.getElem?_map, List.getElem?_eq_getElem hn]; rfl), List.getElem_mem hn⟩
theorem pickR {ps : List Addr} {v : Int} (h0 : 0 ≤ v) (h1 : v < ps.length) : ∃ c, atI (ps.map V.ref) v = some (.ref c) ∧ c ∈ ps := by
  obtain ⟨n, rfl⟩ := Int.eq_ofNat_of_zero_le h0
  have hn : n < ps.length := by omega
  exact ⟨ps[n], atI_nat (by rw [List.getElem?_map, List.getElem?_eq_getElem hn]; rfl), List.getElem_mem hn⟩
theorem Post.same {H H' : Hp} {τ' : TM} (p : Post (fun _ => none) H τ' H') : Same H H' := fun b o e => (p.fr b o e rfl).1
theorem hty0 (H : Hp) : Hty (fun _ => none) H := fun _ _ e => nomatch e
end Sp33
namespace Rd
open PySem L2
theorem seqR {t u : TS} {D : Ends} {σ : L2.St} {H : Hp} (R : L2.St → Hp → Prop) (h : ∀ NX : L2.St → Hp → Prop, (∀ σ' H', R σ' H' → NX σ' H') → t { D with nx := NX } σ H) (h2 : ∀ σ' H', R σ' H' → u D σ' H') : tSeq t u D σ H := h (u D) h2
end Rd
namespace Sp33
open PySem L2 Dat TOr
theorem ixN_nat {n j : Nat} (h : j < n) : ixN n (j : Int) = some j := by
  unfold ixN
  rw [if_pos (by omega), if_pos (by omega)]
  simp
end Sp33
namespace Sp33
open PySem L2 Dat TOr
theorem merge_new {ns : List Str} (nd : ns.Nodup) : ∀ (more kvs : List (Key × V)), (kvs ++ more).map (·.1) = ns.map Sum.inr → mergeK kvs more = kvs ++ more
  | [], kvs, _ => (List.append_nil kvs).symm
  | p :: r, kvs, e => by
    have hp : (kvs.any fun kv => decide (kv.1 = p.1)) = false := by
      rw [List.any_eq_false]
      intro kv hkv hd
      have hd := of_decide_eq_true hd
      have hn : ((kvs ++ p :: r).map (·.1)).Nodup := by
        rw [e]
        exact List.Pairwise.map _ (fun a b h z => h (Sum.inr.inj z)) nd
      rw [List.map_append, List.nodup_append] at hn
      exact hn.2.2 kv.1 (List.mem_map.mpr ⟨kv, hkv, rfl⟩) p.1 (by simp) hd
    show mergeK (putK kvs p.1 p.2) r = _
    unfold putK
    rw [hp, if_neg Bool.false_ne_true]
    rw [merge_new nd r (kvs ++ [(p.1, p.2)]) (by rw [List.append_assoc]; exact e), List.append_assoc]
    rfl
theorem valV_at {ns : List Str} (nd : ns.Nodup) : ∀ {kvs : List (Key × V)}, kvs.map (·.1) = ns.map Sum.inr → ∀ {i : Nat} {k : Key} {v : V}, kvs[i]? = some (k, v) → valV kvs k = some v
  | [], _, i, _, _, h => by simp at h
  | p :: r, e, i, k, v, h => by
    have hn : ((p :: r).map (·.1)).Nodup := by
      rw [e]
      exact List.Pairwise.map _ (fun a b h z => h (Sum.inr.inj z)) nd
    rw [List.map_cons, List.nodup_cons] at hn
    cases ns with
    | nil => simp at e
    | cons n ns =>
      rw [List.map_cons, List.map_cons] at e
      have e2 := (List.cons.inj e).2
      cases i with
      | zero =>
        have : p = (k, v) := by simpa using h
        rw [this, valV_pos rfl]
      | succ i =>
        have h2 : r[i]? = some (k, v) := by simpa using h
        have hne : ¬ p.1 = k := fun z => hn.1 (by rw [z]; exact List.mem_map.mpr ⟨_, List.mem_of_getElem? h2, rfl⟩)
        rw [valV_neg hne]
        exact valV_at (List.nodup_cons.mp nd).2 e2 h2
theorem prod_len {l : List (Str × Str)} {A B : List Str} (hn : l.Nodup) (h : ∀ k ∈ l, k.1 ∈ A ∧ k.2 ∈ B) : l.length ≤ A.length * B.length := by
  have hs : l ⊆ A.flatMap (fun s => B.map fun c => (s, c)) := fun k hk => List.mem_flatMap.mpr ⟨k.1, (h k hk).1, List.mem_map.mpr ⟨k.2, (h k hk).2, rfl⟩⟩
  have h1 := hn.length_le_of_subset hs
  have h2 : (A.flatMap (fun s => B.map fun c => (s, c))).length = A.length * B.length := by
    induction A with
    | nil => simp
    | cons x r ih =>
      rw [List.flatMap_cons, List.length_append, List.length_map, List.length_cons, Nat.succ_mul]
      have := ih
      clear h1 hs h ih
      rw [show (List.flatMap (fun s => B.map fun c => (s, c)) r).length = r.length * B.length from ?_]
      · omega
      · clear this
        induction r with
        | nil => simp
        | cons y r ih => rw [List.flatMap_cons, List.length_append, List.length_map, List.length_cons, Nat.succ_mul, ih]; omega
  omega
/-- the plan being drawn: what stands typed -/
structure Pl (H : Hp) (fx : List (Addr × Ty)) (τ : TM) (G : Hp) : Prop where
  P : Post (fun _ => none) H τ G
  f : ∀ q ∈ fx, τ q.1 = some q.2
section
variable {H G G' : Hp} {fx : List (Addr × Ty)} {τ τ' : TM} {p : Addr} {t : Ty} {o : HO}
theorem Pl.step (i : Pl H fx τ G) (R : Post τ G τ' G') : Pl H fx τ' G' := ⟨i.P.trans R, fun q hq => R.ty _ _ (i.f q hq)⟩
theorem Pl.add (i : Pl H fx τ G) (h : τ p = some t) : Pl H ((p, t) :: fx) τ G := ⟨i.P, fun q hq => (List.mem_cons.mp hq).elim (fun e => by rw [e]; exact h) (i.f q)⟩
theorem Pl.get (i : Pl H fx τ G) (h : (p, t) ∈ fx) : τ p = some t := i.f _ h
theorem Pl.new (i : Pl H fx τ G) (hp : G p = none) : Pl H fx τ (upd G p o) := ⟨i.P.new hp, i.f⟩
theorem Pl.mut (i : Pl H fx τ G) (h0 : H p = none) (tp : τ p = none) : Pl H fx τ (upd G p o) := ⟨i.P.mut h0 tp, i.f⟩
theorem Pl.kind (i : Pl H fx τ G) (h0 : H p = none) (tp : τ p = none) (hp : G p = some o) (s : Sat τ o t) : Pl H ((p, t) :: fx) (ext τ p t) G :=
  ⟨i.P.kind h0 tp hp s, fun q hq => (List.mem_cons.mp hq).elim (fun e => by rw [e]; exact ext_same) fun hq => by
    have := i.f q hq
    rw [ext_ne (fun e => by rw [e, tp] at this; cases this)]
    exact this⟩
theorem Pl.exl (i : Pl H fx τ G) (hp : G p = none) : Pl H ((p, .ex o) :: fx) (ext τ p (.ex o)) (upd G p o) := (i.new hp).kind (i.P.free hp) (i.P.tfree hp) upd_same rfl
theorem Pl.at_ex (i : Pl H fx τ G) (h : (p, .ex o) ∈ fx) : G p = some o := i.P.ok.at_ex (i.get h)
theorem Pl.sub {gx : List (Addr × Ty)} (i : Pl H fx τ G) (h : ∀ q ∈ gx, q ∈ fx) : Pl H gx τ G := ⟨i.P, fun q hq => i.f q (h q hq)⟩
end
end Sp33
namespace Rd
open PySem L2
theorem lstRg2 {ta tb : TE} {σ : L2.St} {H : Hp} {Q : VK} (h : ta σ H fun x H1 => tb σ H1 fun y H2 => ∃ i j, x = .int i ∧ y = .int j ∧ RgOk i j ∧ ∀ q, H2 q = none → Q (.ref q) (upd H2 q (.lst (rgV i j)))) : tLstRg (tRg2 ta tb) σ H Q := h
theorem lstRg1 {ta : TE} {σ : L2.St} {H : Hp} {Q : VK} (h : ta σ H fun x H1 => ∃ n, x = .int n ∧ RgOk 0 n ∧ ∀ q, H1 q = none → Q (.ref q) (upd H1 q (.lst (rgV 0 n)))) : tLstRg (tRg1 ta) σ H Q := h
end Rd
namespace Sp33
open PySem L2 Dat TOr
/-- what stands in the search's list, as data -/
def foundD (F : List (Str × List Str)) : PyData := .list (F.map fun f => .tuple [.str f.1, .tuple (f.2.map PyData.str)])
theorem dp_strs (K : PySem.W.Frag) (H : Hp) : ∀ xs : List Str, DpAll K H (xs.map V.str) (xs.map PyData.str)
  | [] => .nil
  | x :: r => .cons (.str x) (dp_strs K H r)
theorem dp_found {K : PySem.W.Frag} {H : Hp} {p : Addr} {F : List (Str × List Str)} (h : FoundAt H p F) : Dp K H (.ref p) (foundD F) := by
  obtain ⟨qs, e, hp⟩ := h
  refine .lst (st_or e) ?_
  clear e
  induction hp with
  | nil => exact .nil
  | @cons q f qs fs hr t ih =>
    obtain ⟨r, h1, h2⟩ := hr
    exact .cons (.tup (st_of h1) (.cons (.str f.1) (.cons (.tup (st_of h2) (dp_strs K H f.2)) .nil))) ih
where st_or {K : PySem.W.Frag} {H : Hp} {a : Addr} {xs : List V} (h : H a = some (.lst xs)) : SqL K H a xs := sq_of h
theorem NameOk.strOk {x : Str} (h : NameOk x) : PyData.strOk x = true := by
  unfold PyData.strOk
  rw [← Array.all_toList]
  exact List.all_eq_true.mpr fun c hc => decide_eq_true (by have := (h.2.2 c hc).2; omega)
theorem can_strs : ∀ {xs : List Str}, (∀ x ∈ xs, NameOk x) → PyData.canLayAll0 (xs.map PyData.str) = true
  | [], _ => rfl
  | x :: r, h => by
    rw [List.map_cons]
    unfold PyData.canLayAll0
    rw [Bool.and_eq_true]
    refine ⟨?_, can_strs fun y hy => h y (by simp [hy])⟩
    unfold PyData.canLay0
    exact (h x (by simp)).strOk
theorem depth_strs : ∀ {xs : List Str}, PyData.depthAll (xs.map PyData.str) = 0
  | [] => rfl
  | x :: r => by
    rw [List.map_cons]
    unfold PyData.depthAll PyData.depth
    rw [depth_strs]
    rfl
theorem can_found : ∀ {F : List (Str × List Str)}, (∀ f ∈ F, NameOk f.1 ∧ ∀ c ∈ f.2, NameOk c) → PyData.canLayAll0 (F.map fun f => .tuple [.str f.1, .tuple (f.2.map PyData.str)]) = true
  | [], _ => rfl
  | f :: r, h => by
    rw [List.map_cons]
    have h1 := (h f (by simp)).1.strOk
    have h2 := can_strs (h f (by simp)).2
    have ih := can_found (F := r) fun g hg => h g (by simp [hg])
    simp only [PyData.canLayAll0, PyData.canLay0, h1, h2, ih, Bool.and_self]
theorem depth_found : ∀ {F : List (Str × List Str)}, PyData.depthAll (F.map fun f => .tuple [.str f.1, .tuple (f.2.map PyData.str)]) ≤ 2
  | [] => by decide
  | f :: r => by
    rw [List.map_cons]
    have ih := depth_found (F := r)
    have h0 := depth_strs (xs := f.2)
    simp only [PyData.depthAll, PyData.depth, h0]
    omega
theorem shaped_found {F : List (Str × List Str)} (h : ∀ f ∈ F, NameOk f.1 ∧ ∀ c ∈ f.2, NameOk c) : SeqAt.shaped (foundD F) = true := by
  unfold SeqAt.shaped foundD
  have h1 := can_found h
  have h2 := depth_found (F := F)
  rw [Bool.and_eq_true]
  refine ⟨?_, decide_eq_true ?_⟩
  · unfold PyData.canLay0
    exact h1
  · unfold PyData.depth
    omega
theorem eqv_found {F : List (Str × List Str)} (h : ∀ f ∈ F, NameOk f.1 ∧ ∀ c ∈ f.2, NameOk c) : PyData.eqv (foundD F) (foundD F) = true :=
  SeqAt.eqv_refl _ (SeqAt.canLay_of_shaped (shaped_found h))
theorem SqL_mono {K : PySem.W.Frag} {H H' : Hp} {a : Addr} {xs : List V} (h : SqL K H a xs) (s : Same H H') : SqL K H' a xs := h.elim (fun h => .inl (rd_mono h s)) .inr
/-- the words' dict, item by item -/
def WRel (H : Hp) (kv : Key × V) (f : Str × List Str) : Prop := kv.1 = Sum.inr f.1 ∧ ∃ r, kv.2 = V.ref r ∧ H r = some (.tup (f.2.map V.str))
theorem wrel_keys {H : Hp} {kvs : List (Key × V)} {F : List (Str × List Str)} (h : Paired (WRel H) kvs F) : kvs.map (·.1) = F.map (fun f => Sum.inr f.1) := by
  induction h with
  | nil => rfl
  | cons hr t ih => rw [List.map_cons, List.map_cons, ih, hr.1]
theorem wrel_at {H : Hp} {kvs : List (Key × V)} {F : List (Str × List Str)} (h : Paired (WRel H) kvs F) (x : Str) : match getA F x with
    | none => valV kvs (.inr x) = none
    | some w => ∃ r, valV kvs (.inr x) = some (.ref r) ∧ H r = some (.tup (w.map V.str)) := by
  induction h with
  | nil => rfl
  | @cons kv f ks fs hr t ih =>
    obtain ⟨h1, r, h2, h3⟩ := hr
    rw [getA_cons]
    by_cases c : f.1 = x
    · rw [if_pos c]
      exact ⟨r, by rw [valV_pos (by rw [h1, c]), h2], h3⟩
    · rw [if_neg c, valV_neg (fun z => c (Sum.inr.inj (h1.symm.trans z)))]
      exact ih
end Sp33

set_option Elab.async false
set_option linter.all false
set_option maxRecDepth 100000
set_option maxHeartbeats 2000000
/-! min(list of ints, default=None) -/
namespace MnD
open PySem PySem.Spec PyProof.Rows
section
variable {prog : Program} {w : World} {A : Around} {R : Result → Shared → Prop} {I : Addr} {fp wr : List Addr} {n : Nat} {P : Nat → Value → Prop} {St : Nat → Heap → Prop}
theorem min_loopD (W : Walks prog w A.in1 I fp wr n P St) (bt : Nat → Nat → Bool) (hcmp : CmpOf prog w A.in1 .Lt P bt) (S : Addr) (hSf : S ∉ fp) :
    ∀ (k j : Nat) (s : Shared) (vb : Value) (c : Nat), n - (j + 1) = k → j + 1 ≤ n → St (j + 1) s.heap → P (argBest bt j) vb →
    s.heap.get? S = some { cls := .type "list", dict := none, data := .seq #[vb, vb] c, slots := #[] } →
    (∀ v h' tk, P (argBest bt (n - 1)) v → (∀ b o, b ∉ wr → b ≠ S → s.heap.get? b = some o → h'.get? b = some o) → R (.ok (.ret v)) { s with heap := h', toks := tk }) →
    codeAny (model prog w) A (.builtin "min.loop" ⟨[.ref I, .none, .ref S], [(PySem.Str.ofString "default", .none)]⟩) R s := by
  have hSw : S ∉ wr := fun h => hSf (W.sub _ h)
  have hname : (toString "min" ++ toString ".loop" : String) = "min.loop" := by decide
  intro k
  induction k with
  | zero =>
    intro j s vb c hk hj hst hPb hS hR
    have hin : j + 1 = n := by omega
    refine codeAny_builtin F.entry_min_loop ?_
    rw [Around.under_plainId F.plain_min_loop _]
    show wpAny _ A.in1 (seqItems? (.ref S) >>= _) _ _ s
    refine wpAny_bind (wpAny_seqItems hS rfl ?_)
    show wpAny _ A.in1 (tryCatch (pyNext (.ref I)) _ >>= _) _ _ s
    refine wpAny_bind (wpAny_tryCatch (W.done s _ _ (hin ▸ hst) fun h' tk hk' => ?_))
    have hS' := hk' S _ hSw hS
    show wpAny _ A.in1 (updateSeq S (fun _ => #[]) >>= _) _ _ _
    refine wpAny_bind ?_
    refine wpAny_updateSeq hS' rfl (wpAny_bind (wpAny_letGo (wpAny_pure ?_)))
    refine hR vb _ tk (by rw [← hin]; exact hPb) fun b o hbw hbS e => (Heap.get?_update_other _ _ (Ne.symm hbS)).trans (hk' b o hbw e)
  | succ k ih =>
    intro j s vb c hk hj hst hPb hS hR
    have hlt : j + 1 < n := by omega
    refine codeAny_builtin F.entry_min_loop ?_
    rw [Around.under_plainId F.plain_min_loop _]
    show wpAny _ A.in1 (seqItems? (.ref S) >>= _) _ _ s
    refine wpAny_bind (wpAny_seqItems hS rfl ?_)
    show wpAny _ A.in1 (tryCatch (pyNext (.ref I)) _ >>= _) _ _ s
    refine wpAny_bind (wpAny_tryCatch (W.item (j + 1) s _ _ hlt hst fun v h' tk hP hst' hk' => ?_))
    have hS' := hk' S _ hSw hS
    show wpAny _ A.in1 (tryCatch (holding [v, v] (richCompare .Lt v vb >>= _)) _ >>= _) _ _ _
    refine wpAny_bind (wpAny_tryCatch (wpAny_holding (wpAny_bind (hcmp (j + 1) (argBest bt j) v vb _ _ _ hP hPb ?_))))
    refine wpAny_bind (wpAny_holding (wpAny_truthy_bool ?_))
    refine wpAny_bind (wpAny_letGo (wpAny_pure ?_))
    cases hb : bt (j + 1) (argBest bt j) with
    | true =>
      simp only [if_true]
      refine wpAny_bind ?_
      refine wpAny_updateSeq hS' rfl (wpAny_bind (wpAny_letGo ?_))
      rw [hname]
      refine wpAny_pure ⟨plainId_quiet F.plain_min_loop _, ih (j + 1) _ v _ (by omega) hlt (W.frame _ _ _ hst' fun b hbf o e => ?_) (by simp only [argBest, hb, if_true]; exact hP) (Heap.get?_update_self _ hS' rfl)
        fun v' h'' tk'' hP' hk'' => ?_⟩
      · exact (Heap.get?_update_other _ _ (fun h : S = b => hSf (by rw [h]; exact hbf))).trans e
      · exact hR v' h'' tk'' hP' fun b o hbw hbS e => hk'' b o hbw hbS ((Heap.get?_update_other _ _ (Ne.symm hbS)).trans (hk' b o hbw e))
    | false =>
      simp only [Bool.false_eq_true, if_false]
      refine wpAny_bind (wpAny_letGo ?_)
      rw [hname]
      refine wpAny_pure ⟨plainId_quiet F.plain_min_loop _, ih (j + 1) _ vb c (by omega) hlt hst' (by simp only [argBest, hb, Bool.false_eq_true, if_false]; exact hPb) hS' fun v' h'' tk'' hP' hk'' => ?_⟩
      exact hR v' h'' tk'' hP' fun b o hbw hbS e => hk'' b o hbw hbS (hk' b o hbw e)

theorem min_loopD_first (W : Walks prog w A.in1 I fp wr n P St) (bt : Nat → Nat → Bool) (hcmp : CmpOf prog w A.in1 .Lt P bt) (S : Addr) (hSf : S ∉ fp) (hn : 0 < n) {s : Shared} {c : Nat} (hst : St 0 s.heap)
    (hS : s.heap.get? S = some { cls := .type "list", dict := none, data := .seq #[] c, slots := #[] })
    (hR : ∀ v h' tk, P (argBest bt (n - 1)) v → (∀ b o, b ∉ wr → b ≠ S → s.heap.get? b = some o → h'.get? b = some o) → R (.ok (.ret v)) { s with heap := h', toks := tk }) :
    codeAny (model prog w) A (.builtin "min.loop" ⟨[.ref I, .none, .ref S], [(PySem.Str.ofString "default", .none)]⟩) R s := by
  have hSw : S ∉ wr := fun h => hSf (W.sub _ h)
  have hname : (toString "min" ++ toString ".loop" : String) = "min.loop" := by decide
  refine codeAny_builtin F.entry_min_loop ?_
  rw [Around.under_plainId F.plain_min_loop _]
  show wpAny _ A.in1 (seqItems? (.ref S) >>= _) _ _ s
  refine wpAny_bind (wpAny_seqItems hS rfl ?_)
  show wpAny _ A.in1 (tryCatch (pyNext (.ref I)) _ >>= _) _ _ s
  refine wpAny_bind (wpAny_tryCatch (W.item 0 s _ _ hn hst fun v h' tk hP hst' hk' => ?_))
  have hS' := hk' S _ hSw hS
  show wpAny _ A.in1 (updateSeq S (fun _ => #[v, v]) >>= _) _ _ _
  refine wpAny_bind ?_
  refine wpAny_updateSeq hS' rfl ?_
  rw [hname]
  refine wpAny_pure ⟨plainId_quiet F.plain_min_loop _, min_loopD W bt hcmp S hSf _ 0 _ v _ rfl hn (W.frame _ _ _ hst' fun b hbf o e => ?_) hP (Heap.get?_update_self _ hS' rfl) fun v' h'' tk'' hP' hk'' => ?_⟩
  · exact (Heap.get?_update_other _ _ (fun h : S = b => hSf (by rw [h]; exact hbf))).trans e
  · exact hR v' h'' tk'' hP' fun b o hbw hbS e => hk'' b o hbw hbS ((Heap.get?_update_other _ _ (Ne.symm hbS)).trans (hk' b o hbw e))

theorem min_noneD (W : Walks prog w A.in1 I fp wr 0 P St) (S : Addr) (hSf : S ∉ fp) {s : Shared} {c : Nat} (hst : St 0 s.heap)
    (hS : s.heap.get? S = some { cls := .type "list", dict := none, data := .seq #[] c, slots := #[] })
    (hR : ∀ h' tk, (∀ b o, b ∉ wr → s.heap.get? b = some o → h'.get? b = some o) → R (.ok (.ret .none)) { s with heap := h', toks := tk }) :
    codeAny (model prog w) A (.builtin "min.loop" ⟨[.ref I, .none, .ref S], [(PySem.Str.ofString "default", .none)]⟩) R s := by
  refine codeAny_builtin F.entry_min_loop ?_
  rw [Around.under_plainId F.plain_min_loop _]
  show wpAny _ A.in1 (seqItems? (.ref S) >>= _) _ _ s
  refine wpAny_bind (wpAny_seqItems hS rfl ?_)
  show wpAny _ A.in1 (tryCatch (pyNext (.ref I)) _ >>= _) _ _ s
  refine wpAny_bind (wpAny_tryCatch (W.done s _ _ hst fun h' tk hk' => ?_))
  refine wpAny_bind (wpAny_rule (wpAny_pure ?_))
  exact hR h' tk hk'
end
section
variable {prog : Program} {w : World} {A : Around} {E : Value → Shared → Prop} {s : Shared}
theorem tree_kw {id : String} {b : Builtin} {args : List Value} {kw : List (Str × Value)} {Q : Value → Shared → Prop} (hk : builtinKind id = none) (hp : plainId id = true)
    (hb : entryFor table id = some b) (ha : argsOk id ⟨args, kw⟩)
    (hc : wpAny (model prog w) A.in1 (b ⟨args, kw⟩) (fun fin s' => match fin with
      | .done f => (match (Except.ok f : Result) with | .ok (.ret v) => Q v s' | .ok _ => False | .error e => E e s')
      | .again c' => c'.quiet = true ∧ codeAny (model prog w) A c' (fun r s' => match r with | .ok (.ret v) => Q v s' | .ok _ => False | .error e => E e s') s') E s) :
    wpAny (model prog w) A (call (.builtin id) args kw) Q E s := by
  refine wpAny_call (codeAny_call_builtin hp hb ?_)
  simp only [checkBuiltinCall, hk]
  cases hsig : Manifest.signature? id with
  | none => exact wpAny_pure hc
  | some sig =>
    have ha' : Bind.checkArgs id sig ⟨args, kw⟩ = pure () := by simpa only [argsOk, hsig] using ha
    simp only [ha']
    exact wpAny_pure hc
theorem args_minD (a : Value) : argsOk "min" ⟨[a], [(PySem.Str.ofString "default", .none)]⟩ := by unfold argsOk; kernel_rfl
theorem min_walkD {x : Value} {Q : Value → Shared → Prop}
    (h : wpAny (model prog w) A.in1 (pyIter x) (fun it s₂ => ∃ I fp wr n P St bt, it = .ref I ∧ Walks prog w A.in1 I fp wr n P St ∧ St 0 s₂.heap ∧ (∀ b ∈ fp, b < s₂.heap.objs.size) ∧ CmpOf prog w A.in1 .Lt P bt ∧
      (0 < n → ∀ v h' tk, P (argBest bt (n - 1)) v → (∀ b o, b ∉ wr → s₂.heap.get? b = some o → h'.get? b = some o) → Q v { s₂ with heap := h', toks := tk }) ∧
      (n = 0 → ∀ h' tk, (∀ b o, b ∉ wr → s₂.heap.get? b = some o → h'.get? b = some o) → Q .none { s₂ with heap := h', toks := tk })) E s) :
    wpAny (model prog w) A (call (.builtin "min") [x] [(PySem.Str.ofString "default", .none)]) Q E s := by
  have hname : (toString "min" ++ toString ".loop" : String) = "min.loop" := by decide
  refine tree_kw F.kind_min F.plain_min F.entry_min (args_minD _) ?_
  show wpAny _ A.in1 (Builtin.Builtins.bindParams "min" ["key", "default"] 0 ⟨[], [(PySem.Str.ofString "default", .none)]⟩ >>= _) _ _ s
  refine wpAny_bind (wpAny_of_eq (show Builtin.Builtins.bindParams "min" ["key", "default"] 0 ⟨[], [(PySem.Str.ofString "default", .none)]⟩ = pure [none, some .none] from rfl) ?_)
  refine wpAny_bind (wpAny_pure ?_)
  refine wpAny_bind (wpAny_mono h (fun it s₂ h₂ => ?_) fun _ _ e => e)
  obtain ⟨I, fp, wr, n, P, St, bt, rfl, W, hst, hfp, hcmp, hQ, hN⟩ := h₂
  refine wpAny_bind (wpAny_newObj_type ?_)
  have hSf : s₂.heap.objs.size ∉ fp := fun hm => Nat.lt_irrefl _ (hfp _ hm)
  rw [hname]
  rcases Nat.eq_zero_or_pos n with e | hn
  · subst e
    refine wpAny_pure ⟨plainId_quiet F.plain_min_loop _, min_noneD W s₂.heap.objs.size hSf (W.frame _ _ _ hst fun b _ o e => Heap.get?_push_of_some _ e) (Heap.get?_push_size _ rfl) fun h' tk hk => ?_⟩
    exact hN rfl h' tk fun b o hbw e => hk b o hbw (Heap.get?_push_of_some _ e)
  · refine wpAny_pure ⟨plainId_quiet F.plain_min_loop _, min_loopD_first W bt hcmp s₂.heap.objs.size hSf hn (W.frame _ _ _ hst fun b _ o e => Heap.get?_push_of_some _ e) (Heap.get?_push_size _ rfl) fun v h' tk hP hk => ?_⟩
    exact hQ hn v h' tk hP fun b o hbw e => hk b o hbw (Nat.ne_of_lt (Heap.lt_size e)) (Heap.get?_push_of_some _ e)
end
section
open L2
variable {prog : Program} {w : World} {A : Around} {E : Value → Shared → Prop} {s : Shared} {l : Addr} {its : List Value} {ns : List Int} {Q : Value → Shared → Prop}
theorem min_rawD (hh : A.handled = none) (hl : s.heap.IsList l its.toArray) (hi : IntsAre its ns)
    (h0 : ns = [] → ∀ h' tk, (∀ b o, s.heap.get? b = some o → h'.get? b = some o) → Q .none { s with heap := h', toks := tk })
    (h : ∀ h' tk M t', (∀ b o, s.heap.get? b = some o → h'.get? b = some o) → M ∈ ns → (∀ a, a ∈ ns → M ≤ a) → Q (.int M t') { s with heap := h', toks := tk }) : wpAny (model prog w) A (call (.builtin "min") [.ref l] [(PySem.Str.ofString "default", .none)]) Q E s := by
  obtain ⟨xs, e⟩ := hi.allInts.items
  have hn : numsOf (intItems xs).toList = ns := by rw [← e]; exact hi.numsOf
  rw [nums_intItems] at hn
  subst hn
  rw [e] at hl
  refine min_walkD (iter_intList hl fun s₂ e st hfp hlI => ?_)
  subst e
  refine ⟨_, _, _, _, _, _, _, rfl, Walks.list (A := A.in1) hh _ l hlI (intItems xs), st, hfp, CmpOf.ints_lt (numAt xs) (fun _ _ => intItems_at), fun hne v h' tk hP hk => ?_, fun hz h' tk hk => ?_⟩
  · have hsz : 0 < xs.size := by simpa [intItems] using hne
    have hv : (intItems xs)[argBest (fun i j => decide (numAt xs i < numAt xs j)) (xs.size - 1)]? = some v := by simpa [intItems] using hP
    obtain ⟨t, rfl⟩ := intItems_at hv
    obtain ⟨h1, h2⟩ := argBest_lt (numAt xs) (xs.size - 1)
    refine h h' tk _ t (old_kept hk) ?_ fun a ha => ?_
    · rw [numAt_eq]; exact PySem.getD_mem (by rw [List.length_map, Array.length_toList]; omega)
    · obtain ⟨j, hj, rfl⟩ := mem_getD ha
      rw [List.length_map, Array.length_toList] at hj
      rw [← numAt_eq]; exact h2 j (by omega)
  · have hsz : xs.size = 0 := by simpa [intItems] using hz
    exact h0 (by rw [List.map_eq_nil_iff]; exact Array.toList_eq_nil_iff.mpr (Array.eq_empty_of_size_eq_zero hsz)) h' tk (old_kept hk)
variable {X : Cx}
def rMinD (K : PySem.W.Frag) : List V → List V → Hp → VK → Prop := fun vs zs H Q => ∃ (a : Addr) (ns : List Int), vs = [V.ref a] ∧ zs = [.non] ∧ SqL K H a (ns.map V.int) ∧ (ns = [] → Q .non H) ∧ ∀ m, m ∈ ns → (∀ y, y ∈ ns → m ≤ y) → Q (.int m) H
theorem cr_minD (hc : X.calm = true) : CallRK X (.builtin "min") [Str.ofString "default"] (rMinD X.K) := by
  intro pins s σ H vs zs us ws Q I r rz h
  obtain ⟨a, ns, rfl, rfl, hs, q0, q⟩ := h
  obtain ⟨its, rv, hl, _⟩ := I.list hs
  obtain rfl := Vals.ref1 r
  obtain ⟨w1, rfl, e1⟩ := vals1 rz
  obtain rfl : w1 = Value.none := e1
  exact min_rawD (I.ok.hd hc) hl.isList rv.ints (fun e h' tk hk => ⟨.non, H, I.kept hk, rfl, q0 e⟩) fun h' tk m t' hk h1 h2 => ⟨.int _, H, I.kept hk, ⟨_, rfl⟩, q m h1 h2⟩
end
end MnD

set_option Elab.async false
set_option linter.all false
set_option maxRecDepth 100000
set_option maxHeartbeats 2000000
/-! enumerate(tuple) -/
namespace EnT
open PySem PySem.Spec PyProof.Rows
open PySem.Sem (wp)
open PySem.AutoSeq1 (wpAny_loadPart')
theorem enumT_meets (l : Addr) (items : Array Value) (n : Nat) (dct : Option Addr) (sl : Array (Option Value)) :
    Meets (Builtin.«enumerate.__new__» ⟨[.type "enumerate", .ref l], []⟩) (fun _ R s => s.heap.get? l = some { cls := .type "tuple", dict := dct, data := .seq items n, slots := sl } ∧
      R (.ok (.ret (.ref (s.heap.push { cls := .type "tuple_iterator", data := .fields #[.ref l, .int 0 0] }).objs.size)))
        { s with heap := (s.heap.push { cls := .type "tuple_iterator", data := .fields #[.ref l, .int 0 0] }).push { cls := .type "enumerate", data := .fields #[.none, .bool false, .ref s.heap.objs.size, rawInt 0, .none, .none] } }) :=
  .of_wp fun prog w A R s h => by
    obtain ⟨hp, g, d, tk, os⟩ := s; obtain ⟨hl, h⟩ := h
    have hsub := sub_enumerate
    have hL : Heap.IsTuple (Shared.heap ⟨hp, g, d, tk, os⟩) l items := ⟨_, hl, rfl, n, rfl⟩
    wp_walk using wpAny_loadPart' hl
    refine wpAny_stack_any fun st => wpAny_pure ?_
    split
    · rename_i c _ _ _ _ _
      cases (c == Value.type "enumerate")
      · wp_walk using wpAny_loadPart' hl, wpAny_pyIter_tuple hL
        exact ⟨_, rfl, h⟩
      · wp_walk using wpAny_loadPart' hl, wpAny_pyIter_tuple hL
        exact ⟨_, rfl, h⟩
    · wp_walk using wpAny_loadPart' hl, wpAny_pyIter_tuple hL
      exact ⟨_, rfl, h⟩

section
variable {prog : Program} {w : World} {A : Around} {E : Value → Shared → Prop} {s : Shared}
theorem enumT_next {e it l : Addr} {i : Nat} {items : Array Value} {x old : Value} {Q : Value → Shared → Prop}
    (he : IsEnum s.heap e it i old) (hit : s.heap.IsTupleIter it l i) (hl : s.heap.IsTuple l items) (hx : items[i]? = some x) (hne : e ≠ it)
    (hQ : ∀ h', IsEnumOut h' e it ((i : Int) + 1) x s.heap.objs.size → h'.IsTupleIter it l (i + 1) →
      h'.get? s.heap.objs.size = some { cls := .type "tuple", data := .seq #[.int i s.toks, x] } → h'.objs.size = s.heap.objs.size + 1 →
      (∀ b o, b ≠ e → b ≠ it → s.heap.get? b = some o → h'.get? b = some o) → Q (.ref s.heap.objs.size) { s with heap := h', toks := s.toks + 1 }) :
    wpAny (model prog w) A (Builtin.«enumerate.__next__» ⟨[.ref e], []⟩) (fun fin s' => ∃ v, fin = .done (.ret v) ∧ Q v s') E s := by
  obtain ⟨hp, g, d, tk, os⟩ := s
  show wpAny _ _ (field (.ref e) 2 >>= _) _ _ _
  refine wpAny_bind (wpAny_field he rfl (x := .ref it) rfl ?_)
  refine wpAny_bind (RZ.nextOf_tuple_item hit hl hx fun h₁ hit₁ hs₁ => ?_)
  replace hs₁ : Heap.SameBut it hp h₁ := hs₁
  have he₁ : IsEnum h₁ e it i old := (hs₁.2 e hne).trans he
  show wpAny _ _ (field (.ref e) 3 >>= _) _ _ ⟨h₁, g, d, tk, os⟩
  refine wpAny_bind (wpAny_field he₁ rfl (x := rawInt i) rfl ?_)
  show wpAny _ _ (field (.ref e) 4 >>= _) _ _ ⟨h₁, g, d, tk, os⟩
  refine wpAny_bind (wpAny_field he₁ rfl (x := .none) rfl ?_)
  show wpAny _ _ (mkInt i >>= _) _ _ ⟨h₁, g, d, tk, os⟩
  refine wpAny_bind (wpAny_mkInt ?_)
  show wpAny _ _ (setField (.ref e) 3 (rawInt ((i : Int) + 1)) >>= _) _ _ ⟨h₁, g, d, tk + 1, os⟩
  refine wpAny_bind (wpAny_setField_rec he₁ (by simp) fun h₂ he₂ hs₂ => ?_)
  replace hs₂ : Heap.SameBut e h₁ h₂ := hs₂
  replace he₂ : IsEnum h₂ e it ((i : Int) + 1) old := he₂
  show wpAny _ _ (setField (.ref e) 4 .none >>= _) _ _ ⟨h₂, g, d, tk + 1, os⟩
  refine wpAny_bind (wpAny_setField_rec he₂ (by simp) fun h₃ he₃ hs₃ => ?_)
  replace hs₃ : Heap.SameBut e h₂ h₃ := hs₃
  replace he₃ : IsEnum h₃ e it ((i : Int) + 1) old := he₃
  show wpAny _ _ (newTuple [.int i tk, x] >>= _) _ _ ⟨h₃, g, d, tk + 1, os⟩
  refine wpAny_bind (wpAny_newTuple ?_)
  have he₄ : IsEnum (h₃.push { cls := .type "tuple", data := .seq #[.int i tk, x] }) e it ((i : Int) + 1) old := Heap.get?_push_of_some _ he₃
  generalize hh₄ : h₃.push { cls := .type "tuple", data := .seq #[.int i tk, x] } = h₄ at he₄
  have hsz : h₃.objs.size = hp.objs.size := by rw [hs₃.1, hs₂.1, hs₁.1]
  have hel : e < hp.objs.size := Heap.lt_size he
  have ht₄ : h₄.get? hp.objs.size = some { cls := .type "tuple", data := .seq #[.int i tk, x] } := by rw [← hh₄, ← hsz]; exact Heap.get?_push_size _ rfl
  have hz₄ : h₄.objs.size = hp.objs.size + 1 := by rw [← hh₄, Heap.size_push, hsz]
  have hk₄ : ∀ b o, b ≠ e → b ≠ it → hp.get? b = some o → h₄.get? b = some o := fun b o hbe hbi hb => by
    rw [← hh₄]; exact Heap.get?_push_of_some _ (hs₃.extBut b o hbe (hs₂.extBut b o hbe (hs₁.extBut b o hbi hb)))
  have hit₄ : h₄.IsTupleIter it l (i + 1) := by
    rw [← hh₄]; obtain ⟨o, ho, r⟩ := (hit₁.extBut hs₂.extBut (Ne.symm hne)).extBut hs₃.extBut (Ne.symm hne); exact ⟨o, Heap.get?_push_of_some _ ho, r⟩
  show wpAny _ _ (Builtin.SmallTypes.ownedTupleIsFree (.ref e) >>= _) _ _ ⟨h₄, g, d, tk + 1, os⟩
  rw [hsz]
  clear hh₄ he₃ hs₃ he₂ hs₂ he₁ hs₁ hit₁ hsz h₃ h₂ h₁
  refine wpAny_bind ?_
  · unfold Builtin.SmallTypes.ownedTupleIsFree
    refine wpAny_bind (wpAny_field he₄ rfl (x := .none) rfl (wpAny_pure ?_))
    simp only [if_true]
    refine wpAny_bind (wpAny_rule ?_)
    refine wpAny_bind (wpAny_field he₄ rfl (x := old) rfl ?_)
    refine wpAny_bind (wpAny_setField_rec he₄ (by simp) fun h₅ he₅ hs₅ => ?_)
    replace hs₅ : Heap.SameBut e h₄ h₅ := hs₅
    replace he₅ : IsEnum h₅ e it ((i : Int) + 1) x := he₅
    show wpAny _ _ (Builtin.SmallTypes.ownedTupleHandOut (.ref e) (.ref hp.objs.size) >>= _) _ _ ⟨h₅, g, d, tk + 1, os⟩
    refine wpAny_bind ?_
    · unfold Builtin.SmallTypes.ownedTupleHandOut
      refine wpAny_bind (wpAny_setField_rec he₅ (by simp) fun h₆ he₆ hs₆ => ?_)
      replace hs₆ : Heap.SameBut e h₅ h₆ := hs₆
      replace he₆ : IsEnumOut h₆ e it ((i : Int) + 1) x hp.objs.size := he₆
      refine wpAny_setField_rec he₆ (by simp) fun h₇ he₇ hs₇ => ?_
      replace hs₇ : Heap.SameBut e h₆ h₇ := hs₇
      replace he₇ : IsEnumOut h₇ e it ((i : Int) + 1) x hp.objs.size := he₇
      refine wpAny_bind (wpAny_letGo (wpAny_pure ⟨_, rfl, hQ h₇ he₇ ?_ ?_ ?_ ?_⟩))
      · exact ((hit₄.extBut hs₅.extBut (Ne.symm hne)).extBut hs₆.extBut (Ne.symm hne)).extBut hs₇.extBut (Ne.symm hne)
      · exact hs₇.extBut _ _ (Nat.ne_of_gt hel) (hs₆.extBut _ _ (Nat.ne_of_gt hel) (hs₅.extBut _ _ (Nat.ne_of_gt hel) ht₄))
      · rw [hs₇.1, hs₆.1, hs₅.1, hz₄]
      · exact fun b o hbe hbi hb => hs₇.extBut b o hbe (hs₆.extBut b o hbe (hs₅.extBut b o hbe (hk₄ b o hbe hbi hb)))

theorem enumT_item {e it l : Addr} {i : Nat} {items : Array Value} {x old : Value} {Q : Option Value → Shared → Prop}
    (he : IsEnum s.heap e it i old) (hit : s.heap.IsTupleIter it l i) (hl : s.heap.IsTuple l items) (hx : items[i]? = some x) (hne : e ≠ it)
    (hQ : ∀ h', IsEnumOut h' e it ((i : Int) + 1) x s.heap.objs.size → h'.IsTupleIter it l (i + 1) →
      h'.get? s.heap.objs.size = some { cls := .type "tuple", data := .seq #[.int i s.toks, x] } → h'.objs.size = s.heap.objs.size + 1 →
      (∀ b o, b ≠ e → b ≠ it → s.heap.get? b = some o → h'.get? b = some o) → Q (some (.ref s.heap.objs.size)) { s with heap := h', toks := s.toks + 1 }) :
    wpAny (model prog w) A (pyNext (.ref e)) Q E s := by
  have hT : s.TypeIs (.ref e) "enumerate" := ⟨_, he, rfl⟩
  unfold pyNext
  exact wpAny_bind (wpAny_attempt (wpAny_callSpecial?_slot (name := Str.ofString "__next__") hT F.slot_enumerate_next
    (wpAny_call_entry F.slot_enumerate_next hT F.entry_enumerate_next
      (enumT_next he hit hl hx hne fun h' a b c d k => wpAny_pure (hQ h' a b c d k)) (F.args_enumerate_next_1 _))))

theorem enumT_end {e it l : Addr} {i : Nat} {items : Array Value} {old : Value} {Q : Option Value → Shared → Prop} (hh : A.handled = none)
    (he : IsEnum s.heap e it i old) (hit : s.heap.IsTupleIter it l i) (hl : s.heap.IsTuple l items) (hx : items[i]? = none)
    (hQ : ∀ h', Heap.ExtBut it s.heap h' → Q none { s with heap := h' }) : wpAny (model prog w) A (pyNext (.ref e)) Q E s := by
  have hT : s.TypeIs (.ref e) "enumerate" := ⟨_, he, rfl⟩
  unfold pyNext
  refine wpAny_bind (wpAny_attempt (wpAny_callSpecial?_slot (name := Str.ofString "__next__") hT F.slot_enumerate_next
    (wpAny_call_entry F.slot_enumerate_next hT F.entry_enumerate_next ?_ (F.args_enumerate_next_1 _))))
  show wpAny _ _ (field (.ref e) 2 >>= _) _ _ _
  refine wpAny_bind (wpAny_field he rfl (x := .ref it) rfl ?_)
  refine wpAny_bind (RZ.nextOf_tuple_end hh hit hl hx fun h' x he' hx' => ?_)
  obtain ⟨o, ho, hc⟩ := hx'
  refine wpAny_bind (wpAny_isInstance (T := "StopIteration") (b := true) ⟨o, ho, hc⟩ isSubtype_stop ?_)
  exact wpAny_pure (hQ _ he')
theorem enumT_call {l : Addr} {items : Array Value} {Q : Value → Shared → Prop} (hL : s.heap.IsTuple l items)
    (h : ∀ h', IsEnum h' (s.heap.objs.size + 1) s.heap.objs.size 0 .none → h'.IsTupleIter s.heap.objs.size l 0 → h'.objs.size = s.heap.objs.size + 2 →
      (∀ b o, s.heap.get? b = some o → h'.get? b = some o) → Q (.ref (s.heap.objs.size + 1)) { s with heap := h' }) :
    wpAny (model prog w) A (call (.type "enumerate") [.ref l]) Q E s := by
  obtain ⟨⟨c, dct, dt, sl⟩, hl, hc, n, hd⟩ := hL
  replace hc : c = .type "tuple" := hc
  replace hd : dt = .seq items n := hd
  subst hc hd
  refine callType_new F.called_enumerate (by decide) (F.typeCall_enumerate_1 _) (F.newCall_enumerate_1 _) (fun obj => F.args_object_init_2 obj _) F.entry_enumerate_new
    (enumT_meets l items n dct sl) ⟨hl, ?_⟩
  have hz : (s.heap.push { cls := .type "tuple_iterator", data := .fields #[.ref l, .int 0 0] }).objs.size = s.heap.objs.size + 1 := Heap.size_push ..
  show _ ∧ _
  rw [hz]
  have he : IsEnum ((s.heap.push { cls := .type "tuple_iterator", data := .fields #[.ref l, .int 0 0] }).push
      { cls := .type "enumerate", data := .fields #[.none, .bool false, .ref s.heap.objs.size, rawInt 0, .none, .none] }) (s.heap.objs.size + 1) s.heap.objs.size 0 .none := by
    have := Heap.get?_push_size (s.heap.push { cls := .type "tuple_iterator", data := .fields #[.ref l, .int 0 0] })
      (o := { cls := .type "enumerate", data := .fields #[.none, .bool false, .ref s.heap.objs.size, rawInt 0, .none, .none] }) rfl
    rw [hz] at this; exact this
  refine ⟨⟨_, he, rfl⟩, h _ he ⟨_, Heap.get?_push_of_some _ (Heap.get?_push_size _ rfl), rfl, rfl⟩ (by rw [Heap.size_push, hz]) fun b o x => Heap.get?_push_of_some _ (Heap.get?_push_of_some _ x)⟩

end
section
open L2
def IteT (K : PySem.W.Frag) (a : Addr) : It :=
  ⟨fun i H => ∃ (xs : List V) (x : V), SqT K H a xs ∧ xs[i]? = some x, fun i H v H' => ∃ T x, v = .ref T ∧ H T = none ∧ H' = upd H T (.tup [.int (i : Nat), x]) ∧ ∀ xs, SqT K H a xs → xs[i]? = some x, fun i H => ∃ xs : List V, SqT K H a xs ∧ xs.length ≤ i⟩
theorem turn_enumT {P : Program} {w : World} {K : PySem.W.Frag} {elts : List Expr} {kk : Nat} {tpos : Pos} (a e it : Addr) :
    Turn P w K (.Tuple elts kk tpos) (IteT K a) [e, it] e (fun i h => (∃ old, IsEnum h e it ((i : Nat) : Int) old) ∧ h.IsTupleIter it a i ∧ e ≠ it) where
  mem := by simp
  obj := fun i h st b hb => by
    obtain ⟨⟨old, he⟩, ⟨o, ho, hc, hd⟩, _⟩ := st
    have e' : b = e ∨ b = it := by simpa using hb
    rcases e' with z | z
    · rw [z]; exact ⟨_, he, fun v q => nomatch q⟩
    · rw [z]; exact ⟨o, ho, fun v q => by rw [hd] at q; cases q⟩
  keep := fun i h h' st k => let ⟨⟨old, he⟩, hi, hne⟩ := st; ⟨⟨old, k e (by simp) _ he⟩, hi.at fun o q => k it (by simp) o q, hne⟩
  item := by
    intro X hP hw hK hc i pins s σ H E I hf st hg
    subst hP hw hK
    obtain ⟨⟨old, he⟩, hit, hne⟩ := st
    obtain ⟨xs, x, hq, hx⟩ := hg
    obtain ⟨its, rv, p, hz⟩ := I.tuple hq
    obtain ⟨u, hu, ru⟩ := rv.get hx
    have hel : e < s.heap.objs.size := Heap.lt_size he
    have hil : it < s.heap.objs.size := by obtain ⟨_, q, _⟩ := hit; exact Heap.lt_size q
    refine enumT_item he hit (show s.heap.IsTuple a its.toArray from p) (x := u) (by simpa using hu) hne fun h' ho hit' hT hsz hk => ?_
    refine ⟨_, rfl, wpAny_letOwnedTupleGo_enum (s := { s with heap := h', toks := s.toks + 1 }) ho fun h'' he' sb => ?_⟩
    have hT2 : h''.get? s.heap.objs.size = some { cls := .type "tuple", data := .seq #[.int i s.toks, u] } := (sb.2 _ (Nat.ne_of_gt hel)).trans hT
    have new : ObjOk X.prog X.w (upd H s.heap.objs.size (.tup [.int (i : Nat), x])) h'' s.heap.objs.size (.tup [.int (i : Nat), x]) :=
      ⟨by show 2 ≤ sizeLine; decide, [.int i s.toks, u], .cons ⟨_, rfl⟩ (.cons ru .nil), ⟨_, hT2, rfl, _, rfl⟩⟩
    have I1 : Inv X pins σ (upd H s.heap.objs.size (.tup [.int (i : Nat), x])) { s with heap := h'', toks := s.toks + 1 } :=
      I.turnedNew (ch := [e, it]) (fun b ob hb q => (sb.2 b (fun z => hb (by simp [z]))).trans (hk b ob (fun z => hb (by simp [z])) (fun z => hb (by simp [z])) q)) hf (Nat.le_refl _) new
    refine ⟨.ref s.heap.objs.size, _, I1, rfl, ⟨_, x, rfl, I.hok.fresh (Nat.le_refl _), rfl, fun ys hy => by rw [I.tuple_inj hy hq]; exact hx⟩, ⟨⟨u, ?_⟩, hit'.at fun o q => (sb.2 it (Ne.symm hne)).trans q, hne⟩, fun b hb => ?_⟩
    · have e1 : ((i + 1 : Nat) : Int) = (i : Int) + 1 := by omega
      rw [e1]; exact he'
    · have hb' : b < s.heap.objs.size := by
        have e' : b = e ∨ b = it := by simpa using hb
        rcases e' with z | z
        · rw [z]; exact hel
        · rw [z]; exact hil
      rw [upd_ne (Nat.ne_of_lt hb')]
      exact (hf b hb).1
  done := by
    intro X hP hw hK hc i pins s σ H E I hf st hg
    subst hP hw hK
    obtain ⟨⟨old, he⟩, hit, hne⟩ := st
    obtain ⟨xs, hq, hx⟩ := hg
    obtain ⟨its, rv, p, hz⟩ := I.tuple hq
    obtain ⟨f0, f1, f2, f3, f4, f5⟩ := hf it (by simp)
    have hl := rv.length
    exact enumT_end (I.ok.hd hc) he hit (show s.heap.IsTuple a its.toArray from p) (by simp; omega) fun h' eb => ⟨rfl, I.turned (t' := s.toks) (fun b o hb q => eb b o hb q) f0 f1 f3 f4 f5⟩
  self := fun A i s Q E st h => let ⟨⟨_, he⟩, _⟩ := st; wpAny_pyIter_enum he h
def iEnumT (K : PySem.W.Frag) (ta : TA) : TI := fun σ H R => ta σ H fun vs H1 => ∃ a xs, vs = [.ref a] ∧ SqT K H1 a xs ∧ R (IteT K a) H1
theorem pi_enumT {X : Cx} {e : Expr} {ta : TA} {p pos tpos : Pos} {elts : List Expr} {kk : Nat} (hg : Gl X "enumerate") (hm : X.mg "enumerate" = none) (ha : PA X [e] ta) (hs : starEach [e] X.env = [(false, eval e X.env)] := by rfl) :
    PI X (.Tuple elts kk tpos) (.Call (.Name "enumerate" p) [e] [] pos) (iEnumT X.K ta) := by
  refine ⟨fun pins s σ H R I h => ?_⟩
  refine Call_ (ld_blt I hg hm boot_enumerate (PyProof.Rows.callWith_type1 (thn (ha.run pos pins s σ H _ I h) fun us s1 ⟨vs, H1, I1, r1, q1⟩ => ?_) hs rfl))
  obtain ⟨a, xs, ex, hq, q⟩ := q1
  subst ex
  cases r1 with
  | cons r rr =>
    cases rr
    cases r
    obtain ⟨its, rv, p', hz⟩ := I1.tuple hq
    refine enumT_call (show s1.heap.IsTuple a its.toArray from p') fun h' he hit hsz hk => wpAny_pyIter_enum he ?_
    have I2 : Inv X pins σ H1 { s1 with heap := h' } := I1.kept (t' := s1.toks) hk
    refine ⟨s1.heap.objs.size + 1, [s1.heap.objs.size + 1, s1.heap.objs.size], _, _, H1, rfl, I2, turn_enumT a (s1.heap.objs.size + 1) s1.heap.objs.size, ⟨⟨.none, he⟩, hit, Nat.succ_ne_self _⟩, fun b hb => ?_, q⟩
    have e' : b = s1.heap.objs.size + 1 ∨ b = s1.heap.objs.size := by simpa using hb
    have hle : s1.heap.objs.size ≤ b := by
      rcases e' with z | z
      · rw [z]; exact Nat.le_add_right _ _
      · rw [z]; exact Nat.le_refl _
    exact I1.fpOk hle (I1.hok.fresh hle)

theorem for_enumT {K : PySem.W.Frag} {a : Addr} {xs : List V} {g : TG} {tb : TS} {D : Ends} {σ : L2.St} {H : Hp} (Pv : Nat → L2.St → Hp → Prop) (h0 : Pv 0 σ H) (hl : ∀ i σ H, i ≤ xs.length → Pv i σ H → SqT K H a xs)
    (hs : ∀ i x p σ H, xs[i]? = some x → H p = none → Pv i σ H → g (.ref p) σ (upd H p (.tup [.int (i : Nat), x])) fun σ2 H2 => tb { D with nx := Pv (i + 1), ct := Pv (i + 1), bk := D.nx } σ2 H2) (hd : ∀ σ H, Pv xs.length σ H → D.nx σ H) :
    ∃ W : Nat → Nat → L2.St → Hp → Prop, (∃ m, W 0 m σ H) ∧ ∀ i m σ H, W i m σ H →
      ((IteT K a).stop i H ∧ D.nx σ H) ∨ ((IteT K a).go i H ∧ ∃ N : L2.St → Hp → Prop, (∀ σ' H', N σ' H' → ∃ m', m' < m ∧ W (i + 1) m' σ' H') ∧ ∀ x H', (IteT K a).yld i H x H' → g x σ H' fun σ2 H2 => tb { D with nx := N, ct := N, bk := D.nx } σ2 H2) := by
  refine ⟨fun i m σ H => m = xs.length - i ∧ i ≤ xs.length ∧ Pv i σ H, ⟨xs.length, by simp, Nat.zero_le _, h0⟩, ?_⟩
  rintro i m σ H ⟨rfl, hi, p⟩
  have q := hl i σ H hi p
  by_cases hlt : i < xs.length
  · refine .inr ⟨⟨xs, xs[i], q, by simp [hlt]⟩, Pv (i + 1), fun σ' H' p' => ⟨xs.length - (i + 1), by omega, rfl, hlt, p'⟩, fun x H' y => ?_⟩
    obtain ⟨T, z, e1, hT, e2, y⟩ := y
    rw [e1, e2]
    exact hs i z T σ H (y xs q) hT p
  · have e : i = xs.length := by omega
    subst e
    exact .inl ⟨⟨xs, q, Nat.le_refl _⟩, hd σ H p⟩
/-- the for over it, opened -/
theorem forE {K : PySem.W.Frag} {ta : TA} {g : TG} {tb : TS} {D : Ends} {σ : L2.St} {H : Hp} (h : ta σ H fun vs H1 => ∃ a xs, vs = [.ref a] ∧ SqT K H1 a xs ∧ ∃ W : Nat → Nat → L2.St → Hp → Prop, (∃ m, W 0 m σ H1) ∧ ∀ i m σ H, W i m σ H →
      ((IteT K a).stop i H ∧ D.nx σ H) ∨ ((IteT K a).go i H ∧ ∃ N : L2.St → Hp → Prop, (∀ σ' H', N σ' H' → ∃ m', m' < m ∧ W (i + 1) m' σ' H') ∧ ∀ x H', (IteT K a).yld i H x H' → g x σ H' fun σ2 H2 => tb { D with nx := N, ct := N, bk := D.nx } σ2 H2)) : tFor (iEnumT K ta) g tb D σ H := h
end
end EnT

set_option Elab.async false
set_option linter.all false
set_option maxRecDepth 100000
set_option maxHeartbeats 4000000
/-! distances, the fewest notes: plain mathematics, and the promises of its defs -/
namespace Sp33
open PySem L2 Dat TOr
/-- s is reached by d causes, and by no fewer -/
def Dist (T : Tab) (cs : List Str) (s : Str) (d : Nat) : Prop := (∃ w : List Str, (∀ c ∈ w, c ∈ cs) ∧ Bfs.run T.step T.start w = s ∧ w.length = d) ∧ ∀ w : List Str, (∀ c ∈ w, c ∈ cs) → Bfs.run T.step T.start w = s → d ≤ w.length
theorem Dist.uniq {T : Tab} {cs : List Str} {s : Str} {d e : Nat} (h : Dist T cs s d) (k : Dist T cs s e) : d = e := by
  obtain ⟨⟨w, a, b, c⟩, m⟩ := h
  obtain ⟨⟨w', a', b', c'⟩, m'⟩ := k
  have h1 := m w' a' b'
  have h2 := m' w a b
  omega
theorem Dist.congr {T : Tab} {cs ps : List Str} (h : ∀ c, c ∈ cs ↔ c ∈ ps) {s : Str} {d : Nat} (k : Dist T cs s d) : Dist T ps s d := by
  obtain ⟨⟨w, a, b, c⟩, m⟩ := k
  exact ⟨⟨w, fun x hx => (h x).mp (a x hx), b, c⟩, fun u hu e => m u (fun x hx => (h x).mpr (hu x hx)) e⟩
theorem Dist.start (T : Tab) (cs : List Str) : Dist T cs T.start 0 := ⟨⟨[], (fun _ h => nomatch h), rfl, rfl⟩, fun _ _ _ => Nat.zero_le _⟩
theorem Dist.zero {T : Tab} {cs : List Str} {s : Str} (h : Dist T cs s 0) : s = T.start := by
  obtain ⟨⟨w, a, b, c⟩, m⟩ := h
  have : w = [] := List.eq_nil_of_length_eq_zero c
  rw [this] at b
  exact b.symm
theorem Dist.mem {T : Tab} {cs : List Str} (ok : TabOk T cs) {s : Str} {d : Nat} (h : Dist T cs s d) : s ∈ T.homes.map (·.1) := by
  obtain ⟨⟨w, a, b, c⟩, m⟩ := h
  rw [← b]
  exact run_mem ok w _ ok.start a
/-- one step farther -/
theorem Dist.last {T : Tab} {cs : List Str} {t : Str} {k : Nat} (h : Dist T cs t (k + 1)) : ∃ s c, Dist T cs s k ∧ c ∈ cs ∧ T.step s c = t := by
  obtain ⟨⟨w, a, b, e⟩, m⟩ := h
  obtain ⟨v, c, rfl⟩ : ∃ v c, w = v ++ [c] := ⟨w.dropLast, w.getLast (by intro q; rw [q] at e; simp at e), (List.dropLast_concat_getLast _).symm⟩
  rw [Bfs.run_snoc] at b
  have ev : v.length = k := by simpa using e
  refine ⟨Bfs.run T.step T.start v, c, ⟨⟨v, fun x hx => a x (List.mem_append_left _ hx), rfl, ev⟩, fun u hu e2 => ?_⟩, a c (by simp), b⟩
  have := m (u ++ [c]) (fun x hx => (List.mem_append.mp hx).elim (hu x) fun z => by
    have : x = c := by simpa using z
    rw [this]
    exact a c (by simp)) (by rw [Bfs.run_snoc, e2]; exact b)
  rw [List.length_append, List.length_singleton] at this
  omega
theorem least {p : Nat → Prop} : ∀ b, p b → ∃ n, n ≤ b ∧ p n ∧ ∀ m, p m → n ≤ m := by
  intro b
  induction b using Nat.strongRecOn with
  | _ b ih =>
    intro hb
    by_cases h : ∃ m, m < b ∧ p m
    · obtain ⟨m, hm, pm⟩ := h
      obtain ⟨n, h1, h2, h3⟩ := ih m hm pm
      exact ⟨n, by omega, h2, h3⟩
    · exact ⟨b, Nat.le_refl _, hb, fun m pm => by
        rcases Nat.lt_or_ge m b with q | q
        · exact absurd ⟨m, q, pm⟩ h
        · exact q⟩
theorem dist_of {T : Tab} {cs : List Str} (w : List Str) (hw : ∀ x ∈ w, x ∈ cs) : ∃ d, d ≤ w.length ∧ Dist T cs (Bfs.run T.step T.start w) d := by
  obtain ⟨n, h1, ⟨u, h2, h3, h4⟩, h5⟩ := least (p := fun n => ∃ u : List Str, u.length = n ∧ (∀ x ∈ u, x ∈ cs) ∧ Bfs.run T.step T.start u = Bfs.run T.step T.start w) w.length ⟨w, rfl, hw, rfl⟩
  exact ⟨n, h1, ⟨u, h3, h4, h2⟩, fun v hv ev => h5 v.length ⟨v, rfl, hv, ev⟩⟩
theorem Dist.next {T : Tab} {cs : List Str} {s c : Str} {k : Nat} (h : Dist T cs s k) (hc : c ∈ cs) : ∃ d, d ≤ k + 1 ∧ Dist T cs (T.step s c) d := by
  obtain ⟨⟨w, a, b, e⟩, m⟩ := h
  obtain ⟨d, h1, h2⟩ := dist_of (T := T) (w ++ [c]) (cs := cs) fun x hx => (List.mem_append.mp hx).elim (a x) fun z => by
    have : x = c := by simpa using z
    rw [this]; exact hc
  rw [Bfs.run_snoc, b] at h2
  rw [List.length_append, List.length_singleton, e] at h1
  exact ⟨d, h1, h2⟩
/-- what the search tells -/
theorem found_facts {T : Tab} {ps tcs : List Str} (ok : TabOk T ps) (hcs : CausesOf ps tcs) : Bfs.Found T.step tcs ltS (T.homes.map (·.1)) T.start (found T tcs) := by
  have hh := ok.homes.2.1
  exact Bfs.found ordS ok.start (fun s hs c hc => ok.tgt hs ((hcs.mem c).mp hc)) hcs.srt 9 (by rw [List.length_map]; omega)
theorem Found.dist {T : Tab} {tcs : List Str} {S : List Str} {F : List (Str × List Str)} (f : Bfs.Found T.step tcs ltS S T.start F) {s : Str} {w : List Str} (h : (s, w) ∈ F) : Dist T tcs s w.length := by
  obtain ⟨h1, h2⟩ := f.way _ h
  refine ⟨⟨w, h2, h1, rfl⟩, fun u hu e => ?_⟩
  obtain ⟨w', k1, k2⟩ := f.any ordS u hu
  rw [e] at k1
  have e2 : w' = w := by
    have a := getA_of_mem f.nodup k1
    have b := getA_of_mem f.nodup h
    rw [a] at b
    exact Option.some.inj b
  rw [e2] at k2
  rcases Bfs.kle_cases k2 with q | q
  · exact Bfs.klt_len q
  · rw [q]; exact Nat.le_refl _
theorem Found.has {T : Tab} {tcs : List Str} {S : List Str} {F : List (Str × List Str)} (f : Bfs.Found T.step tcs ltS S T.start F) {s : Str} {d : Nat} (h : Dist T tcs s d) : ∃ w : List Str, (s, w) ∈ F ∧ w.length = d := by
  obtain ⟨⟨w, a, b, e⟩, m⟩ := id h
  obtain ⟨w', k1, k2⟩ := f.any ordS w a
  rw [b] at k1
  exact ⟨w', k1, (Found.dist f k1).uniq h⟩
theorem Found.le8 {T : Tab} {ps tcs : List Str} (ok : TabOk T ps) {F : List (Str × List Str)} (f : Bfs.Found T.step tcs ltS (T.homes.map (·.1)) T.start F) : F.length ≤ 8 := by
  have := f.nodup.length_le_of_subset (fun x hx => by
    obtain ⟨g, hg, rfl⟩ := List.mem_map.mp hx
    exact f.sub g hg)
  have hh := ok.homes.2.1
  rw [List.length_map, List.length_map] at this
  omega
/-! ### the numbers -/
def Clash (T : Tab) (cs : List Str) (s : Str) : Prop := ∃ a, a ∈ cs ∧ ∃ b, b ∈ cs ∧ T.step (T.step s a) b ≠ T.step (T.step s b) a
def Tab.home (T : Tab) (s : Str) : Str := (getA T.homes s).getD Str.empty
def Leaves (T : Tab) (cs : List Str) (s : Str) : Prop := ∃ c, c ∈ cs ∧ ∃ t, getA T.steps (s, c) = some (t, false) ∧ T.home t ≠ T.home s
def Rate0 (T : Tab) (s : Str) : Prop := getA T.rates (T.home s) = some 0
def mx (i j : Int) : Int := if j > i then j else i
def Num (T : Tab) (cs : List Str) (over : Str) (n : Int) : Prop := ∃ s d, Dist T cs s d ∧ ((Clash T cs s ∧ n = (d : Int) + 2) ∨ (over = "stretch" ∧ Leaves T cs s ∧ n = mx 1 d + 1) ∨ (over = "runs" ∧ Rate0 T s ∧ n = mx 2 d))
def IsMin (N : Int → Prop) (v : V) : Prop := (v = .non ∧ ∀ n, ¬ N n) ∨ ∃ n, v = .int n ∧ N n ∧ ∀ m, N m → n ≤ m
theorem IsMin.uniq {N : Int → Prop} {v u : V} (h : IsMin N v) (k : IsMin N u) : v = u := by
  rcases h with ⟨rfl, a⟩ | ⟨n, rfl, a, b⟩
  · rcases k with ⟨rfl, _⟩ | ⟨m, _, c, _⟩
    · rfl
    · exact absurd c (a m)
  · rcases k with ⟨_, c⟩ | ⟨m, rfl, c, e⟩
    · exact absurd a (c n)
    · have h1 := b m c
      have h2 := e n a
      rw [show n = m by omega]
theorem Clash.congr {T : Tab} {cs ps : List Str} (h : ∀ c, c ∈ cs ↔ c ∈ ps) {s : Str} (k : Clash T cs s) : Clash T ps s := by
  obtain ⟨a, ha, b, hb, e⟩ := k
  exact ⟨a, (h a).mp ha, b, (h b).mp hb, e⟩
theorem Leaves.congr {T : Tab} {cs ps : List Str} (h : ∀ c, c ∈ cs ↔ c ∈ ps) {s : Str} (k : Leaves T cs s) : Leaves T ps s := by
  obtain ⟨c, hc, e⟩ := k
  exact ⟨c, (h c).mp hc, e⟩
theorem Num.congr {T : Tab} {cs ps : List Str} (h : ∀ c, c ∈ cs ↔ c ∈ ps) {over : Str} {n : Int} (k : Num T cs over n) : Num T ps over n := by
  obtain ⟨s, d, hd, r⟩ := k
  exact ⟨s, d, hd.congr h, r.imp (fun ⟨a, b⟩ => ⟨a.congr h, b⟩) fun r => r.imp (fun ⟨a, b, c⟩ => ⟨a, b.congr h, c⟩) id⟩
theorem IsMin.congr {N M : Int → Prop} (h : ∀ n, N n ↔ M n) {v : V} (k : IsMin N v) : IsMin M v := by
  rcases k with ⟨e, a⟩ | ⟨n, e, a, b⟩
  · exact .inl ⟨e, fun n z => a n ((h n).mpr z)⟩
  · exact .inr ⟨n, e, (h n).mp a, fun m z => b m ((h m).mpr z)⟩
theorem runs_ne : ("runs" : Str) ≠ "stretch" := by decide +kernel
abbrev Over (o : Str) : Prop := o = "stretch" ∨ o = "runs"
theorem TabOk.home {T : Tab} {cs : List Str} (o : TabOk T cs) {s : Str} (hs : s ∈ T.homes.map (·.1)) : getA T.homes s = some (T.home s) := by
  obtain ⟨h, e⟩ := Option.isSome_iff_exists.mp (getA_isSome.mpr hs)
  unfold Tab.home
  rw [e]
  rfl
theorem TabOk.rate {T : Tab} {cs : List Str} (o : TabOk T cs) {s : Str} (hs : s ∈ T.homes.map (·.1)) : ∃ r, getA T.rates (T.home s) = some r := by
  have h := getA_mem (o.home hs)
  exact Option.isSome_iff_exists.mp (getA_isSome.mpr (o.homes.2.2 _ h).2.2)
/-! ### the promises -/
abbrev TabIn (K : PySem.W.Frag) (C : Addr) (H : Hp) (a : Addr) (T : Tab) (tcs ps : List Str) : Prop := TabAt C H a T tcs ∧ TabOk T ps ∧ CausesOf ps tcs
def sp__after_both (K : PySem.W.Frag) (C : Addr) : Sp := fun vs H Q _ => ∃ (a : Addr) (s : Str) (x : Str) (y : Str) (T : Tab) (tcs : List Str) (ps : List Str), vs = [.ref a, .str s, .str x, .str y] ∧ TabIn K C H a T tcs ps ∧ s ∈ T.homes.map (·.1) ∧ x ∈ tcs ∧ y ∈ tcs ∧ Ret Q H (.str (T.step (T.step s x) y))
def sp__looked_at (K : PySem.W.Frag) (C : Addr) : Sp := fun vs H Q _ => ∃ (a : Addr) (T : Tab) (tcs : List Str) (ps : List Str), vs = [.ref a, .non] ∧ TabIn K C H a T tcs ps ∧ ∀ (H' : Hp) (p : Addr), Same H H' → H p = none → H' p = some (.lst (((found T tcs).map (·.1)).map V.str)) → Q (.ref p) H'
abbrev Tri (H : Hp) (q : Addr) (r : Str × Str × Str) : Prop := H q = some (.tup [.str r.1, .str r.2.1, .str r.2.2])
abbrev Two (H : Hp) (q : Addr) (r : Str × Str) : Prop := H q = some (.tup [.str r.1, .str r.2])
def sp_commute_failures (K : PySem.W.Frag) (C : Addr) : Sp := fun vs H Q _ => ∃ (a : Addr) (T : Tab) (tcs : List Str) (ps : List Str), vs = [.ref a, .non] ∧ TabIn K C H a T tcs ps ∧
  ∀ (H' : Hp) (p : Addr) (qs : List Addr) (ss : List (Str × Str × Str)), Same H H' → H' p = some (.lst (qs.map V.ref)) → Paired (Tri H') qs ss → (∀ s, s ∈ ss.map (·.1) ↔ s ∈ (found T tcs).map (·.1) ∧ Clash T tcs s) → ss.length ≤ 300 → Q (.ref p) H'
def sp_carry_failures (K : PySem.W.Frag) (C : Addr) : Sp := fun vs H Q _ => ∃ (a : Addr) (T : Tab) (tcs : List Str) (ps : List Str), vs = [.ref a, .non] ∧ TabIn K C H a T tcs ps ∧
  ∀ (H' : Hp) (p : Addr) (qs : List Addr) (ss : List (Str × Str)), Same H H' → H' p = some (.lst (qs.map V.ref)) → Paired (Two H') qs ss → (∀ s, s ∈ ss.map (·.1) ↔ s ∈ (found T tcs).map (·.1) ∧ Leaves T tcs s) → ss.length ≤ 300 → Q (.ref p) H'
def sp_rate_failures (K : PySem.W.Frag) (C : Addr) : Sp := fun vs H Q _ => ∃ (a : Addr) (T : Tab) (tcs : List Str) (ps : List Str), vs = [.ref a, .non] ∧ TabIn K C H a T tcs ps ∧
  ∀ (H' : Hp) (p : Addr) (ss : List Str), Same H H' → H' p = some (.lst (ss.map V.str)) → (∀ s, s ∈ ss ↔ s ∈ (found T tcs).map (·.1) ∧ Rate0 T s) → ss.length ≤ 300 → Q (.ref p) H'
def sp_fewest_notes (K : PySem.W.Frag) (C : Addr) : Sp := fun vs H Q _ => ∃ (a : Addr) (over : Str) (T : Tab) (tcs : List Str) (ps : List Str), vs = [.ref a, .str over] ∧ TabIn K C H a T tcs ps ∧ Over over ∧ ∀ (H' : Hp) (v : V), Same H H' → IsMin (Num T ps over) v → Q v H'
def sp__law_levels (K : PySem.W.Frag) : Sp := fun vs H Q _ => ∃ (a : Addr) (T : Tab) (cs : List Str) (tcs : List Str), vs = [.ref a] ∧ PlanAt H a T cs ∧ TabOk T cs ∧ CausesOf cs tcs ∧ ∀ (H' : Hp) (p : Addr) (lv : List (Str × Int)), Same H H' → H p = none → H' p = some (.dK (kvM V.int lv)) → (lv.map (·.1)).Nodup → (∀ s d, (s, d) ∈ lv ↔ ∃ n : Nat, d = n ∧ Dist T cs s n) → lv.length ≤ 8 → Q (.ref p) H'
def sp__law_clashes (K : PySem.W.Frag) : Sp := fun vs H Q _ => ∃ (a : Addr) (s : Str) (T : Tab) (cs : List Str), vs = [.ref a, .str s] ∧ PlanAt H a T cs ∧ TabOk T cs ∧ s ∈ T.homes.map (·.1) ∧ ∀ (H' : Hp) (b : Bool), Same H H' → (b = true ↔ Clash T cs s) → Q (.bl b) H'
def sp__law_leaves (K : PySem.W.Frag) : Sp := fun vs H Q _ => ∃ (a : Addr) (s : Str) (T : Tab) (cs : List Str), vs = [.ref a, .str s] ∧ PlanAt H a T cs ∧ TabOk T cs ∧ s ∈ T.homes.map (·.1) ∧ ∀ (H' : Hp) (b : Bool), Same H H' → (b = true ↔ Leaves T cs s) → Q (.bl b) H'
def sp__law_due (K : PySem.W.Frag) : Sp := fun vs H Q _ => ∃ (a : Addr) (over : Str) (T : Tab) (cs : List Str) (tcs : List Str), vs = [.ref a, .str over] ∧ PlanAt H a T cs ∧ TabOk T cs ∧ CausesOf cs tcs ∧ Over over ∧ ∀ (H' : Hp) (v : V), Same H H' → IsMin (Num T cs over) v → Q v H'
def sp__law_told (K : PySem.W.Frag) (C : Addr) : Sp := fun vs H Q _ => ∃ (a : Addr) (over : Str) (v : V) (T : Tab) (tcs : List Str) (ps : List Str), vs = [.ref a, .str over, v] ∧ TabIn K C H a T tcs ps ∧ Over over ∧ IsMin (Num T ps over) v ∧ Ret Q H (.bl true)
def sp__law_changed (K : PySem.W.Frag) : Sp := fun vs H Q _ => ∃ (a : Addr) (ns : List Int) (pl : Addr) (T : Tab) (cs : List Str), vs = [.ref a, .ref pl] ∧ SqL K H a (ns.map V.int) ∧ ns.length ≤ 63 ∧ PlanAt H pl T cs ∧ TabOk T cs ∧ ∀ (H' : Hp) (p : Addr) (T' : Tab) (cs' : List Str), Same H H' → PlanAt H' p T' cs' → TabOk T' cs' → Q (.ref p) H'
end Sp33
namespace Rd
open PySem L2
theorem ixTupK {K : PySem.W.Frag} {X : Cx} (h : X.K = K) : IxR X (rIxT K) := by rw [← h]; exact ix_tup
end Rd
namespace Sp33
open PySem L2 Dat TOr
theorem tab_step {T : Tab} {ps tcs : List Str} (ok : TabOk T ps) (hcs : CausesOf ps tcs) {s c : Str} (hs : s ∈ T.homes.map (·.1)) (hc : c ∈ tcs) : ∃ b, getA T.steps (s, c) = some (T.step s c, b) ∧ T.step s c ∈ T.homes.map (·.1) ∧ NameOk c := by
  have hp := (hcs.mem c).mp hc
  obtain ⟨r, e⟩ := ok.full s hs c hp
  refine ⟨r.2, ?_, ok.tgt hs hp, ok.causes c hp⟩
  unfold Tab.step
  rw [e]
  rfl
end Sp33
namespace Sp33
open PySem L2 Dat TOr
def dstF (F : List (Str × List Str)) (s : Str) : Int := (((getA F s).getD []).length : Nat)
theorem num_mem {α : Type} {T : Tab} {tcs S : List Str} {F : List (Str × List Str)} (f : Bfs.Found T.step tcs ltS S T.start F) {ss : List α} {k : α → Str} {P : Str → Prop} (h : ∀ s, s ∈ ss.map k ↔ s ∈ F.map (·.1) ∧ P s) (g : Int → Int) (n : Int) :
    n ∈ ss.map (fun r => g (dstF F (k r))) ↔ ∃ s d, Dist T tcs s d ∧ P s ∧ n = g (d : Nat) := by
  constructor
  · intro hn
    obtain ⟨r, hr, e⟩ := List.mem_map.mp hn
    obtain ⟨h1, h2⟩ := (h (k r)).mp (List.mem_map.mpr ⟨r, hr, rfl⟩)
    obtain ⟨⟨s, w⟩, hf, es⟩ := List.mem_map.mp h1
    have es : s = k r := es
    subst es
    have hg := getA_of_mem f.nodup hf
    refine ⟨k r, w.length, Found.dist f hf, h2, ?_⟩
    rw [← e]
    unfold dstF
    rw [hg]
    rfl
  · rintro ⟨s, d, hd, hp, e⟩
    obtain ⟨w, hw, el⟩ := Found.has f hd
    obtain ⟨r, hr, er⟩ := List.mem_map.mp ((h s).mpr ⟨List.mem_map.mpr ⟨_, hw, rfl⟩, hp⟩)
    refine List.mem_map.mpr ⟨r, hr, ?_⟩
    rw [e, er]
    unfold dstF
    rw [getA_of_mem f.nodup hw]
    show g (w.length : Nat) = _
    rw [el]
def lensOf (F : List (Str × List Str)) : List (Str × Int) := F.map fun f => (f.1, ((f.2.length : Nat) : Int))
theorem lensOf_keys (F : List (Str × List Str)) : (lensOf F).map (·.1) = F.map (·.1) := by
  unfold lensOf
  rw [List.map_map]
  rfl
theorem lensOf_get {F : List (Str × List Str)} {s : Str} (h : s ∈ F.map (·.1)) : getA (lensOf F) s = some (dstF F s) := by
  induction F with
  | nil => cases h
  | cons f r ih =>
    show getA ((f.1, ((f.2.length : Nat) : Int)) :: lensOf r) s = _
    unfold dstF
    rw [getA_cons, getA_cons]
    by_cases c : f.1 = s
    · rw [if_pos c, if_pos c]
      rfl
    · rw [if_neg c, if_neg c]
      rw [List.map_cons, List.mem_cons] at h
      exact ih (h.resolve_left fun e => c e.symm)
theorem isMin_list {N : Int → Prop} {ns : List Int} (h : ∀ n, n ∈ ns ↔ N n) : (ns = [] → IsMin N .non) ∧ ∀ m, m ∈ ns → (∀ y, y ∈ ns → m ≤ y) → IsMin N (.int m) :=
  ⟨fun e => .inl ⟨rfl, fun n hn => by
    have := (h n).mpr hn
    rw [e] at this
    nomatch this⟩, fun m hm hle => .inr ⟨m, rfl, (h m).mp hm, fun k hk => hle k ((h k).mpr hk)⟩⟩
end Sp33
namespace Rd
open PySem L2
theorem ckw {r : List V → List V → Hp → VK → Prop} {t tk : TA} {σ : L2.St} {H : Hp} {Q : VK} (h : t σ H fun vs H1 => tk σ H1 fun zs H2 => r vs zs H2 Q) : tCKw r t tk σ H Q := h
end Rd

set_option linter.all false
namespace Sp33
open PySem L2
theorem len__after_both {K : PySem.W.Frag} {C : Addr} {vs : List V} {H : Hp} {Q : VK} {E : XK} (h : sp__after_both K C vs H Q E) : vs.length = 4 := by
  obtain ⟨_, _, _, _, _, _, _, rfl, _⟩ := h
  rfl
theorem len__looked_at {K : PySem.W.Frag} {C : Addr} {vs : List V} {H : Hp} {Q : VK} {E : XK} (h : sp__looked_at K C vs H Q E) : vs.length = 2 := by
  obtain ⟨_, _, _, _, rfl, _⟩ := h
  rfl
theorem len_commute_failures {K : PySem.W.Frag} {C : Addr} {vs : List V} {H : Hp} {Q : VK} {E : XK} (h : sp_commute_failures K C vs H Q E) : vs.length = 2 := by
  obtain ⟨_, _, _, _, rfl, _⟩ := h
  rfl
theorem len_carry_failures {K : PySem.W.Frag} {C : Addr} {vs : List V} {H : Hp} {Q : VK} {E : XK} (h : sp_carry_failures K C vs H Q E) : vs.length = 2 := by
  obtain ⟨_, _, _, _, rfl, _⟩ := h
  rfl
theorem len_rate_failures {K : PySem.W.Frag} {C : Addr} {vs : List V} {H : Hp} {Q : VK} {E : XK} (h : sp_rate_failures K C vs H Q E) : vs.length = 2 := by
  obtain ⟨_, _, _, _, rfl, _⟩ := h
  rfl
theorem len_fewest_notes {K : PySem.W.Frag} {C : Addr} {vs : List V} {H : Hp} {Q : VK} {E : XK} (h : sp_fewest_notes K C vs H Q E) : vs.length = 2 := by
  obtain ⟨_, _, _, _, _, rfl, _⟩ := h
  rfl
theorem len__law_levels {K : PySem.W.Frag} {vs : List V} {H : Hp} {Q : VK} {E : XK} (h : sp__law_levels K vs H Q E) : vs.length = 1 := by
  obtain ⟨_, _, _, _, rfl, _⟩ := h
  rfl
theorem len__law_clashes {K : PySem.W.Frag} {vs : List V} {H : Hp} {Q : VK} {E : XK} (h : sp__law_clashes K vs H Q E) : vs.length = 2 := by
  obtain ⟨_, _, _, _, rfl, _⟩ := h
  rfl
theorem len__law_leaves {K : PySem.W.Frag} {vs : List V} {H : Hp} {Q : VK} {E : XK} (h : sp__law_leaves K vs H Q E) : vs.length = 2 := by
  obtain ⟨_, _, _, _, rfl, _⟩ := h
  rfl
theorem len__law_due {K : PySem.W.Frag} {vs : List V} {H : Hp} {Q : VK} {E : XK} (h : sp__law_due K vs H Q E) : vs.length = 2 := by
  obtain ⟨_, _, _, _, _, rfl, _⟩ := h
  rfl
theorem len__law_told {K : PySem.W.Frag} {C : Addr} {vs : List V} {H : Hp} {Q : VK} {E : XK} (h : sp__law_told K C vs H Q E) : vs.length = 3 := by
  obtain ⟨_, _, _, _, _, _, rfl, _⟩ := h
  rfl
theorem len__law_changed {K : PySem.W.Frag} {vs : List V} {H : Hp} {Q : VK} {E : XK} (h : sp__law_changed K vs H Q E) : vs.length = 2 := by
  obtain ⟨_, _, _, _, _, rfl, _⟩ := h
  rfl
end Sp33

set_option Elab.async false
set_option linter.all false
set_option maxRecDepth 100000
set_option maxHeartbeats 8000000

/-! the text of the row, by places -/
namespace Lk35
open PySem L2
def top (i : Nat) : Stmt := PySem.Challenge.pw_hearthdue_k35_fewest_notes.main.body.getD i (.Pass ⟨0, 0, 0, 0⟩)
abbrev s_reach : Stmt := top 1
theorem sc_reach : FnScope ["table", "found", "seen", "at", "status", "word", "cause", "after"] ["table"] (C8.fnScope s_reach) := C8.fnScope_by (by decide +kernel)
abbrev s_fewest_notes : Stmt := top 2
theorem sc_fewest_notes : FnScope ["table", "over", "distances", "status", "word", "numbers", "_", "others"] ["table", "over"] (C8.fnScope s_fewest_notes) := C8.fnScope_by (by decide +kernel)
abbrev s_commute_failures : Stmt := top 3
theorem sc_commute_failures : FnScope ["table", "statuses", "found", "status", "at", "one", "two"] ["table", "statuses"] (C8.fnScope s_commute_failures) := C8.fnScope_by (by decide +kernel)
abbrev s_carry_failures : Stmt := top 4
theorem sc_carry_failures : FnScope ["table", "statuses", "found", "status", "cause", "after", "carried"] ["table", "statuses"] (C8.fnScope s_carry_failures) := C8.fnScope_by (by decide +kernel)
abbrev s_rate_failures : Stmt := top 5
theorem sc_rate_failures : FnScope ["table", "statuses", "status"] ["table", "statuses"] (C8.fnScope s_rate_failures) := C8.fnScope_by (by decide +kernel)
abbrev s__looked_at : Stmt := top 6
theorem sc__looked_at : FnScope ["table", "statuses", "pair"] ["table", "statuses"] (C8.fnScope s__looked_at) := C8.fnScope_by (by decide +kernel)
abbrev s__after_both : Stmt := top 7
theorem sc__after_both : FnScope ["table", "status", "one", "two", "middle"] ["table", "status", "one", "two"] (C8.fnScope s__after_both) := C8.fnScope_by (by decide +kernel)
abbrev s_is_integer : Stmt := top 13
theorem sc_is_integer : FnScope ["value"] ["value"] (C8.fnScope s_is_integer) := C8.fnScope_by (by decide +kernel)
abbrev s_within : Stmt := top 14
theorem sc_within : FnScope ["value", "low", "high"] ["value", "low", "high"] (C8.fnScope s_within) := C8.fnScope_by (by decide +kernel)
abbrev s__is_letter : Stmt := top 15
theorem sc__is_letter : FnScope ["sign"] ["sign"] (C8.fnScope s__is_letter) := C8.fnScope_by (by decide +kernel)
abbrev s_is_name : Stmt := top 16
theorem sc_is_name : FnScope ["value", "sign"] ["value"] (C8.fnScope s_is_name) := C8.fnScope_by (by decide +kernel)
abbrev s__rates_are_good : Stmt := top 22
theorem sc__rates_are_good : FnScope ["rates", "column"] ["rates"] (C8.fnScope s__rates_are_good) := C8.fnScope_by (by decide +kernel)
abbrev s__homes_are_good : Stmt := top 23
theorem sc__homes_are_good : FnScope ["homes", "rates", "status"] ["homes", "rates"] (C8.fnScope s__homes_are_good) := C8.fnScope_by (by decide +kernel)
abbrev s__is_known : Stmt := top 24
theorem sc__is_known : FnScope ["value", "table"] ["value", "table"] (C8.fnScope s__is_known) := C8.fnScope_by (by decide +kernel)
abbrev s__is_pair : Stmt := top 25
theorem sc__is_pair : FnScope ["value"] ["value"] (C8.fnScope s__is_pair) := C8.fnScope_by (by decide +kernel)
abbrev s__step_is_good : Stmt := top 26
theorem sc__step_is_good : FnScope ["pair", "step", "homes"] ["pair", "step", "homes"] (C8.fnScope s__step_is_good) := C8.fnScope_by (by decide +kernel)
abbrev s__causes_of : Stmt := top 27
theorem sc__causes_of : FnScope ["steps", "_", "cause"] ["steps"] (C8.fnScope s__causes_of) := C8.fnScope_by (by decide +kernel)
abbrev s__steps_are_good : Stmt := top 28
theorem sc__steps_are_good : FnScope ["steps", "homes", "pair", "causes", "status", "cause"] ["steps", "homes"] (C8.fnScope s__steps_are_good) := C8.fnScope_by (by decide +kernel)
abbrev s_RecoveryTable___init__ : Stmt := L2.inClass (top 29) 0
theorem sc_RecoveryTable___init__ : FnScope ["self", "start", "homes", "rates", "steps", "pair"] ["self", "start", "homes", "rates", "steps"] (C8.fnScope s_RecoveryTable___init__) := C8.fnScope_by (by decide +kernel)
abbrev s_RecoveryTable_home : Stmt := L2.inClass (top 29) 1
theorem sc_RecoveryTable_home : FnScope ["self", "status"] ["self", "status"] (C8.fnScope s_RecoveryTable_home) := C8.fnScope_by (by decide +kernel)
abbrev s_RecoveryTable_rate : Stmt := L2.inClass (top 29) 2
theorem sc_RecoveryTable_rate : FnScope ["self", "column"] ["self", "column"] (C8.fnScope s_RecoveryTable_rate) := C8.fnScope_by (by decide +kernel)
abbrev s_RecoveryTable_step : Stmt := L2.inClass (top 29) 3
theorem sc_RecoveryTable_step : FnScope ["self", "status", "cause"] ["self", "status", "cause"] (C8.fnScope s_RecoveryTable_step) := C8.fnScope_by (by decide +kernel)
abbrev s__law_pot : Stmt := top 31
theorem sc__law_pot : FnScope ["script", "place", "cell", "one", "seed"] ["script", "place"] (C8.fnScope s__law_pot) := C8.fnScope_by (by decide +kernel)
abbrev s__law_draw : Stmt := top 32
theorem sc__law_draw : FnScope ["pot", "size", "digit", "mixed"] ["pot", "size"] (C8.fnScope s__law_draw) := C8.fnScope_by (by decide +kernel)
abbrev s__law_word : Stmt := top 33
theorem sc__law_word : FnScope ["pot", "size", "letters", "k"] ["pot", "size"] (C8.fnScope s__law_word) := C8.fnScope_by (by decide +kernel)
abbrev s__law_bumped : Stmt := top 34
theorem sc__law_bumped : FnScope ["word", "names", "letters", "turn"] ["word", "names"] (C8.fnScope s__law_bumped) := C8.fnScope_by (by decide +kernel)
abbrev s__law_names : Stmt := top 35
theorem sc__law_names : FnScope ["pot", "count", "letters", "style", "names", "base", "first", "stride", "size", "place", "k"] ["pot", "count"] (C8.fnScope s__law_names) := C8.fnScope_by (by decide +kernel)
abbrev s__law_sizes : Stmt := top 36
theorem sc__law_sizes : FnScope ["pot", "many", "kinds"] ["pot"] (C8.fnScope s__law_sizes) := C8.fnScope_by (by decide +kernel)
abbrev s__law_target : Stmt := top 37
theorem sc__law_target : FnScope ["pot", "style", "sizes", "at", "shift"] ["pot", "style", "sizes", "at", "shift"] (C8.fnScope s__law_target) := C8.fnScope_by (by decide +kernel)
abbrev s__law_targets : Stmt := top 38
theorem sc__law_targets : FnScope ["pot", "many", "kinds", "style", "core", "shifts", "k", "chain", "rows", "at", "shift"] ["pot", "many", "kinds"] (C8.fnScope s__law_targets) := C8.fnScope_by (by decide +kernel)
abbrev s__law_rate : Stmt := top 39
theorem sc__law_rate : FnScope ["pot", "least", "kind", "rate"] ["pot", "least"] (C8.fnScope s__law_rate) := C8.fnScope_by (by decide +kernel)
abbrev s__law_flags : Stmt := top 40
theorem sc__law_flags : FnScope ["pot", "many", "kinds", "style", "rows", "at", "k"] ["pot", "many", "kinds"] (C8.fnScope s__law_flags) := C8.fnScope_by (by decide +kernel)
abbrev s__law_homes : Stmt := top 41
theorem sc__law_homes : FnScope ["pot", "many", "columns", "style", "place", "at"] ["pot", "many", "columns"] (C8.fnScope s__law_homes) := C8.fnScope_by (by decide +kernel)
abbrev s__law_spoilt : Stmt := top 42
theorem sc__law_spoilt : FnScope ["pot", "core", "rows", "flags", "homes", "rates", "many", "turn", "at", "kind", "k", "row", "flag"] ["pot", "core", "rows", "flags", "homes", "rates"] (C8.fnScope s__law_spoilt) := C8.fnScope_by (by decide +kernel)
abbrev s__law_plan : Stmt := top 43
theorem sc__law_plan : FnScope ["script", "pot", "sizes", "shared", "first", "names", "causes", "columns", "told", "flags", "homes", "least", "rates", "column", "order", "plan", "at"] ["script"] (C8.fnScope s__law_plan) := C8.fnScope_by (by decide +kernel)
abbrev s__law_fill : Stmt := top 44
theorem sc__law_fill : FnScope ["plan", "names", "causes", "at", "given", "homes", "steps", "k"] ["plan", "names", "causes", "at", "given"] (C8.fnScope s__law_fill) := C8.fnScope_by (by decide +kernel)
abbrev s__law_table : Stmt := top 45
theorem sc__law_table : FnScope ["plan", "steps", "key"] ["plan"] (C8.fnScope s__law_table) := C8.fnScope_by (by decide +kernel)
abbrev s__law_levels : Stmt := top 46
theorem sc__law_levels : FnScope ["plan", "found", "line", "depth", "fresh", "status", "cause", "target"] ["plan"] (C8.fnScope s__law_levels) := C8.fnScope_by (by decide +kernel)
abbrev s__law_clashes : Stmt := top 47
theorem sc__law_clashes : FnScope ["plan", "status", "steps", "high", "low", "ahead", "behind"] ["plan", "status"] (C8.fnScope s__law_clashes) := C8.fnScope_by (by decide +kernel)
abbrev s__law_leaves : Stmt := top 48
theorem sc__law_leaves : FnScope ["plan", "status", "homes", "cause", "target", "carried"] ["plan", "status"] (C8.fnScope s__law_leaves) := C8.fnScope_by (by decide +kernel)
abbrev s__law_due : Stmt := top 49
theorem sc__law_due : FnScope ["plan", "word", "levels", "numbers", "status", "far"] ["plan", "word"] (C8.fnScope s__law_due) := C8.fnScope_by (by decide +kernel)
abbrev s__law_told : Stmt := top 50
theorem sc__law_told : FnScope ["table", "word", "due", "told"] ["table", "word", "due"] (C8.fnScope s__law_told) := C8.fnScope_by (by decide +kernel)
abbrev s__law_changed : Stmt := top 51
theorem sc__law_changed : FnScope ["script", "plan", "pot", "near", "steps", "key", "names", "columns", "status", "kind", "rates", "column", "homes", "target", "carried"] ["script", "plan"] (C8.fnScope s__law_changed) := C8.fnScope_by (by decide +kernel)
abbrev s_law : Stmt := top 52
theorem sc_law : FnScope ["script", "plan", "near", "table", "other", "words", "word"] ["script"] (C8.fnScope s_law) := C8.fnScope_by (by decide +kernel)
structure Txt (mg : Str → Option Value) : Prop where
  n_len : mg "len" = none
  n_int : mg "int" = none
  n_sum : mg "sum" = none
  n_range : mg "range" = none
  n_isinstance : mg "isinstance" = none
  n_bool : mg "bool" = none
  n_str : mg "str" = none
  n_list : mg "list" = none
  n_tuple : mg "tuple" = none
  n_dict : mg "dict" = none
  n_all : mg "all" = none
  n_sorted : mg "sorted" = none
  n_max : mg "max" = none
  n_min : mg "min" = none
  n_enumerate : mg "enumerate" = none
  c_MOST_COLUMNS : ∃ u, mg "_MOST_COLUMNS" = some u ∧ RelV (.int 6) u
  c_MOST_STATUSES : ∃ u, mg "_MOST_STATUSES" = some u ∧ RelV (.int 8) u
  c_MOST_CAUSES : ∃ u, mg "_MOST_CAUSES" = some u ∧ RelV (.int 6) u
  c_MOST_RATE : ∃ u, mg "_MOST_RATE" = some u ∧ RelV (.int 1000000000) u
end Lk35

set_option maxHeartbeats 8000000
namespace Lk35
open PySem L2 Dat Sp33 TOr

local macro_rules | `(tactic| walk_at "go1") => `(tactic| (first
  | with_reducible refine Rd.seq ?_
  | with_reducible refine Rd.asg ?_
  | with_reducible refine Rd.ret ?_
  | with_reducible refine Rd.ifS ?_
  | with_reducible refine Rd.drop ?_
  | with_reducible refine Rd.next ?_
  | with_reducible refine Rd.dput ?_
  | with_reducible refine Rd.fldS ?_
  | with_reducible refine Rd.ckw ?_
  | with_reducible refine Rd.lstRg2 ?_
  | with_reducible refine Rd.lstRg1 ?_
  | with_reducible refine Rd.ppc ?_
  | with_reducible refine Rd.ppn ?_
  | with_reducible refine Rd.mt ?_
  | with_reducible refine Rd.mk ?_
  | with_reducible refine Rd.op ?_
  | with_reducible refine Rd.un ?_
  | with_reducible refine Rd.c ?_
  | with_reducible refine Rd.test ?_
  | with_reducible refine Rd.tb ?_
  | with_reducible refine Rd.not ?_
  | with_reducible refine Rd.and ?_
  | with_reducible refine Rd.or ?_
  | with_reducible refine Rd.andV ?_
  | with_reducible refine Rd.orV ?_
  | with_reducible refine Rd.notV ?_
  | with_reducible refine Rd.ifE ?_
  | with_reducible refine Rd.chain ?_
  | with_reducible refine Rd.nil ?_
  | with_reducible refine Rd.cons ?_
  | with_reducible refine Rd.tup ?_
  | with_reducible refine Rd.lst ?_
  | with_reducible refine Rd.cb ?_
  | with_reducible refine Rd.call ?_
  | with_reducible refine Rd.bm ?_
  | with_reducible refine Rd.m1 ?_
  | with_reducible refine Rd.dget ?_
  | with_reducible refine Rd.din ?_
  | with_reducible refine Rd.dnotin ?_
  | with_reducible refine Rd.slice ?_
  | with_reducible refine Rd.nopart ?_
  | with_reducible refine Rd.part ?_
  | with_reducible refine Rd.fld ?_
  | with_reducible refine Rd.gname ?_
  | with_reducible refine Rd.gsub ?_
  | with_reducible refine Rd.gcons ?_
  | with_reducible refine Rd.gnil ?_
  | with_reducible refine Rd.isb ?_
  | with_reducible refine Rd.isi ?_
  | with_reducible refine Rd.i0 ?_
  | with_reducible refine Rd.u1 ?_
  | with_reducible refine Rd.itT ?_
  | with_reducible refine Rd.itF ?_
  | with_reducible refine Rd.itnT ?_
  | with_reducible refine Rd.itnF ?_
  | with_reducible refine Rd.yes ?_
  | with_reducible refine Rd.isInt ?_
  | with_reducible refine Rd.isIntB ?_
  | with_reducible refine Rd.isStr ?_
  | with_reducible refine Rd.isBool ?_
  | refine Rd.var rfl ?_))
local macro_rules | `(tactic| walk_at "go") => `(tactic| repeat (walk_at "go1"))

section
variable {P : Program} {w : World} {K : PySem.W.Frag} {mg : Str → Option Value} {base : Heap}
theorem ok_law_draw (T : Txt mg) {f : Addr} {fd : FuncData} (F : C8.Def K mg "_law_draw" s__law_draw f fd) (b : Binds K fd ["pot", "size"] [])  : C8.Cal P w K mg base 1 "_law_draw" (sp__law_draw K) [] := by
  refine C8.cal0 F b .nil sc__law_draw (fun vs H Q E h => ?_) (fun cdv A outer s H vs Q E hr h => ?_)
  · exact len__law_draw h
  · refine ⟨_, (pss_cons (ps_if (pt_cmpR op_gt (pe_ix ix_list (pv 0) pe_int (fun _ _ => rfl)) pe_int (nomark _))
  (pss_cons (ps_set (i := 2) sc__law_draw.nd rfl (by first | exact Or.inl rfl | exact Or.inr rfl) (pe_op op_modN (pe_callTy call_int1 (by rfl) T.n_int (by decide +kernel) (pa_cons (pe_ix ix_list (pv 0) pe_int (fun _ _ => rfl)) pa_nil)) (pv 1)))
  (pss_cons (ps_asg (pe_op op_fdivN (pe_callTy call_int1 (by rfl) T.n_int (by decide +kernel) (pa_cons (pe_ix ix_list (pv 0) pe_int (fun _ _ => rfl)) pa_nil)) (pv 1)) (pg_sub (pv 0) pe_int set_list))
  (pss_one (ps_ret (pv 2)))))
  pss_nil)
  (pss_cons (ps_asg (pe_op op_add (pe_ix ix_list (pv 0) pe_int (fun _ _ => rfl)) pe_int) (pg_sub (pv 0) pe_int set_list))
  (pss_cons (ps_set (i := 3) sc__law_draw.nd rfl (by first | exact Or.inl rfl | exact Or.inr rfl) (pe_op op_modN (pe_callTy call_int1 (by rfl) T.n_int (by decide +kernel) (pa_cons (pe_op op_add (pe_ix ix_list (pv 0) pe_int (fun _ _ => rfl)) (pe_op op_mul pe_int (pe_ix ix_list (pv 0) pe_int (fun _ _ => rfl)))) pa_nil)) pe_int))
  (pss_cons (ps_set (i := 3) sc__law_draw.nd rfl (by first | exact Or.inl rfl | exact Or.inr rfl) (pe_op op_modN (pe_callTy call_int1 (by rfl) T.n_int (by decide +kernel) (pa_cons (pe_op op_add (pe_op op_add (pe_op op_mul (pv 3) (pv 3)) (pe_op op_mul pe_int (pe_ix ix_list (pv 0) pe_int (fun _ _ => rfl)))) (pe_ix ix_list (pv 0) pe_int (fun _ _ => rfl))) pa_nil)) pe_int))
  (pss_cons (ps_set (i := 3) sc__law_draw.nd rfl (by first | exact Or.inl rfl | exact Or.inr rfl) (pe_op op_modN (pe_callTy call_int1 (by rfl) T.n_int (by decide +kernel) (pa_cons (pe_op op_add (pe_op op_mul (pv 3) pe_int) (pe_op op_mul pe_int (pe_ix ix_list (pv 0) pe_int (fun _ _ => rfl)))) pa_nil)) pe_int))
  (pss_cons (ps_set (i := 3) sc__law_draw.nd rfl (by first | exact Or.inl rfl | exact Or.inr rfl) (pe_op op_modN (pe_callTy call_int1 (by rfl) T.n_int (by decide +kernel) (pa_cons (pe_op op_add (pe_op op_mul (pv 3) (pv 3)) (pe_ix ix_list (pv 0) pe_int (fun _ _ => rfl))) pa_nil)) pe_int))
  (pss_one (ps_ret (pe_op op_modN (pe_callTy call_int1 (by rfl) T.n_int (by decide +kernel) (pa_cons (pe_op op_fdivN (pv 3) pe_int) pa_nil)) (pv 1)))))))))), ?_⟩
    obtain ⟨τ, a, size, rfl, hok, ht, h1, h2, q⟩ := h
    obtain ⟨o, ha, c, sd, n, rfl⟩ := hok a _ ht
    have hsz : size ≠ 0 := by omega
    have hsp : 0 < size := by omega
    walk_at "go"
    refine Rd.ixL (sq_of ha) (atI_nat (j := 0) rfl) ?_
    walk_at "go"
    refine Rd.itP (fun hc => ?_) (fun hc => ?_)
    · walk_at "go"
      refine Rd.ixL (sq_of ha) (atI_nat (j := 0) rfl) ?_
      walk_at "go"
      refine .inl ⟨_, rfl, ?_⟩
      walk_at "go"
      refine Rd.i1 hsz ?_
      walk_at "go"
      refine Rd.ixL (sq_of ha) (atI_nat (j := 0) rfl) ?_
      walk_at "go"
      refine .inl ⟨_, rfl, ?_⟩
      walk_at "go"
      refine Rd.i1 ⟨hsz, by omega⟩ ?_
      walk_at "go"
      refine Rd.setL (ys := [.int (c.fdiv size), .int sd, .int n]) ha (j := 0) rfl rfl ?_
      walk_at "go"
      exact q _ _ ((Post.refl hok).set ht ⟨_, _, _, rfl⟩) (fm0 _ hsp) (fm1 _ hsp)
    · walk_at "go"
      refine Rd.ixL (sq_of ha) (atI_nat (j := 2) rfl) ?_
      walk_at "go"
      refine Rd.setL (ys := [.int c, .int sd, .int (n + 1)]) ha (j := 2) rfl rfl ?_
      have hp := (Post.refl hok).set (o := .lst [.int c, .int sd, .int (n + 1)]) ht ⟨_, _, _, rfl⟩
      have ha2 : upd H a (.lst [.int c, .int sd, .int (n + 1)]) a = some (.lst [.int c, .int sd, .int (n + 1)]) := upd_same
      generalize upd H a (.lst [.int c, .int sd, .int (n + 1)]) = G at hp ha2 ⊢
      walk_at "go"
      refine Rd.ixL (sq_of ha2) (atI_nat (j := 1) rfl) ?_
      walk_at "go"
      refine Rd.ixL (sq_of ha2) (atI_nat (j := 2) rfl) ?_
      walk_at "go"
      refine Rd.mulL (by decide) (by decide) ?_
      walk_at "go"
      refine .inl ⟨_, rfl, ?_⟩
      walk_at "go"
      refine Rd.mod (by decide) (fun m1 ma1 mb1 => ?_)
      walk_at "go"
      refine Rd.mulL (by omega) (by omega) ?_
      walk_at "go"
      refine Rd.ixL (sq_of ha2) (atI_nat (j := 1) rfl) ?_
      walk_at "go"
      refine Rd.mulL (by decide) (by decide) ?_
      walk_at "go"
      refine Rd.ixL (sq_of ha2) (atI_nat (j := 2) rfl) ?_
      walk_at "go"
      refine .inl ⟨_, rfl, ?_⟩
      walk_at "go"
      refine Rd.mod (by decide) (fun m2 ma2 mb2 => ?_)
      walk_at "go"
      refine Rd.mulL (by omega) (by omega) ?_
      walk_at "go"
      refine Rd.ixL (sq_of ha2) (atI_nat (j := 2) rfl) ?_
      walk_at "go"
      refine Rd.mulL (by decide) (by decide) ?_
      walk_at "go"
      refine .inl ⟨_, rfl, ?_⟩
      walk_at "go"
      refine Rd.mod (by decide) (fun m3 ma3 mb3 => ?_)
      walk_at "go"
      refine Rd.mulL (by omega) (by omega) ?_
      walk_at "go"
      refine Rd.ixL (sq_of ha2) (atI_nat (j := 1) rfl) ?_
      walk_at "go"
      refine .inl ⟨_, rfl, ?_⟩
      walk_at "go"
      refine Rd.mod (by decide) (fun m4 ma4 mb4 => ?_)
      walk_at "go"
      refine Rd.fdiv (by decide) (by decide) ?_
      walk_at "go"
      refine .inl ⟨_, rfl, ?_⟩
      walk_at "go"
      refine Rd.mod hsp (fun m5 ma5 mb5 => ?_)
      walk_at "go"
      exact q _ _ hp ma5 mb5
end

section
variable {P : Program} {w : World} {K : PySem.W.Frag} {mg : Str → Option Value} {base : Heap}
theorem ok_law_pot (T : Txt mg) {f : Addr} {fd : FuncData} (F : C8.Def K mg "_law_pot" s__law_pot f fd) (b : Binds K fd ["script", "place"] [])  : C8.Cal P w K mg base 1 "_law_pot" (sp__law_pot K) [] := by
  refine C8.cal0 F b .nil sc__law_pot (fun vs H Q E h => ?_) (fun cdv A outer s H vs Q E hr h => ?_)
  · exact len__law_pot h
  · refine ⟨_, (pss_cons (ps_set (i := 2) sc__law_pot.nd rfl (by first | exact Or.inl rfl | exact Or.inr rfl) (pe_op op_add (pe_op op_mul pe_int (pe_callB (cr_sum rfl) (by rfl) T.n_sum (by decide +kernel) (pa_cons (pe_lc (own := [("one", 3)]) (g := (gName 3)) (tt := _) rfl sc__law_pot.nd (pi_list (pe_slice sl_list (pv 0) po_none (po_some pe_int))) (blkOk_by (own := [("one", 3)]) (N := ["script", "place", "cell", "one", "seed"]) (sc := (C8.fnScope s__law_pot)) (by decide +kernel)) (fun _ _ _ _ _ => (pg_name (i := 3) sc__law_pot.nd rfl (by first | exact Or.inl rfl | exact Or.inr rfl))) (fun _ _ _ _ _ => pts_nil) (fun _ _ _ _ _ => (pe_op op_modN (pe_callTy call_int1 (by rfl) T.n_int (by decide +kernel) (pa_cons (pv 3) pa_nil)) pe_int))) pa_nil))) (pe_op op_mul pe_int (pv 1))))
  (pss_cons (ps_if (pt_cmpR op_lt (pv 1) (pe_callB call_len_seq (by rfl) T.n_len (by decide +kernel) (pa_cons (pv 0) pa_nil)) (nomark _))
  (pss_one (ps_set (i := 2) sc__law_pot.nd rfl (by first | exact Or.inl rfl | exact Or.inr rfl) (pe_callTy call_int1 (by rfl) T.n_int (by decide +kernel) (pa_cons (pe_ix ix_list (pv 0) (pv 1) (fun _ _ => rfl)) pa_nil))))
  pss_nil)
  (pss_cons (ps_set (i := 4) sc__law_pot.nd rfl (by first | exact Or.inl rfl | exact Or.inr rfl) (pe_op op_modN (pe_callTy call_int1 (by rfl) T.n_int (by decide +kernel) (pa_cons (pe_op op_add (pe_op op_modN (pe_callTy call_int1 (by rfl) T.n_int (by decide +kernel) (pa_cons (pv 2) pa_nil)) pe_int) (pe_op op_mul pe_int (pv 1))) pa_nil)) pe_int))
  (pss_one (ps_ret (pe_lst (pa_cons (pe_ifExp (pt_cmpR op_ge (pv 2) (pe_op op_pow pe_int pe_int) (nomark _)) (pv 2) pe_int) (pa_cons (pv 4) (pa_cons pe_int pa_nil))))))))), ?_⟩
    obtain ⟨τ, a, ns, place, rfl, hok, hs, hl, h1, h2, q⟩ := h
    walk_at "go"
    refine Rd.slice ?_
    walk_at "go"
    refine ⟨a, _, rfl, hs.sq, fun p hp => ?_⟩
    rw [cut_ints]
    have hz : ((ns.drop (HT.sIx ns.length 0 none)).take (HT.sIx ns.length ns.length (some 63) - HT.sIx ns.length 0 none)).length ≤ 63 := by
      rw [List.length_take, List.length_drop]
      omega
    generalize (ns.drop (HT.sIx ns.length 0 none)).take (HT.sIx ns.length ns.length (some 63) - HT.sIx ns.length 0 none) = zs at hz ⊢
    have P1 := (Post.refl hok).new (o := .lst (zs.map V.int)) hp
    have t1 := hok.none hp
    have f1 : upd H p (.lst (zs.map V.int)) p = some (.lst (zs.map V.int)) := upd_same
    generalize upd H p (.lst (zs.map V.int)) = G1 at P1 f1 ⊢
    refine ⟨p, rfl, ⟨_, sq_of f1⟩, fun D hD => lc_list (K := K) (xs := zs.map V.int) (fun i H' => Post τ H τ H' ∧ H' p = some (.lst (zs.map V.int)) ∧ H' D = some (.lst (((zs.take i).map (fun z => z.fmod 1000003)).map V.int)))
      ⟨P1.new hD, by rw [upd_ne (ne_of_none f1 hD)]; exact f1, upd_same⟩ (fun i H' _ z => sq_of z.2.1) ?_ ?_⟩
    · rintro i x H' hx ⟨P2, f2, g2⟩
      rw [List.getElem?_map] at hx
      obtain ⟨z, hz2, rfl⟩ := Option.map_eq_some_iff.mp hx
      walk_at "go"
      refine ⟨rfl, ?_⟩
      walk_at "go"
      refine .inl ⟨_, rfl, ?_⟩
      walk_at "go"
      refine Rd.i1 (by decide) ?_
      refine ⟨_, g2, small1000 (by rw [List.length_map, List.length_map, List.length_take]; omega), P2.mut (P1.free hD) (P1.tfree hD), by rw [upd_ne (ne_of_none f1 hD)]; exact f2, ?_⟩
      rw [upd_same, List.take_add_one, hz2, List.map_append, List.map_append]
      rfl
    · rintro H' ⟨P2, f2, g2⟩
      walk_at "go"
      refine ⟨D, _, rfl, sq_of g2, ?_⟩
      generalize (List.map (fun z => Int.fmod z 1000003) (zs.take (zs.map V.int).length)).sum = sm
      walk_at "go"
      refine Rd.mulL (by decide) (by decide) ?_
      walk_at "go"
      refine Rd.mulL (by decide) (by decide) ?_
      walk_at "go"
      generalize 101 * sm + 7 * place = cell
      have hs2 := (hs.mono P2).sq
      refine ⟨a, _, rfl, .inl hs2, ?_⟩
      walk_at "go"
      refine Rd.itP (fun hlt => ?_) (fun hlt => ?_)
      · obtain ⟨n, rfl⟩ := Int.eq_ofNat_of_zero_le h1
        rw [List.length_map] at hlt
        have hn : n < ns.length := by omega
        walk_at "go"
        refine Rd.ixL hs2 (v := .int ns[n]) (atI_nat (by rw [List.getElem?_map, List.getElem?_eq_getElem hn]; rfl)) ?_
        walk_at "go"
        refine .inl ⟨_, rfl, ?_⟩
        generalize ns[n] = cell
        walk_at "go"
        refine .inl ⟨_, rfl, ?_⟩
        walk_at "go"
        refine Rd.mod (by decide) (fun m1 _ _ => ?_)
        walk_at "go"
        refine Rd.mulL (by decide) (by decide) ?_
        walk_at "go"
        refine .inl ⟨_, rfl, ?_⟩
        walk_at "go"
        refine Rd.mod (by decide) (fun m2 _ _ => ?_)
        walk_at "go"
        refine Rd.i1 ⟨by decide, by decide, by decide⟩ ?_
        walk_at "go"
        refine Rd.itP (fun _ => ?_) (fun _ => ?_)
        · walk_at "go"
          refine ⟨(by show 3 ≤ sizeLine; decide), fun r hr => ?_⟩
          exact q (ext τ r .pot) _ r ((P2.new hr).kind (P2.free hr) (P2.tfree hr) upd_same ⟨_, _, _, rfl⟩) ext_same (P2.free hr)
        · walk_at "go"
          refine ⟨(by show 3 ≤ sizeLine; decide), fun r hr => ?_⟩
          exact q (ext τ r .pot) _ r ((P2.new hr).kind (P2.free hr) (P2.tfree hr) upd_same ⟨_, _, _, rfl⟩) ext_same (P2.free hr)
      · walk_at "go"
        refine .inl ⟨_, rfl, ?_⟩
        walk_at "go"
        refine Rd.mod (by decide) (fun m1 _ _ => ?_)
        walk_at "go"
        refine Rd.mulL (by decide) (by decide) ?_
        walk_at "go"
        refine .inl ⟨_, rfl, ?_⟩
        walk_at "go"
        refine Rd.mod (by decide) (fun m2 _ _ => ?_)
        walk_at "go"
        refine Rd.i1 ⟨by decide, by decide, by decide⟩ ?_
        walk_at "go"
        refine Rd.itP (fun _ => ?_) (fun _ => ?_)
        · walk_at "go"
          refine ⟨(by show 3 ≤ sizeLine; decide), fun r hr => ?_⟩
          exact q (ext τ r .pot) _ r ((P2.new hr).kind (P2.free hr) (P2.tfree hr) upd_same ⟨_, _, _, rfl⟩) ext_same (P2.free hr)
        · walk_at "go"
          refine ⟨(by show 3 ≤ sizeLine; decide), fun r hr => ?_⟩
          exact q (ext τ r .pot) _ r ((P2.new hr).kind (P2.free hr) (P2.tfree hr) upd_same ⟨_, _, _, rfl⟩) ext_same (P2.free hr)
end

theorem putK_new {ns : List Str} {kvs : List (Key × V)} {k : Str} {v : V} (e : kvs.map (·.1) = ns.map Sum.inr) (h : ns.all (fun g => !decide (g = k)) = true) : putK kvs (.inr k) v = kvs ++ [(.inr k, v)] := by
  unfold putK
  have : ¬ (kvs.any fun kv => decide (kv.1 = Sum.inr k)) = true := fun hm => by
    obtain ⟨kv, hkv, e2⟩ := List.any_eq_true.mp hm
    have e2 := of_decide_eq_true e2
    have : (Sum.inr k : Key) ∈ kvs.map (·.1) := List.mem_map.mpr ⟨kv, hkv, e2⟩
    rw [e] at this
    obtain ⟨g, hg, eg⟩ := List.mem_map.mp this
    have := List.all_eq_true.mp h g hg
    rw [Bool.not_eq_true', decide_eq_false_iff_not] at this
    exact this (Sum.inr.inj eg)
  rw [if_neg this]
abbrev nearKs : List Str := ["first", "homes", "rates", "causes", "steps"]
theorem nearKs_nd : nearKs.Nodup := by decide +kernel
abbrev nearK (n0 : Str) (e1 e2 lc ds : Addr) : List (Key × V) := [(.inr "first", .str n0), (.inr "homes", .ref e1), (.inr "rates", .ref e2), (.inr "causes", .ref lc), (.inr "steps", .ref ds)]
/-- the plan being changed: m the plan, os its own things -/
structure Nr (H G : Hp) (τ : TM) (m : Addr) (mo : HO) (os : List (Addr × HO)) : Prop where
  P : Post (fun _ => none) H τ G
  at_ : G m = some mo
  mH : H m = none
  mT : τ m = none
  os : ∀ q ∈ os, q.1 ≠ m ∧ H q.1 = none ∧ τ q.1 = none ∧ G q.1 = some q.2
section
variable {H G G' : Hp} {τ : TM} {m p : Addr} {mo o : HO} {os : List (Addr × HO)}
theorem Nr.new (i : Nr H G τ m mo os) (hp : G p = none) : Nr H (upd G p o) τ m mo ((p, o) :: os) := by
  have n := ne_of_none i.at_ hp
  refine ⟨i.P.new hp, by rw [upd_ne n]; exact i.at_, i.mH, i.mT, fun q hq => ?_⟩
  rcases List.mem_cons.mp hq with e | hq
  · rw [e]
    exact ⟨n.symm, i.P.free hp, i.P.tfree hp, upd_same⟩
  · obtain ⟨a, b, c, d⟩ := i.os q hq
    exact ⟨a, b, c, by rw [upd_ne (ne_of_none d hp)]; exact d⟩
theorem Nr.put (i : Nr H G τ m mo os) : Nr H (upd G m o) τ m o os :=
  ⟨i.P.mut i.mH i.mT, upd_same, i.mH, i.mT, fun q hq => by
    obtain ⟨a, b, c, d⟩ := i.os q hq
    exact ⟨a, b, c, by rw [upd_ne a]; exact d⟩⟩
theorem Nr.draw (i : Nr H G τ m mo os) (R : Post τ G τ G') : Nr H G' τ m mo os :=
  ⟨i.P.trans R, (R.own i.at_ i.mT).1, i.mH, i.mT, fun q hq => by
    obtain ⟨a, b, c, d⟩ := i.os q hq
    exact ⟨a, b, c, (R.own d c).1⟩⟩
theorem Nr.get (i : Nr H G τ m mo os) (h : (p, o) ∈ os) : G p = some o := (i.os _ h).2.2.2
theorem Nr.loop (i : Nr H G τ m mo os) {d : Addr} (hd : H d = none) (td : τ d = none) (f : ∀ b u, b ≠ d → G b = some u → G' b = some u) (e : G' d = some o) (nd : m ≠ d) {os' : List (Addr × HO)} (h : ∀ q ∈ os', q.1 ≠ m ∧ ((q ∈ os ∧ q.1 ≠ d) ∨ q = (d, o))) : Nr H G' τ m mo os' := by
  refine ⟨⟨fun a t q => i.P.ty a t q, fun a t q => ?_, fun b u q1 q2 => ?_⟩, f _ _ nd i.at_, i.mH, i.mT, fun q hq => ?_⟩
  · obtain ⟨u, h1, h2⟩ := i.P.ok a t q
    exact ⟨u, f _ _ (fun z => by rw [z, td] at q; cases q) h1, h2⟩
  · obtain ⟨h1, h2⟩ := i.P.fr b u q1 q2
    exact ⟨f _ _ (fun z => by rw [z, hd] at q1; cases q1) h1, h2⟩
  · obtain ⟨h1, ⟨h2, h3⟩ | h2⟩ := h q hq
    · obtain ⟨a, b, c, d⟩ := i.os q h2
      exact ⟨a, b, c, f _ _ h3 d⟩
    · rw [h2] at h1 ⊢
      exact ⟨h1, hd, td, e⟩
end
theorem putA_same_keys {κ β : Type} [DecidableEq κ] {l : List (κ × β)} {k : κ} {v : β} (h : k ∈ l.map (·.1)) : (putA l k v).map (·.1) = l.map (·.1) := by rw [putA_keys, if_pos h]
theorem putA_len_same {κ β : Type} [DecidableEq κ] {l : List (κ × β)} {k : κ} {v : β} (h : k ∈ l.map (·.1)) : (putA l k v).length = l.length := by
  have := congrArg List.length (putA_same_keys (v := v) h)
  rwa [List.length_map, List.length_map] at this
theorem ok_rates {T : Tab} {cs : List Str} (ok : TabOk T cs) {c : Str} {v : Int} (hc : c ∈ T.rates.map (·.1)) (h0 : 0 ≤ v) (h1 : v ≤ 1000000000) : TabOk { T with rates := putA T.rates c v } cs := by
  have ek := putA_same_keys (v := v) hc
  refine ⟨ok.start, ⟨ok.homes.1, ok.homes.2.1, fun p hp => ?_⟩, ok.hnd, ⟨?_, ?_, fun p hp => ?_⟩, ?_, ok.snd, ok.srow, ok.full, ok.causes, ok.few⟩
  · obtain ⟨a, b, d⟩ := ok.homes.2.2 p hp
    exact ⟨a, b, by show p.2 ∈ (putA T.rates c v).map (·.1); rw [ek]; exact d⟩
  · show 1 ≤ (putA T.rates c v).length
    rw [putA_len_same hc]; exact ok.rates.1
  · show (putA T.rates c v).length ≤ 6
    rw [putA_len_same hc]; exact ok.rates.2.1
  · rcases putA_mem hp with ⟨z, _⟩ | z
    · exact ok.rates.2.2 p z
    · rw [z]
      obtain ⟨⟨c', r⟩, hm, e⟩ := List.mem_map.mp hc
      have e : c' = c := e
      rw [← e]
      exact ⟨(ok.rates.2.2 _ hm).1, h0, h1⟩
  · show ((putA T.rates c v).map (·.1)).Nodup
    rw [ek]; exact ok.rnd
theorem ok_homes {T : Tab} {cs : List Str} (ok : TabOk T cs) {s c : Str} (hs : s ∈ T.homes.map (·.1)) (hc : c ∈ T.rates.map (·.1)) : TabOk { T with homes := putA T.homes s c } cs := by
  have ek := putA_same_keys (v := c) hs
  have hcn : NameOk c := by
    obtain ⟨⟨c', r⟩, hm, e⟩ := List.mem_map.mp hc
    have e : c' = c := e
    rw [← e]
    exact (ok.rates.2.2 _ hm).1
  refine ⟨by show T.start ∈ (putA T.homes s c).map (·.1); rw [ek]; exact ok.start, ⟨?_, ?_, fun p hp => ?_⟩, by show ((putA T.homes s c).map (·.1)).Nodup; rw [ek]; exact ok.hnd, ok.rates, ok.rnd, ok.snd, fun e he => ?_, fun x hx => ?_, ok.causes, ok.few⟩
  · show 1 ≤ (putA T.homes s c).length
    rw [putA_len_same hs]; exact ok.homes.1
  · show (putA T.homes s c).length ≤ 8
    rw [putA_len_same hs]; exact ok.homes.2.1
  · rcases putA_mem hp with ⟨z, _⟩ | z
    · exact ok.homes.2.2 p z
    · rw [z]
      exact ⟨ok.name hs, hcn, hc⟩
  · show e.1.1 ∈ (putA T.homes s c).map (·.1) ∧ e.1.2 ∈ cs ∧ e.2.1 ∈ (putA T.homes s c).map (·.1)
    rw [ek]; exact ok.srow e he
  · have hx : x ∈ (putA T.homes s c).map (·.1) := hx
    rw [ek] at hx
    exact ok.full x hx
theorem ok_steps {T : Tab} {cs : List Str} (ok : TabOk T cs) {s c t : Str} {b : Bool} (hs : s ∈ T.homes.map (·.1)) (hc : c ∈ cs) (ht : t ∈ T.homes.map (·.1)) : TabOk { T with steps := putA T.steps (s, c) (t, b) } cs := by
  refine ⟨ok.start, ok.homes, ok.hnd, ok.rates, ok.rnd, putA_nodup ok.snd, fun e he => ?_, fun x hx y hy => ?_, ok.causes, ok.few⟩
  · rcases putA_mem he with ⟨z, _⟩ | z
    · exact ok.srow e z
    · rw [z]
      exact ⟨hs, hc, ht⟩
  · show ∃ r, getA (putA T.steps (s, c) (t, b)) (x, y) = some r
    rw [putA_get]
    split
    · exact ⟨_, rfl⟩
    · exact ok.full x hx y hy
section
variable {P : Program} {w : World} {K : PySem.W.Frag} {mg : Str → Option Value} {base : Heap}
theorem ok_law_changed {C : Addr} (T : Txt mg) (TC : Cls K C) (TA : TabNames K C) {f : Addr} {fd : FuncData} (F : C8.Def K mg "_law_changed" s__law_changed f fd) (b : Binds K fd ["script", "plan"] []) (c_law_draw : C8.Cal P w K mg base 1 "_law_draw" (sp__law_draw K) []) (c_law_pot : C8.Cal P w K mg base 1 "_law_pot" (sp__law_pot K) []) : C8.Cal P w K mg base 2 "_law_changed" (sp__law_changed K) [] := by
  refine C8.cal0 F b .nil sc__law_changed (fun vs H Q E h => ?_) (fun cdv A outer s H vs Q E hr h => ?_)
  · exact len__law_changed h
  · refine ⟨_, (pss_cons (ps_set (i := 2) sc__law_changed.nd rfl (by first | exact Or.inl rfl | exact Or.inr rfl) (C8.pe_c c_law_pot hr (by decide) (by rfl) (pa_cons (pv 0) (pa_cons pe_int pa_nil))))
  (pss_cons (ps_set (i := 3) sc__law_changed.nd rfl (by first | exact Or.inl rfl | exact Or.inr rfl) (pe_disp (pps_cons pe_str (pe_dget (hu_of hr) (pv 1) pe_str (fun _ _ => rfl)) (pps_cons pe_str (pe_callTy call_dictD (by rfl) T.n_dict (by decide +kernel) (pa_cons (pe_dget (hu_of hr) (pv 1) pe_str (fun _ _ => rfl)) pa_nil)) (pps_cons pe_str (pe_callTy call_dictD (by rfl) T.n_dict (by decide +kernel) (pa_cons (pe_dget (hu_of hr) (pv 1) pe_str (fun _ _ => rfl)) pa_nil)) pps_nil))) (by rfl) (by rfl) (fun z => by cases z) (by decide)))
  (pss_cons (ps_dput (hu_of hr) (pv 3) pe_str (pe_callTy call_list_of (by rfl) T.n_list (by decide +kernel) (pa_cons (pe_dget (hu_of hr) (pv 1) pe_str (fun _ _ => rfl)) pa_nil)) rfl)
  (pss_cons (ps_dput (hu_of hr) (pv 3) pe_str pe_dnewT rfl)
  (pss_cons (ps_set (i := 4) sc__law_changed.nd rfl (by first | exact Or.inl rfl | exact Or.inr rfl) (pe_dget (hu_of hr) (pv 3) pe_str (fun _ _ => rfl)))
  (pss_cons (ps_lock (ps_for PassesOwn.never rfl (pi_keys (pe_dget (hu_of hr) (pv 1) pe_str (fun _ _ => rfl))) (pg_name (i := 5) sc__law_changed.nd rfl (by first | exact Or.inl rfl | exact Or.inr rfl))
  (pss_one (ps_dput (hu_of hr) (pv 4) (pv 5) (pe_dget (hu_of hr) (pe_dget (hu_of hr) (pv 1) pe_str (fun _ _ => rfl)) (pv 5) (fun _ _ => rfl)) rfl))))
  (pss_cons (ps_set (i := 6) sc__law_changed.nd rfl (by first | exact Or.inl rfl | exact Or.inr rfl) (pe_callB cr_sortedS (by rfl) T.n_sorted (by decide +kernel) (pa_cons (pe_callTy (call_listD rfl) (by rfl) T.n_list (by decide +kernel) (pa_cons (pe_dget (hu_of hr) (pv 1) pe_str (fun _ _ => rfl)) pa_nil)) pa_nil)))
  (pss_cons (ps_set (i := 7) sc__law_changed.nd rfl (by first | exact Or.inl rfl | exact Or.inr rfl) (pe_callB cr_sortedS (by rfl) T.n_sorted (by decide +kernel) (pa_cons (pe_callTy (call_listD rfl) (by rfl) T.n_list (by decide +kernel) (pa_cons (pe_dget (hu_of hr) (pv 1) pe_str (fun _ _ => rfl)) pa_nil)) pa_nil)))
  (pss_cons (ps_set (i := 8) sc__law_changed.nd rfl (by first | exact Or.inl rfl | exact Or.inr rfl) (pe_ix ix_list (pv 6) (C8.pe_c c_law_draw hr (by decide) (by rfl) (pa_cons (pv 2) (pa_cons (pe_callB call_len_seq (by rfl) T.n_len (by decide +kernel) (pa_cons (pv 6) pa_nil)) pa_nil))) (fun _ _ => rfl)))
  (pss_cons (ps_set (i := 9) sc__law_changed.nd rfl (by first | exact Or.inl rfl | exact Or.inr rfl) (C8.pe_c c_law_draw hr (by decide) (by rfl) (pa_cons (pv 2) (pa_cons pe_int pa_nil))))
  (pss_cons (ps_if (pt_cmpR op_eq (pv 9) pe_int (nomark _))
  (pss_cons (ps_set (i := 10) sc__law_changed.nd rfl (by first | exact Or.inl rfl | exact Or.inr rfl) (pe_dget (hu_of hr) (pv 3) pe_str (fun _ _ => rfl)))
  (pss_cons (ps_set (i := 11) sc__law_changed.nd rfl (by first | exact Or.inl rfl | exact Or.inr rfl) (pe_ix ix_list (pv 7) (C8.pe_c c_law_draw hr (by decide) (by rfl) (pa_cons (pv 2) (pa_cons (pe_callB call_len_seq (by rfl) T.n_len (by decide +kernel) (pa_cons (pv 7) pa_nil)) pa_nil))) (fun _ _ => rfl)))
  (pss_one (ps_dput (hu_of hr) (pv 10) (pv 11) (pe_ifExp (pt_cmpR op_gt (pe_dget (hu_of hr) (pv 10) (pv 11) (fun _ _ => rfl)) pe_int (nomark _)) pe_int (pe_op op_add pe_int (C8.pe_c c_law_draw hr (by decide) (by rfl) (pa_cons (pv 2) (pa_cons pe_int pa_nil))))) rfl))))
  (pss_one (ps_if (pt_cmpR op_eq (pv 9) pe_int (nomark _))
  (pss_cons (ps_set (i := 12) sc__law_changed.nd rfl (by first | exact Or.inl rfl | exact Or.inr rfl) (pe_dget (hu_of hr) (pv 3) pe_str (fun _ _ => rfl)))
  (pss_one (ps_dput (hu_of hr) (pv 12) (pv 8) (pe_ix ix_list (pv 7) (C8.pe_c c_law_draw hr (by decide) (by rfl) (pa_cons (pv 2) (pa_cons (pe_callB call_len_seq (by rfl) T.n_len (by decide +kernel) (pa_cons (pv 7) pa_nil)) pa_nil))) (fun _ _ => rfl)) rfl)))
  (pss_one (ps_if (pt_cmpR op_gt (pe_callB call_len_seq (by rfl) T.n_len (by decide +kernel) (pa_cons (pe_dget (hu_of hr) (pv 3) pe_str (fun _ _ => rfl)) pa_nil)) pe_int (nomark _))
  (pss_cons (ps_set (i := 5) sc__law_changed.nd rfl (by first | exact Or.inl rfl | exact Or.inr rfl) (pe_tup (pa_cons (pv 8) (pa_cons (pe_ix ix_list (pe_dget (hu_of hr) (pv 3) pe_str (fun _ _ => rfl)) (C8.pe_c c_law_draw hr (by decide) (by rfl) (pa_cons (pv 2) (pa_cons (pe_callB call_len_seq (by rfl) T.n_len (by decide +kernel) (pa_cons (pe_dget (hu_of hr) (pv 3) pe_str (fun _ _ => rfl)) pa_nil)) pa_nil))) (fun _ _ => rfl)) pa_nil))))
  (pss_cons (ps_asg (pe_dget (hu_of hr) (pv 4) (pv 5) (fun _ _ => rfl)) (pg_tup rfl (pgs_cons (pg_name (i := 13) sc__law_changed.nd rfl (by first | exact Or.inl rfl | exact Or.inr rfl)) (pgs_cons (pg_name (i := 14) sc__law_changed.nd rfl (by first | exact Or.inl rfl | exact Or.inr rfl)) pgs_nil))))
  (pss_one (ps_if (pt_cmpR op_eq (pv 9) pe_int (nomark _))
  (pss_one (ps_dput (hu_of hr) (pv 4) (pv 5) (pe_tup (pa_cons (pv 13) (pa_cons (pe_not (pv 14)) pa_nil))) rfl))
  (pss_one (ps_dput (hu_of hr) (pv 4) (pv 5) (pe_tup (pa_cons (pe_ix ix_list (pv 6) (C8.pe_c c_law_draw hr (by decide) (by rfl) (pa_cons (pv 2) (pa_cons (pe_callB call_len_seq (by rfl) T.n_len (by decide +kernel) (pa_cons (pv 6) pa_nil)) pa_nil))) (fun _ _ => rfl)) (pa_cons (pv 14) pa_nil))) rfl))))))
  pss_nil)))))
  (pss_one (ps_ret (pv 3)))))))))))))), ?_⟩
    obtain ⟨a, ns, pl, T0, cs, rfl, hs, hn, hP, ok, q⟩ := h
    obtain ⟨kvs, d1, d2, d3, l, skv, h0, v1, v2, v3, v4, v5, h1, h2, h3, h4, h5⟩ := hP.ex
    have hh := ok.homes.2.1
    have hh1 := ok.homes.1
    have hr1 := ok.rates.1
    have hr6 := ok.rates.2.1
    have hsl := ok.steps_len
    walk_at "go"
    refine ⟨fun _ => none, a, ns, 7, rfl, hty0 H, .of hs, hn, by decide, by decide, fun τ H1 pt P1 tpt _ => ?_⟩
    walk_at "go"
    refine fun nr hnr => ?_
    have i0 : Nr H (upd H1 nr (.dK [])) τ nr (.dK []) [] := ⟨P1.new hnr, upd_same, P1.free hnr, P1.tfree hnr, fun q hq => nomatch hq⟩
    generalize upd H1 nr (.dK []) = G0 at i0 ⊢
    walk_at "go"
    refine ⟨pl, .str T0.start, rfl, .inl ⟨kvs, .inr "first", .inl (i0.P.same _ _ h0), rfl, v1.symm⟩, ?_⟩
    walk_at "go"
    refine ⟨pl, .ref d1, rfl, .inl ⟨kvs, .inr "homes", .inl (i0.P.same _ _ h0), rfl, v2.symm⟩, ?_⟩
    walk_at "go"
    refine ⟨d1, kvM V.str T0.homes, rfl, .inl (i0.P.same _ _ h1), fun e1 he1 => ?_⟩
    have i1 := i0.new (o := .dK (kvM V.str T0.homes)) he1
    generalize upd G0 e1 (.dK (kvM V.str T0.homes)) = G1 at i1 ⊢
    walk_at "go"
    refine ⟨pl, .ref d2, rfl, .inl ⟨kvs, .inr "rates", .inl (i1.P.same _ _ h0), rfl, v3.symm⟩, ?_⟩
    walk_at "go"
    refine ⟨d2, kvM V.int T0.rates, rfl, .inl (i1.P.same _ _ h2), fun e2 he2 => ?_⟩
    have i2 := i1.new (o := .dK (kvM V.int T0.rates)) he2
    have n12 : e1 ≠ e2 := ne_of_none (i1.get (p := e1) (o := .dK (kvM V.str T0.homes)) (by simp)) he2
    generalize upd G1 e2 (.dK (kvM V.int T0.rates)) = G2 at i2 ⊢
    walk_at "go"
    refine ⟨i2.at_, [(.inr "first", .str T0.start), (.inr "homes", .ref e1), (.inr "rates", .ref e2)], rfl, (by simp), ?_⟩
    rw [show mergeK [] [((.inr "first" : Key), V.str T0.start), (.inr "homes", .ref e1), (.inr "rates", .ref e2)] = [(.inr "first", V.str T0.start), (.inr "homes", .ref e1), (.inr "rates", .ref e2)] from merge_new (ns := ["first", "homes", "rates"]) (by decide +kernel) _ [] rfl]
    have i3 := i2.put (o := .dK [(.inr "first", .str T0.start), (.inr "homes", .ref e1), (.inr "rates", .ref e2)])
    generalize upd G2 nr (.dK [(.inr "first", .str T0.start), (.inr "homes", .ref e1), (.inr "rates", .ref e2)]) = G3 at i3 ⊢
    walk_at "go"
    refine ⟨pl, .ref l, rfl, .inl ⟨kvs, .inr "causes", .inl (i3.P.same _ _ h0), rfl, v5.symm⟩, ?_⟩
    walk_at "go"
    refine ⟨l, cs.map V.str, rfl, .inl (sq_of (i3.P.same _ _ h5)), fun lc hlc => ?_⟩
    have i4 := i3.new (o := .lst (cs.map V.str)) hlc
    generalize upd G3 lc (.lst (cs.map V.str)) = G4 at i4 ⊢
    walk_at "go"
    refine ⟨nr, _, rfl, .inl ⟨_, .inr "causes", i4.at_, rfl, small1000 (by simp), rfl⟩, ?_⟩
    rw [putK_new (ns := ["first", "homes", "rates"]) rfl (by decide +kernel)]
    have i5 := i4.put (o := .dK ([(.inr "first", .str T0.start), (.inr "homes", .ref e1), (.inr "rates", .ref e2)] ++ [(.inr "causes", .ref lc)]))
    generalize upd G4 nr (.dK ([(.inr "first", .str T0.start), (.inr "homes", .ref e1), (.inr "rates", .ref e2)] ++ [(.inr "causes", .ref lc)])) = G5 at i5 ⊢
    walk_at "go"
    refine fun ds hds => ?_
    have i6 := i5.new (o := .dT []) hds
    have nd1 : e1 ≠ ds := ne_of_none (i5.get (p := e1) (o := .dK (kvM V.str T0.homes)) (by simp)) hds
    have nd2 : e2 ≠ ds := ne_of_none (i5.get (p := e2) (o := .dK (kvM V.int T0.rates)) (by simp)) hds
    have nd3 : lc ≠ ds := ne_of_none (i5.get (p := lc) (o := .lst (cs.map V.str)) (by simp)) hds
    generalize upd G5 ds (.dT []) = G6 at i6 ⊢
    walk_at "go"
    refine ⟨nr, _, rfl, .inl ⟨_, .inr "steps", i6.at_, rfl, small1000 (by simp), rfl⟩, ?_⟩
    rw [putK_new (ns := ["first", "homes", "rates", "causes"]) rfl (by decide +kernel)]
    have i7 := i6.put (o := .dK (nearK T0.start e1 e2 lc ds))
    have kv1 := valV_at nearKs_nd (kvs := nearK T0.start e1 e2 lc ds) rfl (i := 0) rfl
    have kv2 := valV_at nearKs_nd (kvs := nearK T0.start e1 e2 lc ds) rfl (i := 1) rfl
    have kv3 := valV_at nearKs_nd (kvs := nearK T0.start e1 e2 lc ds) rfl (i := 2) rfl
    have kv5 := valV_at nearKs_nd (kvs := nearK T0.start e1 e2 lc ds) rfl (i := 3) rfl
    have kv4 := valV_at nearKs_nd (kvs := nearK T0.start e1 e2 lc ds) rfl (i := 4) rfl
    change tSeq _ _ _ _ (upd G6 nr (.dK (nearK T0.start e1 e2 lc ds)))
    generalize upd G6 nr (.dK (nearK T0.start e1 e2 lc ds)) = G7 at i7 ⊢
    clear i0 i1 i2 i3 i4 i5 i6
    walk_at "go"
    refine ⟨nr, .ref ds, rfl, .inl ⟨_, .inr "steps", .inl i7.at_, rfl, kv4.symm⟩, ?_⟩
    walk_at "go"
    have sH7 := i7.P.same
    obtain ⟨mds, Hds, tds, fds⟩ := i7.os (ds, .dT []) (by simp)
    have mds : ds ≠ nr := mds
    have Hds : H ds = none := Hds
    have tds : τ ds = none := tds
    have fds : G7 ds = some (.dT []) := fds
    have nd : ds ≠ d3 := fun z => by rw [z] at Hds; rw [Hds] at h3; cases h3
    have na : pl ≠ d3 := ne_of h0 h3 (fun z => nomatch z)
    have g3 := sH7 _ _ h3
    refine lockT g3 (fun od Q q => ⟨_, rfl, pl, .ref d3, rfl, .inl ⟨kvs, .inr "steps", .inl (by rw [upd_ne na]; exact sH7 _ _ h0), rfl, v4.symm⟩, q⟩) (fun od i σ' H' => (∃ v, σ' = [some (.ref a), some (.ref pl), some (.ref pt), some (.ref nr), some (.ref ds), v, none, none, none, none, none, none, none, none, none]) ∧
        (∀ b o, b ≠ ds → upd G7 d3 (.frz od (.dT skv)) b = some o → H' b = some o) ∧ ∃ kv2, H' ds = some (.dT kv2) ∧ StepsIs H kv2 (T0.steps.take i))
      (fun od => ⟨⟨_, rfl⟩, fun b o _ e => e, [], by rw [upd_ne nd]; exact fds, .nil⟩) (fun od i σ' H' p => p.2.1 _ _ nd.symm upd_same) ?_ ?_
    · rintro od i k v pq σ' H' hk hpq ⟨⟨v0, rfl⟩, fr, kv9, hD2, st2⟩
      have fz : H' d3 = some (.frz od (.dT skv)) := fr _ _ nd.symm upd_same
      have hpl' : H' pl = some (.dK kvs) := fr _ _ (fun z => by rw [z] at h0; rw [Hds] at h0; cases h0) (by rw [upd_ne na]; exact sH7 _ _ h0)
      obtain ⟨r, hr', z1, p, z2, z3⟩ := h4.at hk
      have z1 : k = [Sum.inr r.1.1, Sum.inr r.1.2] := z1
      have z2 : v = V.ref p := z2
      subst z1 z2
      have g1 := h4.get r.1
      rw [getA_of_mem ok.snd (show (r.1, r.2) ∈ T0.steps from List.mem_of_getElem? hr')] at g1
      obtain ⟨p5, g1, g2⟩ := g1
      have st3 := st2.put r.1 g2
      rw [putA_take ok.snd hr'] at st3
      walk_at "go"
      refine ⟨pl, .ref d3, rfl, .inl ⟨kvs, .inr "steps", .inl hpl', rfl, v4.symm⟩, ?_⟩
      walk_at "go"
      refine ⟨d3, .ref p5, rfl, .inr ⟨skv, skey r.1, pq, .inr ⟨od, fz⟩, rfl, hpq, g1.symm⟩, ?_⟩
      walk_at "go"
      refine ⟨ds, _, rfl, .inr ⟨kv9, skey r.1, pq, hD2, rfl, hpq, ?_, rfl⟩, ⟨_, rfl⟩, fun b o hb e => by rw [upd_ne hb]; exact fr b o hb e, _, upd_same, st3⟩
      have := st2.len
      rw [List.length_take] at this
      exact Nat.lt_of_lt_of_le (show kv9.length < 49 by omega) (by decide)
    · rintro od σ' H' ⟨⟨v0, rfl⟩, fr, kv9, hD2, st2⟩
      rw [show skv.length = T0.steps.length from h4.len, List.take_length] at st2
      have fr2 : ∀ b u, b ≠ ds → G7 b = some u → upd H' d3 (.dT skv) b = some u := fun b u hb e => by
        by_cases c : b = d3
        · subst c
          rw [upd_same, ← e, g3]
        · rw [upd_ne c]
          exact fr b u hb (by rw [upd_ne c]; exact e)
      have i8 : Nr H (upd H' d3 (.dT skv)) τ nr (.dK (nearK T0.start e1 e2 lc ds)) [(e1, .dK (kvM V.str T0.homes)), (e2, .dK (kvM V.int T0.rates)), (lc, .lst (cs.map V.str)), (ds, .dT kv9)] :=
        i7.loop Hds tds fr2 (by rw [upd_ne nd]; exact hD2) mds.symm fun q hq => by
          rcases List.mem_cons.mp hq with e | hq
          · rw [e]; exact ⟨(i7.os (e1, .dK (kvM V.str T0.homes)) (by simp)).1, .inl ⟨by simp, nd1⟩⟩
          · rcases List.mem_cons.mp hq with e | hq
            · rw [e]; exact ⟨(i7.os (e2, .dK (kvM V.int T0.rates)) (by simp)).1, .inl ⟨by simp, nd2⟩⟩
            · rcases List.mem_cons.mp hq with e | hq
              · rw [e]; exact ⟨(i7.os (lc, .lst (cs.map V.str)) (by simp)).1, .inl ⟨by simp, nd3⟩⟩
              · have e := List.mem_singleton.mp hq
                rw [e]; exact ⟨mds, .inr rfl⟩
      generalize upd H' d3 (.dT skv) = G8 at i8 ⊢
      clear i7 fr fr2 fds g3 hD2 sH7
      walk_at "go"
      refine ⟨pl, .ref d1, rfl, .inl ⟨kvs, .inr "homes", .inl (i8.P.same _ _ h0), rfl, v2.symm⟩, ?_⟩
      walk_at "go"
      refine ⟨d1, kvM V.str T0.homes, rfl, .inl (i8.P.same _ _ h1), fun l1 hl1 => ?_⟩
      rw [kvM_keys]
      have i9 := i8.new (o := .lst ((T0.homes.map (·.1)).map V.str)) hl1
      generalize upd G8 l1 (.lst ((T0.homes.map (·.1)).map V.str)) = G9 at i9 ⊢
      walk_at "go"
      refine ⟨l1, T0.homes.map (·.1), rfl, sq_of (i9.get (by simp)), by rw [List.length_map]; omega, fun nm ln hpn _ hln => ?_⟩
      have i10 := i9.new (o := .lst (nm.map V.str)) hln
      generalize upd G9 ln (.lst (nm.map V.str)) = G10 at i10 ⊢
      walk_at "go"
      refine ⟨pl, .ref d2, rfl, .inl ⟨kvs, .inr "rates", .inl (i10.P.same _ _ h0), rfl, v3.symm⟩, ?_⟩
      walk_at "go"
      refine ⟨d2, kvM V.int T0.rates, rfl, .inl (i10.P.same _ _ h2), fun l2 hl2 => ?_⟩
      rw [kvM_keys]
      have i11 := i10.new (o := .lst ((T0.rates.map (·.1)).map V.str)) hl2
      generalize upd G10 l2 (.lst ((T0.rates.map (·.1)).map V.str)) = G11 at i11 ⊢
      walk_at "go"
      refine ⟨l2, T0.rates.map (·.1), rfl, sq_of (i11.get (by simp)), by rw [List.length_map]; omega, fun cm lk hpk _ hlk => ?_⟩
      have i12 := i11.new (o := .lst (cm.map V.str)) hlk
      generalize upd G11 lk (.lst (cm.map V.str)) = G12 at i12 ⊢
      have hnl : nm.length = T0.homes.length := by rw [hpn.length_eq, List.length_map]
      have hkl : cm.length = T0.rates.length := by rw [hpk.length_eq, List.length_map]
      have hnm : ∀ x ∈ nm, x ∈ T0.homes.map (·.1) := fun x hx => hpn.mem_iff.mp hx
      have hkm : ∀ x ∈ cm, x ∈ T0.rates.map (·.1) := fun x hx => hpk.mem_iff.mp hx
      clear i8 i9 i10 i11
      walk_at "go"
      refine ⟨ln, _, rfl, .inl (sq_of (i12.get (o := .lst (nm.map V.str)) (by simp))), ?_⟩
      walk_at "go"
      rw [List.length_map]
      refine ⟨τ, pt, _, rfl, i12.P.ok, tpt, by omega, by omega, fun w1 G13 R13 w10 w11 => ?_⟩
      have i13 := i12.draw R13
      obtain ⟨s0, hs1, hs2⟩ := pickS (cs := nm) w10 (by omega)
      have hs0 := hnm _ hs2
      refine Rd.ixL (sq_of (i13.get (p := ln) (o := .lst (nm.map V.str)) (by simp))) hs1 ?_
      walk_at "go"
      refine ⟨τ, pt, 4, rfl, i13.P.ok, tpt, by decide, by decide, fun kind G14 R14 _ _ => ?_⟩
      have i14 := i13.draw R14
      clear i12 i13
      -- the end: a near plan at nr
      have fin : ∀ (G : Hp) (T1 : Tab), Same H G → G nr = some (.dK (nearK T0.start e1 e2 lc ds)) → T1.start = T0.start → G e1 = some (.dK (kvM V.str T1.homes)) → G e2 = some (.dK (kvM V.int T1.rates)) → (∃ kvz, G ds = some (.dT kvz) ∧ StepsIs G kvz T1.steps) → G lc = some (.lst (cs.map V.str)) → TabOk T1 cs → Q (.ref nr) G := fun G T1 sG g0 es ge1 ge2 ⟨kvz, ge3, st⟩ ge4 ok1 =>
        q G nr T1 cs sG ⟨nearK T0.start e1 e2 lc ds, e1, e2, ds, lc, kvz, g0, by rw [es]; exact kv1, kv2, kv3, kv4, kv5, ge1, ge2, ge3, st, ge4⟩ ok1
      have keep : ∀ {G : Hp} {os}, Nr H G τ nr (.dK (nearK T0.start e1 e2 lc ds)) os → (e1, .dK (kvM V.str T0.homes)) ∈ os → (e2, .dK (kvM V.int T0.rates)) ∈ os → (lc, .lst (cs.map V.str)) ∈ os → (ds, .dT kv9) ∈ os → Q (.ref nr) G := fun {G os} i m1 m2 m3 m4 =>
        fin G T0 i.P.same i.at_ rfl (i.get m1) (i.get m2) ⟨kv9, i.get m4, st2.mono fun p xs e => i.P.same _ _ e⟩ (i.get m3) ok
      walk_at "go"
      refine Rd.eq rfl ?_
      walk_at "go"
      refine Rd.itB (fun _ => ?_) (fun _ => ?_)
      · walk_at "go"
        refine ⟨nr, .ref e2, rfl, .inl ⟨_, .inr "rates", .inl i14.at_, rfl, kv3.symm⟩, ?_⟩
        walk_at "go"
        refine ⟨lk, _, rfl, .inl (sq_of (i14.get (o := .lst (cm.map V.str)) (by simp))), ?_⟩
        walk_at "go"
        rw [List.length_map]
        refine ⟨τ, pt, _, rfl, i14.P.ok, tpt, by omega, by omega, fun w1 G15 R15 w10 w11 => ?_⟩
        have i15 := i14.draw R15
        obtain ⟨c0, hc1, hc2⟩ := pickS (cs := cm) w10 (by omega)
        have hc0 := hkm _ hc2
        obtain ⟨r0, hr0⟩ := Option.isSome_iff_exists.mp (getA_isSome.mpr hc0)
        refine Rd.ixL (sq_of (i15.get (p := lk) (o := .lst (cm.map V.str)) (by simp))) hc1 ?_
        have last : ∀ (G : Hp) (v : Int), Nr H G τ nr (.dK (nearK T0.start e1 e2 lc ds)) [(e1, .dK (kvM V.str T0.homes)), (e2, .dK (kvM V.int T0.rates)), (lc, .lst (cs.map V.str)), (ds, .dT kv9)] → 0 ≤ v → v ≤ 1000000000 → Q (.ref nr) (upd G e2 (.dK (kvM V.int (putA T0.rates c0 v)))) := fun G v i z0 z1 => by
          obtain ⟨m2, H2, t2, f2⟩ := i.os (e2, .dK (kvM V.int T0.rates)) (by simp)
          have m2 : e2 ≠ nr := m2
          have f2 : G e2 = some (.dK (kvM V.int T0.rates)) := f2
          have f4 := i.get (p := ds) (o := .dT kv9) (by simp)
          have f3 := i.get (p := lc) (o := .lst (cs.map V.str)) (by simp)
          refine fin _ { T0 with rates := putA T0.rates c0 v } (same_mut i.P.same H2) (by rw [upd_ne m2.symm]; exact i.at_) rfl (by rw [upd_ne n12]; exact i.get (by simp)) upd_same ⟨kv9, by rw [upd_ne (ne_of f4 f2 (fun z => nomatch z))]; exact f4, st2.mono fun p xs e => ?_⟩ (by rw [upd_ne (ne_of f3 f2 (fun z => nomatch z))]; exact f3) (ok_rates ok hc0 z0 z1)
          have e3 := i.P.same _ _ e
          rw [upd_ne (ne_of e3 f2 (fun z => nomatch z))]
          exact e3
        have low : ∀ {G : Hp} {os}, Nr H G τ nr (.dK (nearK T0.start e1 e2 lc ds)) os → (∀ q ∈ [(e1, .dK (kvM V.str T0.homes)), (e2, .dK (kvM V.int T0.rates)), (lc, .lst (cs.map V.str)), (ds, HO.dT kv9)], q ∈ os) → Nr H G τ nr (.dK (nearK T0.start e1 e2 lc ds)) [(e1, .dK (kvM V.str T0.homes)), (e2, .dK (kvM V.int T0.rates)), (lc, .lst (cs.map V.str)), (ds, HO.dT kv9)] := fun i hh => ⟨i.P, i.at_, i.mH, i.mT, fun q hq => i.os q (hh q hq)⟩
        walk_at "go"
        refine ⟨e2, .int r0, rfl, .inl ⟨_, .inr c0, .inl (i15.get (o := .dK (kvM V.int T0.rates)) (by simp)), rfl, by rw [kvM_get, hr0]; rfl⟩, ?_⟩
        walk_at "go"
        refine Rd.itP (fun _ => ?_) (fun _ => ?_)
        · walk_at "go"
          refine ⟨e2, _, rfl, .inl ⟨_, .inr c0, i15.get (o := .dK (kvM V.int T0.rates)) (by simp), rfl, small1000 (by rw [kvM_len]; omega), rfl⟩, ?_⟩
          rw [show putK (kvM V.int T0.rates) (.inr c0) (.int 0) = kvM V.int (putA T0.rates c0 0) from kvM_put _ _ _ _]
          walk_at "go"
          exact last _ 0 (low i15 (by simp)) (Int.le_refl 0) (by decide)
        · walk_at "go"
          refine ⟨τ, pt, 50, rfl, i15.P.ok, tpt, by decide, by decide, fun w2 G16 R16 w20 w21 => ?_⟩
          have i16 := i15.draw R16
          walk_at "go"
          refine ⟨e2, _, rfl, .inl ⟨_, .inr c0, i16.get (o := .dK (kvM V.int T0.rates)) (by simp), rfl, small1000 (by rw [kvM_len]; omega), rfl⟩, ?_⟩
          rw [kvM_put]
          walk_at "go"
          exact last _ _ (low i16 (by simp)) (by omega) (by omega)
      · walk_at "go"
        refine Rd.eq rfl ?_
        walk_at "go"
        refine Rd.itB (fun _ => ?_) (fun _ => ?_)
        · walk_at "go"
          refine ⟨nr, .ref e1, rfl, .inl ⟨_, .inr "homes", .inl i14.at_, rfl, kv2.symm⟩, ?_⟩
          walk_at "go"
          refine ⟨lk, _, rfl, .inl (sq_of (i14.get (o := .lst (cm.map V.str)) (by simp))), ?_⟩
          walk_at "go"
          rw [List.length_map]
          refine ⟨τ, pt, _, rfl, i14.P.ok, tpt, by omega, by omega, fun w1 G15 R15 w10 w11 => ?_⟩
          have i15 := i14.draw R15
          obtain ⟨c0, hc1, hc2⟩ := pickS (cs := cm) w10 (by omega)
          have hc0 := hkm _ hc2
          refine Rd.ixL (sq_of (i15.get (p := lk) (o := .lst (cm.map V.str)) (by simp))) hc1 ?_
          walk_at "go"
          obtain ⟨m2, H2, t2, f2⟩ := i15.os (e1, .dK (kvM V.str T0.homes)) (by simp)
          have m2 : e1 ≠ nr := m2
          have f2 : G15 e1 = some (.dK (kvM V.str T0.homes)) := f2
          have f4 := i15.get (p := ds) (o := .dT kv9) (by simp)
          have f3 := i15.get (p := lc) (o := .lst (cs.map V.str)) (by simp)
          refine ⟨e1, _, rfl, .inl ⟨_, .inr s0, f2, rfl, small1000 (by rw [kvM_len]; omega), rfl⟩, ?_⟩
          rw [kvM_put]
          walk_at "go"
          refine fin _ { T0 with homes := putA T0.homes s0 c0 } (same_mut i15.P.same H2) (by rw [upd_ne m2.symm]; exact i15.at_) rfl upd_same (by rw [upd_ne n12.symm]; exact i15.get (by simp)) ⟨kv9, by rw [upd_ne (ne_of f4 f2 (fun z => nomatch z))]; exact f4, st2.mono fun p xs e => ?_⟩ (by rw [upd_ne (ne_of f3 f2 (fun z => nomatch z))]; exact f3) (ok_homes ok hs0 hc0)
          have e3 := i15.P.same _ _ e
          rw [upd_ne (ne_of e3 f2 (fun z => nomatch z))]
          exact e3
        · walk_at "go"
          refine ⟨nr, .ref lc, rfl, .inl ⟨_, .inr "causes", .inl i14.at_, rfl, kv5.symm⟩, ?_⟩
          walk_at "go"
          refine ⟨lc, _, rfl, .inl (sq_of (i14.get (o := .lst (cs.map V.str)) (by simp))), ?_⟩
          walk_at "go"
          rw [List.length_map]
          refine Rd.itP (fun hpos => ?_) (fun _ => ?_)
          · walk_at "go"
            refine ⟨nr, .ref lc, rfl, .inl ⟨_, .inr "causes", .inl i14.at_, rfl, kv5.symm⟩, ?_⟩
            walk_at "go"
            refine ⟨nr, .ref lc, rfl, .inl ⟨_, .inr "causes", .inl i14.at_, rfl, kv5.symm⟩, ?_⟩
            walk_at "go"
            refine ⟨lc, _, rfl, .inl (sq_of (i14.get (o := .lst (cs.map V.str)) (by simp))), ?_⟩
            walk_at "go"
            rw [List.length_map]
            have hfew := ok.few
            refine ⟨τ, pt, _, rfl, i14.P.ok, tpt, by omega, by omega, fun w1 G15 R15 w10 w11 => ?_⟩
            have i15 := i14.draw R15
            obtain ⟨c0, hc1, hc2⟩ := pickS (cs := cs) w10 (by omega)
            refine Rd.ixL (sq_of (i15.get (p := lc) (o := .lst (cs.map V.str)) (by simp))) hc1 ?_
            obtain ⟨⟨t, b⟩, hg⟩ := ok.full s0 hs0 c0 hc2
            have htm : t ∈ T0.homes.map (·.1) := (ok.srow _ (getA_mem hg)).2.2
            have g := st2.get (s0, c0)
            rw [hg] at g
            obtain ⟨p1, g1, k1⟩ := g
            walk_at "go"
            refine ⟨(by show 2 ≤ sizeLine; decide), fun ky hky => ?_⟩
            have i16 := i15.new (o := .tup [.str s0, .str c0]) hky
            generalize upd G15 ky (.tup [.str s0, .str c0]) = G16 at i16 ⊢
            have fky := i16.get (p := ky) (o := .tup [.str s0, .str c0]) (by simp)
            walk_at "go"
            refine ⟨ds, .ref p1, rfl, .inr ⟨kv9, skey (s0, c0), ky, .inl (i16.get (by simp)), rfl, fky, g1.symm⟩, ?_⟩
            walk_at "go"
            refine Rd.gtup (st_of (i16.P.same _ _ k1)) rfl ?_
            walk_at "go"
            have last : ∀ (G : Hp) (pn : Addr) (t' : Str) (b' : Bool), Nr H G τ nr (.dK (nearK T0.start e1 e2 lc ds)) [(e1, .dK (kvM V.str T0.homes)), (e2, .dK (kvM V.int T0.rates)), (lc, .lst (cs.map V.str)), (ds, .dT kv9)] → G pn = some (.tup [.str t', .bl b']) → t' ∈ T0.homes.map (·.1) → Q (.ref nr) (upd G ds (.dT (putK kv9 (skey (s0, c0)) (.ref pn)))) := fun G pn t' b' i hpn' ht' => by
              obtain ⟨m2, H2, t2, f2⟩ := i.os (ds, .dT kv9) (by simp)
              have m2 : ds ≠ nr := m2
              have f2 : G ds = some (.dT kv9) := f2
              have f1 := i.get (p := e1) (o := .dK (kvM V.str T0.homes)) (by simp)
              have fx := i.get (p := e2) (o := .dK (kvM V.int T0.rates)) (by simp)
              have f3 := i.get (p := lc) (o := .lst (cs.map V.str)) (by simp)
              have stG : StepsIs G kv9 T0.steps := st2.mono fun p xs e => i.P.same _ _ e
              refine fin _ { T0 with steps := putA T0.steps (s0, c0) (t', b') } (same_mut i.P.same H2) (by rw [upd_ne m2.symm]; exact i.at_) rfl (by rw [upd_ne (ne_of f1 f2 (fun z => nomatch z))]; exact f1) (by rw [upd_ne (ne_of fx f2 (fun z => nomatch z))]; exact fx) ⟨_, upd_same, (stG.put (s0, c0) hpn').mono fun p xs e => ?_⟩ (by rw [upd_ne (ne_of f3 f2 (fun z => nomatch z))]; exact f3) (ok_steps ok hs0 hc2 ht')
              rw [upd_ne (ne_of e f2 (fun z => nomatch z))]
              exact e
            have low : ∀ {G : Hp} {os}, Nr H G τ nr (.dK (nearK T0.start e1 e2 lc ds)) os → (∀ q ∈ [(e1, .dK (kvM V.str T0.homes)), (e2, .dK (kvM V.int T0.rates)), (lc, .lst (cs.map V.str)), (ds, HO.dT kv9)], q ∈ os) → Nr H G τ nr (.dK (nearK T0.start e1 e2 lc ds)) [(e1, .dK (kvM V.str T0.homes)), (e2, .dK (kvM V.int T0.rates)), (lc, .lst (cs.map V.str)), (ds, HO.dT kv9)] := fun i hh => ⟨i.P, i.at_, i.mH, i.mT, fun q hq => i.os q (hh q hq)⟩
            have hkl9 : kv9.length < sizeLine := by
              rw [st2.len]
              exact Nat.lt_of_lt_of_le (show T0.steps.length < 49 by omega) (by decide)
            refine Rd.eq rfl ?_
            walk_at "go"
            refine Rd.itB (fun _ => ?_) (fun _ => ?_)
            · walk_at "go"
              refine ⟨(by show 2 ≤ sizeLine; decide), fun pn hpn2 => ?_⟩
              have i17 := i16.new (o := .tup [.str t, .bl (!b)]) hpn2
              generalize upd G16 pn (.tup [.str t, .bl (!b)]) = G17 at i17 ⊢
              walk_at "go"
              refine ⟨ds, _, rfl, .inr ⟨kv9, skey (s0, c0), ky, i17.get (by simp), rfl, i17.get (o := .tup [.str s0, .str c0]) (by simp), hkl9, rfl⟩, ?_⟩
              walk_at "go"
              exact last _ pn t (!b) (low i17 (by simp)) (i17.get (by simp)) htm
            · walk_at "go"
              refine ⟨ln, _, rfl, .inl (sq_of (i16.get (o := .lst (nm.map V.str)) (by simp))), ?_⟩
              walk_at "go"
              rw [List.length_map]
              refine ⟨τ, pt, _, rfl, i16.P.ok, tpt, by omega, by omega, fun w2 G17 R17 w20 w21 => ?_⟩
              have i17 := i16.draw R17
              obtain ⟨t', ht1, ht2⟩ := pickS (cs := nm) w20 (by omega)
              refine Rd.ixL (sq_of (i17.get (p := ln) (o := .lst (nm.map V.str)) (by simp))) ht1 ?_
              walk_at "go"
              refine ⟨(by show 2 ≤ sizeLine; decide), fun pn hpn2 => ?_⟩
              have i18 := i17.new (o := .tup [.str t', .bl b]) hpn2
              generalize upd G17 pn (.tup [.str t', .bl b]) = G18 at i18 ⊢
              walk_at "go"
              refine ⟨ds, _, rfl, .inr ⟨kv9, skey (s0, c0), ky, i18.get (by simp), rfl, i18.get (o := .tup [.str s0, .str c0]) (by simp), hkl9, rfl⟩, ?_⟩
              walk_at "go"
              exact last _ pn t' b (low i18 (by simp)) (i18.get (by simp)) (hnm _ ht2)
          · walk_at "go"
            exact keep i14 (by simp) (by simp) (by simp) (by simp)
end

section
variable {P : Program} {w : World} {K : PySem.W.Frag} {mg : Str → Option Value} {base : Heap}
theorem ok_law_clashes (T : Txt mg) {f : Addr} {fd : FuncData} (F : C8.Def K mg "_law_clashes" s__law_clashes f fd) (b : Binds K fd ["plan", "status"] [])  : C8.Cal P w K mg base 1 "_law_clashes" (sp__law_clashes K) [] := by
  refine C8.cal0 F b .nil sc__law_clashes (fun vs H Q E h => ?_) (fun cdv A outer s H vs Q E hr h => ?_)
  · exact len__law_clashes h
  · refine ⟨_, (pss_cons (ps_set (i := 2) sc__law_clashes.nd rfl (by first | exact Or.inl rfl | exact Or.inr rfl) (pe_dget (hu_of hr) (pv 0) pe_str (fun _ _ => rfl)))
  (pss_cons (ps_for PassesOwn.never rfl (pi_list (pe_dget (hu_of hr) (pv 0) pe_str (fun _ _ => rfl))) (pg_name (i := 3) sc__law_clashes.nd rfl (by first | exact Or.inl rfl | exact Or.inr rfl))
  (pss_one (ps_for PassesOwn.never rfl (pi_list (pe_dget (hu_of hr) (pv 0) pe_str (fun _ _ => rfl))) (pg_name (i := 4) sc__law_clashes.nd rfl (by first | exact Or.inl rfl | exact Or.inr rfl))
  (pss_cons (ps_set (i := 5) sc__law_clashes.nd rfl (by first | exact Or.inl rfl | exact Or.inr rfl) (pe_ix ix_tup (pe_dget (hu_of hr) (pv 2) (pe_tup (pa_cons (pe_ix ix_tup (pe_dget (hu_of hr) (pv 2) (pe_tup (pa_cons (pv 1) (pa_cons (pv 4) pa_nil))) (fun _ _ => rfl)) pe_int (fun _ _ => rfl)) (pa_cons (pv 3) pa_nil))) (fun _ _ => rfl)) pe_int (fun _ _ => rfl)))
  (pss_cons (ps_set (i := 6) sc__law_clashes.nd rfl (by first | exact Or.inl rfl | exact Or.inr rfl) (pe_ix ix_tup (pe_dget (hu_of hr) (pv 2) (pe_tup (pa_cons (pe_ix ix_tup (pe_dget (hu_of hr) (pv 2) (pe_tup (pa_cons (pv 1) (pa_cons (pv 3) pa_nil))) (fun _ _ => rfl)) pe_int (fun _ _ => rfl)) (pa_cons (pv 4) pa_nil))) (fun _ _ => rfl)) pe_int (fun _ _ => rfl)))
  (pss_one (ps_if (pt_cmpR op_ne (pv 5) (pv 6) (nomark _))
  (pss_one (ps_ret pe_bl))
  pss_nil)))))))
  (pss_one (ps_ret pe_bl)))), ?_⟩
    obtain ⟨a, s0, T0, cs, rfl, hP, ok, hs, q⟩ := h
    obtain ⟨kvs, d1, d2, d3, l, skv, h0, v1, v2, v3, v4, v5, h1, h2, h3, h4, h5⟩ := hP.ex
    walk_at "go"
    refine ⟨a, .ref d3, rfl, .inl ⟨kvs, .inr "steps", .inl h0, rfl, v4.symm⟩, ?_⟩
    walk_at "go"
    refine (show tFor _ _ _ _ _ _ from ?_)
    refine Rd.dget ?_
    walk_at "go"
    refine ⟨a, .ref l, rfl, .inl ⟨kvs, .inr "causes", .inl h0, rfl, v5.symm⟩, ?_⟩
    refine ⟨l, rfl, ⟨_, sq_of h5⟩, ?_⟩
    refine for_list (xs := cs.map V.str) (fun i σ' H' => ∃ (v3 v4 v5 v6 : Option V), σ' = [some (.ref a), some (.str s0), some (.ref d3), v3, v4, v5, v6] ∧ Same H H' ∧ ∀ x ∈ cs.take i, ∀ y ∈ cs, T0.step (T0.step s0 y) x = T0.step (T0.step s0 x) y)
      ⟨_, _, _, _, rfl, Same.refl _, fun x hx => by rw [List.take_zero] at hx; nomatch hx⟩ (fun i σ' H' _ z => by
        obtain ⟨_, _, _, _, _, z, _⟩ := z
        exact sq_of (z _ _ h5)) ?_ ?_
    · rintro i x σ' H' hx ⟨v3, v4', v5', v6, rfl, s1, hA⟩
      rw [List.getElem?_map] at hx
      obtain ⟨c1, hc1, rfl⟩ := Option.map_eq_some_iff.mp hx
      have hc1m := List.mem_of_getElem? hc1
      walk_at "go"
      refine (show tFor _ _ _ _ _ _ from ?_)
      refine Rd.dget ?_
      walk_at "go"
      refine ⟨a, .ref l, rfl, .inl ⟨kvs, .inr "causes", .inl (s1 _ _ h0), rfl, v5.symm⟩, ?_⟩
      refine ⟨l, rfl, ⟨_, sq_of (s1 _ _ h5)⟩, ?_⟩
      refine for_list (xs := cs.map V.str) (fun j σ' H' => ∃ (v4 v5 v6 : Option V), σ' = [some (.ref a), some (.str s0), some (.ref d3), some (.str c1), v4, v5, v6] ∧ Same H H' ∧ ∀ y ∈ cs.take j, T0.step (T0.step s0 y) c1 = T0.step (T0.step s0 c1) y)
        ⟨_, _, _, rfl, s1, fun x hx => by rw [List.take_zero] at hx; nomatch hx⟩ (fun i σ' H' _ z => by
          obtain ⟨_, _, _, _, z, _⟩ := z
          exact sq_of (z _ _ h5)) ?_ ?_
      · rintro j x σ2 H2 hx ⟨v4', v5', v6, rfl, s2, hB⟩
        rw [List.getElem?_map] at hx
        obtain ⟨c2, hc2, rfl⟩ := Option.map_eq_some_iff.mp hx
        have hc2m := List.mem_of_getElem? hc2
        obtain ⟨p1, b1, g1, k1⟩ := plan_step ok h4 hs hc2m
        obtain ⟨p2, b2, g2, k2⟩ := plan_step ok h4 (ok.tgt hs hc2m) hc1m
        obtain ⟨p3, b3, g3, k3⟩ := plan_step ok h4 hs hc1m
        obtain ⟨p4, b4, g4, k4⟩ := plan_step ok h4 (ok.tgt hs hc1m) hc2m
        walk_at "go"
        refine ⟨(by show 2 ≤ sizeLine; decide), fun t1 ht1 => ?_⟩
        have s3 := s2.trans (same_new (o := .tup [.str s0, .str c2]) ht1)
        walk_at "go"
        refine ⟨d3, .ref p1, rfl, .inr ⟨skv, skey (s0, c2), t1, .inl (s3 _ _ h3), rfl, upd_same, g1⟩, ?_⟩
        walk_at "go"
        refine Rd.ixT (st_of (s3 _ _ k1)) (atI_nat (j := 0) rfl) ?_
        generalize upd H2 t1 (.tup [.str s0, .str c2]) = H3 at s3 ⊢
        walk_at "go"
        refine ⟨(by show 2 ≤ sizeLine; decide), fun t2 ht2 => ?_⟩
        have s4 := s3.trans (same_new (o := .tup [.str (T0.step s0 c2), .str c1]) ht2)
        walk_at "go"
        refine ⟨d3, .ref p2, rfl, .inr ⟨skv, skey (T0.step s0 c2, c1), t2, .inl (s4 _ _ h3), rfl, upd_same, g2⟩, ?_⟩
        walk_at "go"
        refine Rd.ixT (st_of (s4 _ _ k2)) (atI_nat (j := 0) rfl) ?_
        generalize upd H3 t2 (.tup [.str (T0.step s0 c2), .str c1]) = H4 at s4 ⊢
        walk_at "go"
        refine ⟨(by show 2 ≤ sizeLine; decide), fun t3 ht3 => ?_⟩
        have s5 := s4.trans (same_new (o := .tup [.str s0, .str c1]) ht3)
        walk_at "go"
        refine ⟨d3, .ref p3, rfl, .inr ⟨skv, skey (s0, c1), t3, .inl (s5 _ _ h3), rfl, upd_same, g3⟩, ?_⟩
        walk_at "go"
        refine Rd.ixT (st_of (s5 _ _ k3)) (atI_nat (j := 0) rfl) ?_
        generalize upd H4 t3 (.tup [.str s0, .str c1]) = H5 at s5 ⊢
        walk_at "go"
        refine ⟨(by show 2 ≤ sizeLine; decide), fun t4 ht4 => ?_⟩
        have s6 := s5.trans (same_new (o := .tup [.str (T0.step s0 c1), .str c2]) ht4)
        walk_at "go"
        refine ⟨d3, .ref p4, rfl, .inr ⟨skv, skey (T0.step s0 c1, c2), t4, .inl (s6 _ _ h3), rfl, upd_same, g4⟩, ?_⟩
        walk_at "go"
        refine Rd.ixT (st_of (s6 _ _ k4)) (atI_nat (j := 0) rfl) ?_
        generalize upd H5 t4 (.tup [.str (T0.step s0 c1), .str c2]) = H6 at s6 ⊢
        walk_at "go"
        refine Rd.ne rfl ?_
        walk_at "go"
        refine Rd.itNP (fun hne => ?_) (fun heq => ?_)
        · walk_at "go"
          exact q _ true s6 ⟨fun _ => ⟨c2, hc2m, c1, hc1m, fun z => hne (by rw [z])⟩, fun _ => rfl⟩
        · walk_at "go"
          refine ⟨_, _, _, rfl, s6, fun y hy => ?_⟩
          rw [List.take_add_one, hc2] at hy
          rcases List.mem_append.mp hy with hy | hy
          · exact hB y hy
          · have : y = c2 := by simpa using hy
            rw [this]
            exact V.str.inj heq
      · rintro σ2 H2 ⟨v4', v5', v6, rfl, s2, hB⟩
        rw [List.length_map, List.take_length] at hB
        refine ⟨_, _, _, _, rfl, s2, fun x hx y hy => ?_⟩
        rw [List.take_add_one, hc1] at hx
        rcases List.mem_append.mp hx with hx | hx
        · exact hA x hx y hy
        · have : x = c1 := by simpa using hx
          rw [this]
          exact hB y hy
    · rintro σ' H' ⟨v3, v4', v5', v6, rfl, s1, hA⟩
      rw [List.length_map, List.take_length] at hA
      walk_at "go"
      refine q _ false s1 ⟨(fun z => nomatch z), fun ⟨x, hx, y, hy, e⟩ => absurd (hA y hy x hx) e⟩
end

section
variable {P : Program} {w : World} {K : PySem.W.Frag} {mg : Str → Option Value} {base : Heap}
theorem ok_law_leaves (T : Txt mg) {f : Addr} {fd : FuncData} (F : C8.Def K mg "_law_leaves" s__law_leaves f fd) (b : Binds K fd ["plan", "status"] [])  : C8.Cal P w K mg base 1 "_law_leaves" (sp__law_leaves K) [] := by
  refine C8.cal0 F b .nil sc__law_leaves (fun vs H Q E h => ?_) (fun cdv A outer s H vs Q E hr h => ?_)
  · exact len__law_leaves h
  · refine ⟨_, (pss_cons (ps_set (i := 2) sc__law_leaves.nd rfl (by first | exact Or.inl rfl | exact Or.inr rfl) (pe_dget (hu_of hr) (pv 0) pe_str (fun _ _ => rfl)))
  (pss_cons (ps_for PassesOwn.never rfl (pi_list (pe_dget (hu_of hr) (pv 0) pe_str (fun _ _ => rfl))) (pg_name (i := 3) sc__law_leaves.nd rfl (by first | exact Or.inl rfl | exact Or.inr rfl))
  (pss_cons (ps_asg (pe_dget (hu_of hr) (pe_dget (hu_of hr) (pv 0) pe_str (fun _ _ => rfl)) (pe_tup (pa_cons (pv 1) (pa_cons (pv 3) pa_nil))) (fun _ _ => rfl)) (pg_tup rfl (pgs_cons (pg_name (i := 4) sc__law_leaves.nd rfl (by first | exact Or.inl rfl | exact Or.inr rfl)) (pgs_cons (pg_name (i := 5) sc__law_leaves.nd rfl (by first | exact Or.inl rfl | exact Or.inr rfl)) pgs_nil))))
  (pss_one (ps_if (PW.pt (pw_and (pt_not (pt_val (pv 5))) (pw_and1 (pt_cmpR op_ne (pe_dget (hu_of hr) (pv 2) (pv 4) (fun _ _ => rfl)) (pe_dget (hu_of hr) (pv 2) (pv 1) (fun _ _ => rfl)) (nomark _)))))
  (pss_one (ps_ret pe_bl))
  pss_nil))))
  (pss_one (ps_ret pe_bl)))), ?_⟩
    obtain ⟨a, s0, T0, cs, rfl, hP, ok, hs, q⟩ := h
    obtain ⟨kvs, d1, d2, d3, l, skv, h0, v1, v2, v3, v4, v5, h1, h2, h3, h4, h5⟩ := hP.ex
    walk_at "go"
    refine ⟨a, .ref d1, rfl, .inl ⟨kvs, .inr "homes", .inl h0, rfl, v2.symm⟩, ?_⟩
    walk_at "go"
    refine (show tFor _ _ _ _ _ _ from ?_)
    refine Rd.dget ?_
    walk_at "go"
    refine ⟨a, .ref l, rfl, .inl ⟨kvs, .inr "causes", .inl h0, rfl, v5.symm⟩, ?_⟩
    refine ⟨l, rfl, ⟨_, sq_of h5⟩, ?_⟩
    refine for_list (xs := cs.map V.str) (fun i σ' H' => ∃ (v3 v4 v5 : Option V), σ' = [some (.ref a), some (.str s0), some (.ref d1), v3, v4, v5] ∧ Same H H' ∧ ∀ c ∈ cs.take i, ∀ t, getA T0.steps (s0, c) = some (t, false) → T0.home t = T0.home s0)
      ⟨_, _, _, rfl, Same.refl _, fun x hx => by rw [List.take_zero] at hx; nomatch hx⟩ (fun i σ' H' _ z => by
        obtain ⟨_, _, _, _, z, _⟩ := z
        exact sq_of (z _ _ h5)) ?_ ?_
    · rintro i x σ' H' hx ⟨w3, w4, w5, rfl, s1, hA⟩
      rw [List.getElem?_map] at hx
      obtain ⟨c, hc, rfl⟩ := Option.map_eq_some_iff.mp hx
      have hcm := List.mem_of_getElem? hc
      have htk : cs.take (i + 1) = cs.take i ++ [c] := by rw [List.take_add_one, hc]; rfl
      obtain ⟨⟨t, b⟩, hg⟩ := ok.full s0 hs c hcm
      have htm : t ∈ T0.homes.map (·.1) := (ok.srow _ (getA_mem hg)).2.2
      have g := h4.get (s0, c)
      rw [hg] at g
      obtain ⟨p1, g1, k1⟩ := g
      have next : (∀ t, getA T0.steps (s0, c) = some (t, false) → T0.home t = T0.home s0) → ∀ c' ∈ cs.take (i + 1), ∀ t, getA T0.steps (s0, c') = some (t, false) → T0.home t = T0.home s0 := fun hh c' hc' => by
        rw [htk] at hc'
        rcases List.mem_append.mp hc' with z | z
        · exact hA c' z
        · have : c' = c := by simpa using z
          rw [this]
          exact hh
      walk_at "go"
      refine ⟨a, .ref d3, rfl, .inl ⟨kvs, .inr "steps", .inl (s1 _ _ h0), rfl, v4.symm⟩, ?_⟩
      walk_at "go"
      refine ⟨(by show 2 ≤ sizeLine; decide), fun t1 ht1 => ?_⟩
      have s3 := s1.trans (same_new (o := .tup [.str s0, .str c]) ht1)
      walk_at "go"
      refine ⟨d3, .ref p1, rfl, .inr ⟨skv, skey (s0, c), t1, .inl (s3 _ _ h3), rfl, upd_same, g1.symm⟩, ?_⟩
      generalize upd H' t1 (.tup [.str s0, .str c]) = H3 at s3 ⊢
      walk_at "go"
      refine Rd.gtup (st_of (s3 _ _ k1)) rfl ?_
      walk_at "go"
      cases b with
      | true =>
        refine Rd.itF ?_
        walk_at "go"
        exact ⟨_, _, _, rfl, s3, next fun t' ht' => by rw [hg] at ht'; cases ht'⟩
      | false =>
        refine Rd.itT ?_
        walk_at "go"
        refine ⟨d1, .str (T0.home t), rfl, .inl ⟨_, .inr t, .inl (s3 _ _ h1), rfl, by rw [kvM_get, ok.home htm]; rfl⟩, ?_⟩
        walk_at "go"
        refine ⟨d1, .str (T0.home s0), rfl, .inl ⟨_, .inr s0, .inl (s3 _ _ h1), rfl, by rw [kvM_get, ok.home hs]; rfl⟩, ?_⟩
        refine Rd.ne rfl ?_
        walk_at "go"
        refine Rd.itNP (fun hne => ?_) (fun heq => ?_)
        · walk_at "go"
          exact q _ true s3 ⟨fun _ => ⟨c, hcm, t, hg, fun z => hne (by rw [z])⟩, fun _ => rfl⟩
        · walk_at "go"
          exact ⟨_, _, _, rfl, s3, next fun t' ht' => by
            rw [hg] at ht'
            cases ht'
            exact V.str.inj heq⟩
    · rintro σ' H' ⟨w3, w4, w5, rfl, s1, hA⟩
      rw [List.length_map, List.take_length] at hA
      walk_at "go"
      exact q _ false s1 ⟨(fun z => nomatch z), fun ⟨c, hc, t, e1, e2⟩ => absurd (hA c hc t e1) e2⟩
end

structure LvInv (T : Tab) (cs : List Str) (k : Nat) (lv : List (Str × Int)) (xs : List Str) : Prop where
  nd : (lv.map (·.1)).Nodup
  sub : ∀ s d, (s, d) ∈ lv → ∃ n : Nat, d = n ∧ Dist T cs s n ∧ n ≤ k
  has : ∀ s (n : Nat), Dist T cs s n → n ≤ k → (s, (n : Int)) ∈ lv
  line : ∀ s, s ∈ xs ↔ Dist T cs s k
structure LvIn (T : Tab) (cs : List Str) (k : Nat) (lv : List (Str × Int)) (fs : List Str) : Prop where
  nd : (lv.map (·.1)).Nodup
  sub : ∀ s d, (s, d) ∈ lv → (∃ n : Nat, d = n ∧ Dist T cs s n ∧ n ≤ k) ∨ (d = (k : Int) + 1 ∧ s ∈ fs ∧ Dist T cs s (k + 1))
  has : ∀ s (n : Nat), Dist T cs s n → n ≤ k → (s, (n : Int)) ∈ lv
  fr : ∀ s, s ∈ fs → Dist T cs s (k + 1) ∧ (s, (k : Int) + 1) ∈ lv
  le : fs.length ≤ lv.length
theorem LvIn.len {T : Tab} {cs : List Str} (ok : TabOk T cs) {k : Nat} {lv : List (Str × Int)} {fs : List Str} (I : LvIn T cs k lv fs) : lv.length ≤ 8 := by
  have := I.nd.length_le_of_subset (fun x hx => by
    obtain ⟨⟨s, d⟩, hm, rfl⟩ := List.mem_map.mp hx
    rcases I.sub s d hm with ⟨n, _, h, _⟩ | ⟨_, _, h⟩
    · exact h.mem ok
    · exact h.mem ok)
  have hh := ok.homes.2.1
  rw [List.length_map, List.length_map] at this
  omega
theorem LvInv.len {T : Tab} {cs : List Str} (ok : TabOk T cs) {k : Nat} {lv : List (Str × Int)} {fs : List Str} (I : LvInv T cs k lv fs) : lv.length ≤ 8 := by
  have := I.nd.length_le_of_subset (fun x hx => by
    obtain ⟨⟨s, d⟩, hm, rfl⟩ := List.mem_map.mp hx
    obtain ⟨n, _, h, _⟩ := I.sub s d hm
    exact h.mem ok)
  have hh := ok.homes.2.1
  rw [List.length_map, List.length_map] at this
  omega
theorem LvIn.add {T : Tab} {cs : List Str} {k : Nat} {lv : List (Str × Int)} {fs : List Str} (I : LvIn T cs k lv fs) {s c : Str} (hs : Dist T cs s k) (hc : c ∈ cs) (hn : T.step s c ∉ lv.map (·.1)) :
    LvIn T cs k (lv ++ [(T.step s c, (k : Int) + 1)]) (fs ++ [T.step s c]) := by
  obtain ⟨d, h1, h2⟩ := hs.next hc
  have hd : d = k + 1 := by
    rcases Nat.lt_or_ge d (k + 1) with q | q
    · exact absurd (List.mem_map.mpr ⟨_, I.has _ d h2 (by omega), rfl⟩) hn
    · omega
  subst hd
  refine ⟨?_, fun x d hx => ?_, fun x n hx hle => List.mem_append_left _ (I.has x n hx hle), fun x hx => ?_, by rw [List.length_append, List.length_append]; have := I.le; simp; omega⟩
  · rw [List.map_append, List.nodup_append]
    refine ⟨I.nd, by simp, fun a ha b hb => ?_⟩
    have : b = T.step s c := by simpa using hb
    rw [this]
    exact fun e => hn (e ▸ ha)
  · rcases List.mem_append.mp hx with hx | hx
    · exact (I.sub x d hx).imp id fun ⟨a, b, c⟩ => ⟨a, List.mem_append_left _ b, c⟩
    · have : (x, d) = (T.step s c, (k : Int) + 1) := by simpa using hx
      cases this
      exact .inr ⟨rfl, List.mem_append_right _ (by simp), h2⟩
  · rcases List.mem_append.mp hx with hx | hx
    · exact ⟨(I.fr x hx).1, List.mem_append_left _ (I.fr x hx).2⟩
    · have : x = T.step s c := by simpa using hx
      rw [this]
      exact ⟨h2, List.mem_append_right _ (by simp)⟩
theorem LvIn.done {T : Tab} {cs : List Str} {k : Nat} {lv : List (Str × Int)} {fs xs : List Str} (I : LvIn T cs k lv fs) (hx : ∀ s, s ∈ xs ↔ Dist T cs s k) (hd : ∀ s ∈ xs, ∀ c ∈ cs, T.step s c ∈ lv.map (·.1)) : LvInv T cs (k + 1) lv fs := by
  have has : ∀ s (n : Nat), Dist T cs s n → n ≤ k + 1 → (s, (n : Int)) ∈ lv := fun s n h hle => by
    rcases Nat.lt_or_ge n (k + 1) with q | q
    · exact I.has s n h (by omega)
    · have : n = k + 1 := by omega
      subst this
      obtain ⟨s', c, h1, h2, h3⟩ := h.last
      have hk := hd s' ((hx s').mpr h1) c h2
      rw [h3] at hk
      obtain ⟨⟨s2, d⟩, hm, e⟩ := List.mem_map.mp hk
      have e : s2 = s := e
      subst e
      rcases I.sub s2 d hm with ⟨m, _, g, hle2⟩ | ⟨e, _, _⟩
      · have := g.uniq h
        omega
      · rw [e] at hm
        exact hm
  refine ⟨I.nd, fun s d hs => ?_, has, fun s => ⟨fun hs => (I.fr s hs).1, fun h => ?_⟩⟩
  · rcases I.sub s d hs with ⟨n, h1, h2, h3⟩ | ⟨h1, h2, h3⟩
    · exact ⟨n, h1, h2, by omega⟩
    · exact ⟨k + 1, h1, h3, Nat.le_refl _⟩
  · rcases I.sub _ _ (has s (k + 1) h (Nat.le_refl _)) with ⟨n, h1, h2, h3⟩ | ⟨h1, h2, h3⟩
    · have := h2.uniq h
      omega
    · exact h2
section
variable {P : Program} {w : World} {K : PySem.W.Frag} {mg : Str → Option Value} {base : Heap}
theorem ok_law_levels (T : Txt mg) {f : Addr} {fd : FuncData} (F : C8.Def K mg "_law_levels" s__law_levels f fd) (b : Binds K fd ["plan"] [])  : C8.Cal P w K mg base 1 "_law_levels" (sp__law_levels K) [] := by
  refine C8.cal0 F b .nil sc__law_levels (fun vs H Q E h => ?_) (fun cdv A outer s H vs Q E hr h => ?_)
  · exact len__law_levels h
  · refine ⟨_, (pss_cons (ps_set (i := 1) sc__law_levels.nd rfl (by first | exact Or.inl rfl | exact Or.inr rfl) (pe_disp (pps_cons (pe_dget (hu_of hr) (pv 0) pe_str (fun _ _ => rfl)) pe_int pps_nil) (by rfl) (by rfl) (fun z => by cases z) (by decide)))
  (pss_cons (ps_set (i := 2) sc__law_levels.nd rfl (by first | exact Or.inl rfl | exact Or.inr rfl) (pe_lst (pa_cons (pe_dget (hu_of hr) (pv 0) pe_str (fun _ _ => rfl)) pa_nil)))
  (pss_cons (ps_for PassesOwn.never rfl (pi_range1 (by rfl) T.n_range (pa_cons pe_int pa_nil)) (pg_name (i := 3) sc__law_levels.nd rfl (by first | exact Or.inl rfl | exact Or.inr rfl))
  (pss_cons (ps_set (i := 4) sc__law_levels.nd rfl (by first | exact Or.inl rfl | exact Or.inr rfl) (pe_lst pa_nil))
  (pss_cons (ps_for PassesOwn.never rfl (pi_list (pv 2)) (pg_name (i := 5) sc__law_levels.nd rfl (by first | exact Or.inl rfl | exact Or.inr rfl))
  (pss_one (ps_for PassesOwn.never rfl (pi_list (pe_dget (hu_of hr) (pv 0) pe_str (fun _ _ => rfl))) (pg_name (i := 6) sc__law_levels.nd rfl (by first | exact Or.inl rfl | exact Or.inr rfl))
  (pss_cons (ps_set (i := 7) sc__law_levels.nd rfl (by first | exact Or.inl rfl | exact Or.inr rfl) (pe_ix ix_tup (pe_dget (hu_of hr) (pe_dget (hu_of hr) (pv 0) pe_str (fun _ _ => rfl)) (pe_tup (pa_cons (pv 5) (pa_cons (pv 6) pa_nil))) (fun _ _ => rfl)) pe_int (fun _ _ => rfl)))
  (pss_one (ps_if (pt_cmp (pc_dnotin (hu_of hr) (pv 7) (pv 1)))
  (pss_cons (ps_dput (hu_of hr) (pv 1) (pv 7) (pe_op op_add (pv 3) pe_int) rfl)
  (pss_one (ps_expr (pe_bm PySem.F.plainAttrs_list PySem.F.slot_list_append PySem.F.type_list_append mt_append (pv 4) (pa_cons (pv 7) pa_nil)))))
  pss_nil))))))
  (pss_one (ps_set (i := 2) sc__law_levels.nd rfl (by first | exact Or.inl rfl | exact Or.inr rfl) (pv 4))))))
  (pss_one (ps_ret (pv 1)))))), ?_⟩
    obtain ⟨a, T0, cs, tcs, rfl, hP, ok, hcs, q⟩ := h
    obtain ⟨kvs, d1, d2, d3, l, skv, h0, v1, v2, v3, v4, v5, h1, h2, h3, h4, h5⟩ := hP.ex
    walk_at "go"
    refine fun fd hfd => ?_
    have sA : Same H (upd H fd (.dK [])) := same_new hfd
    walk_at "go"
    refine ⟨a, .str T0.start, rfl, .inl ⟨kvs, .inr "first", .inl (sA _ _ h0), rfl, v1.symm⟩, ?_⟩
    walk_at "go"
    refine ⟨upd_same, [(.inr T0.start, .int 0)], rfl, (by simp), ?_⟩
    have s1 : Same H (upd (upd H fd (.dK [])) fd (.dK (mergeK [] [(.inr T0.start, .int 0)]))) := same_mut sA hfd
    have f1 : upd (upd H fd (.dK [])) fd (.dK (mergeK [] [(.inr T0.start, .int 0)])) fd = some (.dK (kvM V.int [(T0.start, (0 : Int))])) := upd_same
    generalize upd (upd H fd (.dK [])) fd (.dK (mergeK [] [(.inr T0.start, .int 0)])) = G1 at s1 f1 ⊢
    clear sA
    walk_at "go"
    refine ⟨a, .str T0.start, rfl, .inl ⟨kvs, .inr "first", .inl (s1 _ _ h0), rfl, v1.symm⟩, ?_⟩
    walk_at "go"
    refine ⟨(by show 1 ≤ sizeLine; decide), fun ln0 hln0 => ?_⟩
    have s2 := s1.trans (same_new (o := .lst [.str T0.start]) hln0)
    have f2 : upd G1 ln0 (.lst [.str T0.start]) ln0 = some (.lst ([T0.start].map V.str)) := upd_same
    have f1 := (same_new (o := .lst [.str T0.start]) hln0) _ _ f1
    generalize upd G1 ln0 (.lst [.str T0.start]) = G2 at s2 f1 f2 ⊢
    have I0 : LvInv T0 cs 0 [(T0.start, (0 : Int))] [T0.start] := ⟨by simp, fun s d hs => by
      have : (s, d) = (T0.start, (0 : Int)) := by simpa using hs
      cases this
      exact ⟨0, rfl, Dist.start _ _, Nat.le_refl _⟩, fun s n h hle => by
        have : n = 0 := by omega
        subst this
        rw [h.zero]
        simp, fun s => ⟨fun hs => by
        have : s = T0.start := by simpa using hs
        rw [this]
        exact Dist.start _ _, fun h => by rw [h.zero]; simp⟩⟩
    walk_at "go"
    refine ⟨_, rfl, by decide, by decide, ?_⟩
    refine for_range (fun k σ' H' => ∃ (w3 w4 w5 w6 w7 : Option V) (ln : Addr) (lv : List (Str × Int)) (xs : List Str), σ' = [some (.ref a), some (.ref fd), some (.ref ln), w3, w4, w5, w6, w7] ∧ Same H H' ∧ H' fd = some (.dK (kvM V.int lv)) ∧ H' ln = some (.lst (xs.map V.str)) ∧ LvInv T0 cs k lv xs)
      ⟨_, _, _, _, _, ln0, _, _, rfl, s2, f1, f2, I0⟩ ?_ ?_
    · rintro k σ' H' hk ⟨w3, w4, w5, w6, w7, ln, lv, xs, rfl, sH, ffd, fln, I⟩
      have hI8 := I.len ok
      walk_at "go"
      refine ⟨(by show 0 ≤ sizeLine; decide), fun fr hfr => ?_⟩
      have nl1 : ln ≠ fr := ne_of_none fln hfr
      have nl2 : fd ≠ fr := ne_of_none ffd hfr
      have nl3 : fd ≠ ln := ne_of ffd fln (fun z => nomatch z)
      have Hfr := sH.free hfr
      have sN := same_new (o := .lst []) hfr
      have sH := sH.trans sN
      have ffd := sN _ _ ffd
      have fln := sN _ _ fln
      have ffr : upd H' fr (.lst []) fr = some (.lst (([] : List Str).map V.str)) := upd_same
      generalize upd H' fr (.lst []) = H3 at sH ffd fln ffr ⊢
      clear sN hfr
      walk_at "go"
      refine ⟨_, rfl, ln, rfl, ⟨_, sq_of fln⟩, ?_⟩
      refine for_list (xs := xs.map V.str) (fun i σ' H' => ∃ (w5 w6 w7 : Option V) (lv : List (Str × Int)) (fs : List Str), σ' = [some (.ref a), some (.ref fd), some (.ref ln), some (.int (0 + (k : Nat))), some (.ref fr), w5, w6, w7] ∧ Same H H' ∧ H' fd = some (.dK (kvM V.int lv)) ∧ H' ln = some (.lst (xs.map V.str)) ∧ H' fr = some (.lst (fs.map V.str)) ∧ LvIn T0 cs k lv fs ∧
          ∀ s ∈ xs.take i, ∀ c ∈ cs, T0.step s c ∈ lv.map (·.1))
        ⟨_, _, _, lv, [], rfl, sH, ffd, fln, ffr, ⟨I.nd, fun s d hs => .inl (I.sub s d hs), I.has, (fun s hs => nomatch hs), Nat.zero_le _⟩, fun s hs => by rw [List.take_zero] at hs; nomatch hs⟩ (fun i σ' H' _ z => by
          obtain ⟨_, _, _, _, _, _, _, _, z, _⟩ := z
          exact sq_of z) ?_ ?_
      · rintro i x σ4 H4 hx ⟨w5, w6, w7, lv, fs, rfl, sH, ffd, fln, ffr, J, hD⟩
        rw [List.getElem?_map] at hx
        obtain ⟨s0, hs0, rfl⟩ := Option.map_eq_some_iff.mp hx
        have hs0d := (I.line s0).mp (List.mem_of_getElem? hs0)
        have hs0h := hs0d.mem ok
        walk_at "go"
        refine (show tFor _ _ _ _ _ _ from ?_)
        refine Rd.dget ?_
        walk_at "go"
        refine ⟨a, .ref l, rfl, .inl ⟨kvs, .inr "causes", .inl (sH _ _ h0), rfl, v5.symm⟩, ?_⟩
        refine ⟨l, rfl, ⟨_, sq_of (sH _ _ h5)⟩, ?_⟩
        refine for_list (xs := cs.map V.str) (fun j σ' H' => ∃ (w6 w7 : Option V) (lv : List (Str × Int)) (fs : List Str), σ' = [some (.ref a), some (.ref fd), some (.ref ln), some (.int (0 + (k : Nat))), some (.ref fr), some (.str s0), w6, w7] ∧ Same H H' ∧ H' fd = some (.dK (kvM V.int lv)) ∧ H' ln = some (.lst (xs.map V.str)) ∧ H' fr = some (.lst (fs.map V.str)) ∧ LvIn T0 cs k lv fs ∧
            (∀ s ∈ xs.take i, ∀ c ∈ cs, T0.step s c ∈ lv.map (·.1)) ∧ ∀ c ∈ cs.take j, T0.step s0 c ∈ lv.map (·.1))
          ⟨_, _, lv, fs, rfl, sH, ffd, fln, ffr, J, hD, fun s hs => by rw [List.take_zero] at hs; nomatch hs⟩ (fun i σ' H' _ z => by
            obtain ⟨_, _, _, _, _, z, _⟩ := z
            exact sq_of (z _ _ h5)) ?_ ?_
        · rintro j x σ5 H5 hx ⟨w6, w7, lv, fs, rfl, sH, ffd, fln, ffr, J, hD, hE⟩
          rw [List.getElem?_map] at hx
          obtain ⟨c, hc, rfl⟩ := Option.map_eq_some_iff.mp hx
          have hcm := List.mem_of_getElem? hc
          have htk : cs.take (j + 1) = cs.take j ++ [c] := by rw [List.take_add_one, hc]; rfl
          obtain ⟨p1, b1, g1, k1⟩ := plan_step ok h4 hs0h hcm
          have hJ8 := J.len ok
          have hJl := J.le
          walk_at "go"
          refine ⟨a, .ref d3, rfl, .inl ⟨kvs, .inr "steps", .inl (sH _ _ h0), rfl, v4.symm⟩, ?_⟩
          walk_at "go"
          refine ⟨(by show 2 ≤ sizeLine; decide), fun t1 ht1 => ?_⟩
          have sN := same_new (o := .tup [.str s0, .str c]) ht1
          have sH := sH.trans sN
          have ffd := sN _ _ ffd
          have fln := sN _ _ fln
          have ffr := sN _ _ ffr
          walk_at "go"
          refine ⟨d3, .ref p1, rfl, .inr ⟨skv, skey (s0, c), t1, .inl (sH _ _ h3), rfl, upd_same, g1⟩, ?_⟩
          generalize upd H5 t1 (.tup [.str s0, .str c]) = H6 at sH ffd fln ffr ⊢
          clear sN ht1
          walk_at "go"
          refine Rd.ixT (st_of (sH _ _ k1)) (atI_nat (j := 0) rfl) ?_
          walk_at "go"
          refine ⟨fd, _, rfl, .inl ⟨_, .inr (T0.step s0 c), .inl ffd, rfl, rfl⟩, ?_⟩
          rw [kvM_get, Option.isSome_map]
          have eS : (getA lv (T0.step s0 c)).isSome = decide (T0.step s0 c ∈ lv.map (·.1)) := by
            by_cases hm : T0.step s0 c ∈ lv.map (·.1)
            · rw [decide_eq_true hm]; exact getA_isSome.mpr hm
            · rw [decide_eq_false hm, getA_none.mpr hm]; rfl
          rw [eS]
          walk_at "go"
          refine Rd.itNP (fun hnin => ?_) (fun hin => ?_)
          · have ek : (0 : Int) + (k : Nat) + 1 = (k : Int) + 1 := by omega
            walk_at "go"
            rw [ek]
            refine ⟨fd, _, rfl, .inl ⟨_, .inr (T0.step s0 c), ffd, rfl, small1000 (by rw [kvM_len]; omega), rfl⟩, ?_⟩
            rw [kvM_put, putA_new hnin]
            have n1 : fr ≠ fd := nl2.symm
            have n2 : ln ≠ fd := nl3.symm
            have sM := same_mut (o := .dK (kvM V.int (lv ++ [(T0.step s0 c, (k : Int) + 1)]))) sH hfd
            have g1 : upd H6 fd (.dK (kvM V.int (lv ++ [(T0.step s0 c, (k : Int) + 1)]))) fd = some (.dK (kvM V.int (lv ++ [(T0.step s0 c, (k : Int) + 1)]))) := upd_same
            have g2 : upd H6 fd (.dK (kvM V.int (lv ++ [(T0.step s0 c, (k : Int) + 1)]))) fr = some (.lst (fs.map V.str)) := by rw [upd_ne n1]; exact ffr
            have g3 : upd H6 fd (.dK (kvM V.int (lv ++ [(T0.step s0 c, (k : Int) + 1)]))) ln = some (.lst (xs.map V.str)) := by rw [upd_ne n2]; exact fln
            generalize upd H6 fd (.dK (kvM V.int (lv ++ [(T0.step s0 c, (k : Int) + 1)]))) = H7 at sM g1 g2 g3 ⊢
            walk_at "go"
            refine ⟨.inl ⟨rfl, _, sq_of g2⟩, ?_⟩
            walk_at "go"
            refine ⟨fr, _, _, rfl, rfl, g2, small1000 (by rw [List.length_map]; omega), ?_⟩
            have keep : ∀ x, x ∈ lv.map (·.1) → x ∈ (lv ++ [(T0.step s0 c, (k : Int) + 1)]).map (·.1) := fun x hx => by rw [List.map_append]; exact List.mem_append_left _ hx
            refine ⟨_, _, lv ++ [(T0.step s0 c, (k : Int) + 1)], fs ++ [T0.step s0 c], rfl, same_mut sM Hfr, by rw [upd_ne nl2]; exact g1, by rw [upd_ne nl1]; exact g3, by rw [upd_same, List.map_append]; rfl, J.add hs0d hcm hnin, fun s hs c hc => keep _ (hD s hs c hc), fun c' hc' => ?_⟩
            rw [htk] at hc'
            rcases List.mem_append.mp hc' with z | z
            · exact keep _ (hE c' z)
            · have : c' = c := by simpa using z
              rw [this, List.map_append]
              exact List.mem_append_right _ (by simp)
          · walk_at "go"
            refine ⟨_, _, lv, fs, rfl, sH, ffd, fln, ffr, J, hD, fun c' hc' => ?_⟩
            rw [htk] at hc'
            rcases List.mem_append.mp hc' with z | z
            · exact hE c' z
            · have : c' = c := by simpa using z
              rw [this]
              exact hin
        · rintro σ5 H5 ⟨w6, w7, lv, fs, rfl, sH, ffd, fln, ffr, J, hD, hE⟩
          rw [List.length_map, List.take_length] at hE
          refine ⟨_, _, _, lv, fs, rfl, sH, ffd, fln, ffr, J, fun s hs c hc => ?_⟩
          rw [List.take_add_one, hs0] at hs
          rcases List.mem_append.mp hs with z | z
          · exact hD s z c hc
          · have : s = s0 := by simpa using z
            rw [this]
            exact hE c hc
      · rintro σ4 H4 ⟨w5, w6, w7, lv, fs, rfl, sH, ffd, fln, ffr, J, hD⟩
        rw [List.length_map, List.take_length] at hD
        walk_at "go"
        exact ⟨_, _, _, _, _, fr, lv, fs, rfl, sH, ffd, ffr, J.done I.line hD⟩
    · rintro σ' H' ⟨w3, w4, w5, w6, w7, ln, lv, xs, rfl, sH, ffd, fln, I⟩
      have hI8 := I.len ok
      walk_at "go"
      refine q H' fd lv sH hfd ffd I.nd (fun s d => ⟨fun hs => ?_, fun ⟨n, e, hd⟩ => ?_⟩) hI8
      · obtain ⟨n, h1, h2, _⟩ := I.sub s d hs
        exact ⟨n, h1, h2⟩
      · have FF := found_facts ok hcs
        have hF8 := Found.le8 ok FF
        obtain ⟨w, hw, hwl⟩ := Found.has FF (hd.congr fun c => (hcs.mem c).symm)
        have := FF.lens _ hw
        have hw2 : w.length < (found T0 tcs).length := this
        rw [e]
        exact I.has s n hd (by show n ≤ 8; omega)
end

section
variable {P : Program} {w : World} {K : PySem.W.Frag} {mg : Str → Option Value} {base : Heap}
theorem ok_law_due {C : Addr} (T : Txt mg) (TC : Cls K C) (TA : TabNames K C) {f : Addr} {fd : FuncData} (F : C8.Def K mg "_law_due" s__law_due f fd) (b : Binds K fd ["plan", "word"] []) (c_law_clashes : C8.Cal P w K mg base 1 "_law_clashes" (sp__law_clashes K) []) (c_law_leaves : C8.Cal P w K mg base 1 "_law_leaves" (sp__law_leaves K) []) (c_law_levels : C8.Cal P w K mg base 1 "_law_levels" (sp__law_levels K) []) : C8.Cal P w K mg base 2 "_law_due" (sp__law_due K) [] := by
  refine C8.cal0 F b .nil sc__law_due (fun vs H Q E h => ?_) (fun cdv A outer s H vs Q E hr h => ?_)
  · exact len__law_due h
  · refine ⟨_, (pss_cons (ps_set (i := 2) sc__law_due.nd rfl (by first | exact Or.inl rfl | exact Or.inr rfl) (C8.pe_c c_law_levels hr (by decide) (by rfl) (pa_cons (pv 0) pa_nil)))
  (pss_cons (ps_set (i := 3) sc__law_due.nd rfl (by first | exact Or.inl rfl | exact Or.inr rfl) (pe_lst pa_nil))
  (pss_cons (ps_lock (ps_for PassesOwn.never rfl (pi_keys (pv 2)) (pg_name (i := 4) sc__law_due.nd rfl (by first | exact Or.inl rfl | exact Or.inr rfl))
  (pss_cons (ps_set (i := 5) sc__law_due.nd rfl (by first | exact Or.inl rfl | exact Or.inr rfl) (pe_dget (hu_of hr) (pv 2) (pv 4) (fun _ _ => rfl)))
  (pss_cons (ps_if (pt_val (C8.pe_c c_law_clashes hr (by decide) (by rfl) (pa_cons (pv 0) (pa_cons (pv 4) pa_nil))))
  (pss_one (ps_expr (pe_bm PySem.F.plainAttrs_list PySem.F.slot_list_append PySem.F.type_list_append mt_append (pv 3) (pa_cons (pe_op op_add (pv 5) pe_int) pa_nil))))
  pss_nil)
  (pss_cons (ps_if (PW.pt (pw_and (pt_cmpR op_eq (pv 1) pe_str (nomark _)) (pw_and1 (pt_val (C8.pe_c c_law_leaves hr (by decide) (by rfl) (pa_cons (pv 0) (pa_cons (pv 4) pa_nil)))))))
  (pss_one (ps_expr (pe_bm PySem.F.plainAttrs_list PySem.F.slot_list_append PySem.F.type_list_append mt_append (pv 3) (pa_cons (pe_op op_add (pe_callB (call_max2 rfl) (by rfl) T.n_max (by decide +kernel) (pa_cons pe_int (pa_cons (pv 5) pa_nil))) pe_int) pa_nil))))
  pss_nil)
  (pss_one (ps_if (PW.pt (pw_and (pt_cmpR op_eq (pv 1) pe_str (nomark _)) (pw_and1 (pt_cmpR op_eq (pe_dget (hu_of hr) (pe_dget (hu_of hr) (pv 0) pe_str (fun _ _ => rfl)) (pe_dget (hu_of hr) (pe_dget (hu_of hr) (pv 0) pe_str (fun _ _ => rfl)) (pv 4) (fun _ _ => rfl)) (fun _ _ => rfl)) pe_int (nomark _)))))
  (pss_one (ps_expr (pe_bm PySem.F.plainAttrs_list PySem.F.slot_list_append PySem.F.type_list_append mt_append (pv 3) (pa_cons (pe_callB (call_max2 rfl) (by rfl) T.n_max (by decide +kernel) (pa_cons pe_int (pa_cons (pv 5) pa_nil))) pa_nil))))
  pss_nil)))))))
  (pss_one (ps_ret (pe_ifExp (pt_cmpR op_gt (pe_callB call_len_seq (by rfl) T.n_len (by decide +kernel) (pa_cons (pv 3) pa_nil)) pe_int (nomark _)) (pe_callB (cr_min rfl) (by rfl) T.n_min (by decide +kernel) (pa_cons (pv 3) pa_nil)) pe_non)))))), ?_⟩
    obtain ⟨a, over, T0, cs, tcs, rfl, hP, ok, hcs, hov, q⟩ := h
    obtain ⟨kvs, d1, d2, d3, l, skv, h0, v1, v2, v3, v4, v5, h1, h2, h3, h4, h5⟩ := hP.ex
    walk_at "go"
    refine ⟨a, T0, cs, tcs, rfl, hP, ok, hcs, fun H1 la lv s1 hla ela hnd hmem hl8 => ?_⟩
    walk_at "go"
    refine ⟨(by show 0 ≤ sizeLine; decide), fun nl hnl => ?_⟩
    have nll : la ≠ nl := ne_of_none ela hnl
    have s2 := s1.trans (same_new (o := .lst []) hnl)
    have f2 : upd H1 nl (.lst []) nl = some (.lst (([] : List Int).map V.int)) := upd_same
    have ela := (same_new (o := .lst []) hnl) _ _ ela
    have Hnl := s1.free hnl
    generalize upd H1 nl (.lst []) = G1 at s2 f2 ela ⊢
    let M : (Str × Int) → Int → Prop := fun p n => (Clash T0 cs p.1 ∧ n = p.2 + 2) ∨ (over = "stretch" ∧ Leaves T0 cs p.1 ∧ n = mx 1 p.2 + 1) ∨ (over = "runs" ∧ Rate0 T0 p.1 ∧ n = mx 2 p.2)
    walk_at "go"
    refine lockK ela (fun od Q q => ⟨_, rfl, q⟩) (fun od i σ' H' => ∃ (w4 w5 : Option V) (ns : List Int), σ' = [some (.ref a), some (.str over), some (.ref la), some (.ref nl), w4, w5] ∧ Same H H' ∧ H' la = some (.frz od (.dK (kvM V.int lv))) ∧ H' nl = some (.lst (ns.map V.int)) ∧ (∀ n, n ∈ ns ↔ ∃ p ∈ lv.take i, M p n) ∧ ns.length ≤ 3 * i)
      (fun od => ⟨_, _, [], rfl, same_mut s2 hla, upd_same, by rw [upd_ne nll.symm]; exact f2, fun n => by simp, Nat.le_refl _⟩) (fun od i σ' H' z => by
        obtain ⟨_, _, _, _, _, z, _⟩ := z
        exact z) ?_ ?_
    · rintro od i k v σ' H' hk ⟨w4, w5, ns, rfl, sH, fz, fn, hN, hl⟩
      have hkv : (kvM V.int lv)[i]? = some (k, v) := hk
      unfold kvM at hkv
      rw [List.getElem?_map] at hkv
      obtain ⟨⟨s0, d0⟩, hp, e⟩ := Option.map_eq_some_iff.mp hkv
      cases e
      have hpm := List.mem_of_getElem? hp
      have hi8 := (List.getElem?_eq_some_iff.mp hp).1
      obtain ⟨n0, hn0, hd0⟩ := (hmem s0 d0).mp hpm
      have hs0 := hd0.mem ok
      have htk : lv.take (i + 1) = lv.take i ++ [(s0, d0)] := by rw [List.take_add_one, hp]; rfl
      walk_at "go"
      refine ⟨la, .int d0, rfl, .inl ⟨_, .inr s0, .inr ⟨od, fz⟩, rfl, by rw [kvM_get, getA_of_mem hnd hpm]; rfl⟩, ?_⟩
      refine Rd.gname ?_
      dsimp only
      refine Rd.seqR (fun σ' H' => ∃ (ns' : List Int), σ' = [some (.ref a), some (.str over), some (.ref la), some (.ref nl), some (.str s0), some (.int d0)] ∧ Same H H' ∧ H' la = some (.frz od (.dK (kvM V.int lv))) ∧ H' nl = some (.lst (ns'.map V.int)) ∧ (∀ n, n ∈ ns' ↔ n ∈ ns ∨ (Clash T0 cs s0 ∧ n = d0 + 2)) ∧ ns'.length ≤ 3 * i + 1) (fun NX kk => ?_) ?_
      · walk_at "go"
        refine ⟨a, s0, T0, cs, rfl, hP.mono sH, ok, hs0, fun H2 b s3 hb => ?_⟩
        walk_at "go"
        refine Rd.itB (fun eb => ?_) (fun eb => ?_)
        · walk_at "go"
          refine ⟨.inl ⟨rfl, _, sq_of (s3 _ _ fn)⟩, ?_⟩
          walk_at "go"
          refine ⟨nl, _, _, rfl, rfl, s3 _ _ fn, small1000 (by rw [List.length_map]; omega), ?_⟩
          refine kk _ _ ⟨ns ++ [d0 + 2], rfl, same_mut (sH.trans s3) Hnl, by rw [upd_ne nll]; exact s3 _ _ fz, by rw [upd_same, List.map_append]; rfl, fun n => ?_, by rw [List.length_append, List.length_singleton]; omega⟩
          rw [List.mem_append, List.mem_singleton]
          exact ⟨fun z => z.imp id fun z => ⟨hb.mp eb, z⟩, fun z => z.imp id fun z => z.2⟩
        · walk_at "go"
          refine kk _ _ ⟨ns, rfl, sH.trans s3, s3 _ _ fz, s3 _ _ fn, fun n => ⟨.inl, fun z => z.elim id fun z => ?_⟩, by omega⟩
          rw [hb.mpr z.1] at eb
          cases eb
      clear fz fn sH
      rintro σ' H' ⟨ns1, rfl, sH, fz, fn, hN1, hl1⟩
      refine Rd.seqR (fun σ' H' => ∃ (ns' : List Int), σ' = [some (.ref a), some (.str over), some (.ref la), some (.ref nl), some (.str s0), some (.int d0)] ∧ Same H H' ∧ H' la = some (.frz od (.dK (kvM V.int lv))) ∧ H' nl = some (.lst (ns'.map V.int)) ∧ (∀ n, n ∈ ns' ↔ n ∈ ns1 ∨ (over = "stretch" ∧ Leaves T0 cs s0 ∧ n = mx 1 d0 + 1)) ∧ ns'.length ≤ 3 * i + 2) (fun NX kk => ?_) ?_
      · walk_at "go"
        refine Rd.eq rfl ?_
        walk_at "go"
        refine Rd.itP (fun ho => ?_) (fun ho => ?_)
        · have ho : over = "stretch" := V.str.inj ho
          walk_at "go"
          refine ⟨a, s0, T0, cs, rfl, hP.mono sH, ok, hs0, fun H2 b s3 hb => ?_⟩
          walk_at "go"
          refine Rd.itB (fun eb => ?_) (fun eb => ?_)
          · walk_at "go"
            refine ⟨.inl ⟨rfl, _, sq_of (s3 _ _ fn)⟩, ?_⟩
            walk_at "go"
            refine ⟨_, _, rfl, ?_⟩
            walk_at "go"
            refine ⟨nl, _, _, rfl, rfl, s3 _ _ fn, small1000 (by rw [List.length_map]; omega), ?_⟩
            refine kk _ _ ⟨ns1 ++ [mx 1 d0 + 1], rfl, same_mut (sH.trans s3) Hnl, by rw [upd_ne nll]; exact s3 _ _ fz, by rw [upd_same, List.map_append]; rfl, fun n => ?_, by rw [List.length_append, List.length_singleton]; omega⟩
            rw [List.mem_append, List.mem_singleton]
            exact ⟨fun z => z.imp id fun z => ⟨ho, hb.mp eb, z⟩, fun z => z.imp id fun z => z.2.2⟩
          · walk_at "go"
            refine kk _ _ ⟨ns1, rfl, sH.trans s3, s3 _ _ fz, s3 _ _ fn, fun n => ⟨.inl, fun z => z.elim id fun z => ?_⟩, by omega⟩
            rw [hb.mpr z.2.1] at eb
            cases eb
        · walk_at "go"
          exact kk _ _ ⟨ns1, rfl, sH, fz, fn, fun n => ⟨.inl, fun z => z.elim id fun z => absurd (by rw [z.1]) ho⟩, by omega⟩
      clear fz fn sH
      rintro σ' H' ⟨ns2, rfl, sH, fz, fn, hN2, hl2⟩
      have fin : ∀ ns3 : List Int, (∀ n, n ∈ ns3 ↔ n ∈ ns2 ∨ (over = "runs" ∧ Rate0 T0 s0 ∧ n = mx 2 d0)) → ∀ n, n ∈ ns3 ↔ ∃ p ∈ lv.take (i + 1), M p n := fun ns3 h3 n => by
        rw [h3 n, hN2 n, hN1 n, hN n, htk]
        constructor
        · rintro (((⟨p, hp, m⟩ | z) | z) | z)
          · exact ⟨p, List.mem_append_left _ hp, m⟩
          · exact ⟨(s0, d0), List.mem_append_right _ (by simp), .inl z⟩
          · exact ⟨(s0, d0), List.mem_append_right _ (by simp), .inr (.inl z)⟩
          · exact ⟨(s0, d0), List.mem_append_right _ (by simp), .inr (.inr z)⟩
        · rintro ⟨p, hp, m⟩
          rcases List.mem_append.mp hp with hp | hp
          · exact .inl (.inl (.inl ⟨p, hp, m⟩))
          · have : p = (s0, d0) := by simpa using hp
            subst this
            rcases m with m | m | m
            · exact .inl (.inl (.inr m))
            · exact .inl (.inr m)
            · exact .inr m
      obtain ⟨r, hr⟩ := ok.rate hs0
      walk_at "go"
      refine Rd.eq rfl ?_
      walk_at "go"
      refine Rd.itP (fun ho => ?_) (fun ho => ?_)
      · have ho : over = "runs" := V.str.inj ho
        walk_at "go"
        refine ⟨a, .ref d2, rfl, .inl ⟨kvs, .inr "rates", .inl (sH _ _ h0), rfl, v3.symm⟩, ?_⟩
        walk_at "go"
        refine ⟨a, .ref d1, rfl, .inl ⟨kvs, .inr "homes", .inl (sH _ _ h0), rfl, v2.symm⟩, ?_⟩
        walk_at "go"
        refine ⟨d1, .str (T0.home s0), rfl, .inl ⟨_, .inr s0, .inl (sH _ _ h1), rfl, by rw [kvM_get, ok.home hs0]; rfl⟩, ?_⟩
        refine ⟨d2, .int r, rfl, .inl ⟨_, .inr (T0.home s0), .inl (sH _ _ h2), rfl, by rw [kvM_get, hr]; rfl⟩, ?_⟩
        walk_at "go"
        refine Rd.eq rfl ?_
        walk_at "go"
        refine Rd.itP (fun he => ?_) (fun hne => ?_)
        · have he : r = 0 := V.int.inj he
          have hr0 : Rate0 T0 s0 := by
            show getA T0.rates (T0.home s0) = some 0
            rw [hr, he]
          walk_at "go"
          refine ⟨.inl ⟨rfl, _, sq_of fn⟩, ?_⟩
          walk_at "go"
          refine ⟨_, _, rfl, ?_⟩
          walk_at "go"
          refine ⟨nl, _, _, rfl, rfl, fn, small1000 (by rw [List.length_map]; omega), ?_⟩
          refine ⟨_, _, ns2 ++ [mx 2 d0], rfl, same_mut sH Hnl, by rw [upd_ne nll]; exact fz, by rw [upd_same, List.map_append]; rfl, fin _ fun n => ?_, by rw [List.length_append, List.length_singleton]; omega⟩
          rw [List.mem_append, List.mem_singleton]
          exact ⟨fun z => z.imp id fun z => ⟨ho, hr0, z⟩, fun z => z.imp id fun z => z.2.2⟩
        · walk_at "go"
          refine ⟨_, _, ns2, rfl, sH, fz, fn, fin _ fun n => ⟨.inl, fun z => z.elim id fun z => ?_⟩, by omega⟩
          have z2 : getA T0.rates (T0.home s0) = some 0 := z.2.1
          rw [hr] at z2
          exact absurd (by rw [Option.some.inj z2]) hne
      · walk_at "go"
        exact ⟨_, _, ns2, rfl, sH, fz, fn, fin _ fun n => ⟨.inl, fun z => z.elim id fun z => absurd (by rw [z.1]) ho⟩, by omega⟩
    · rintro od σ' H' ⟨w4, w5, ns, rfl, sH, fz, fn, hN, hl⟩
      rw [kvM_len] at hN hl
      rw [List.take_length] at hN
      have sZ : Same H (upd H' la (.dK (kvM V.int lv))) := same_mut sH hla
      have fnZ : upd H' la (.dK (kvM V.int lv)) nl = some (.lst (ns.map V.int)) := by rw [upd_ne nll.symm]; exact fn
      generalize upd H' la (.dK (kvM V.int lv)) = G at sZ fnZ ⊢
      have mn := isMin_list (N := Num T0 cs over) (ns := ns) fun n => ?_
      · walk_at "go"
        refine ⟨nl, _, rfl, .inl (sq_of fnZ), ?_⟩
        walk_at "go"
        rw [List.length_map]
        refine Rd.itP (fun hpos => ?_) (fun hz => ?_)
        · walk_at "go"
          exact ⟨nl, ns, rfl, sq_of fnZ, by omega, fun m hm hle => q _ _ sZ (mn.2 m hm hle)⟩
        · walk_at "go"
          exact q _ _ sZ (mn.1 (List.eq_nil_of_length_eq_zero (by omega)))
      · rw [hN n]
        constructor
        · rintro ⟨⟨s, d⟩, hp, m⟩
          obtain ⟨n0, e, hd⟩ := (hmem s d).mp hp
          rw [e] at m
          exact ⟨s, n0, hd, m⟩
        · rintro ⟨s, d, hd, m⟩
          exact ⟨(s, (d : Int)), (hmem s d).mpr ⟨d, rfl, hd⟩, m⟩
end

section
variable {P : Program} {w : World} {K : PySem.W.Frag} {mg : Str → Option Value} {base : Heap}
theorem ok_law_fill (T : Txt mg) {f : Addr} {fd : FuncData} (F : C8.Def K mg "_law_fill" s__law_fill f fd) (b : Binds K fd ["plan", "names", "causes", "at", "given"] [])  : C8.Cal P w K mg base 1 "_law_fill" (sp__law_fill K) [] := by
  refine C8.cal0 F b .nil sc__law_fill (fun vs H Q E h => ?_) (fun cdv A outer s H vs Q E hr h => ?_)
  · exact len__law_fill h
  · refine ⟨_, (pss_cons (ps_set (i := 5) sc__law_fill.nd rfl (by first | exact Or.inl rfl | exact Or.inr rfl) (pe_dget (hu_of hr) (pv 0) pe_str (fun _ _ => rfl)))
  (pss_cons (ps_dput (hu_of hr) (pv 5) (pe_ix ix_list (pv 1) (pv 3) (fun _ _ => rfl)) (pe_ix ix_list (pv 4) pe_int (fun _ _ => rfl)) rfl)
  (pss_cons (ps_set (i := 6) sc__law_fill.nd rfl (by first | exact Or.inl rfl | exact Or.inr rfl) (pe_dget (hu_of hr) (pv 0) pe_str (fun _ _ => rfl)))
  (pss_one (ps_for PassesOwn.never rfl (pi_range1 (by rfl) T.n_range (pa_cons (pe_callB call_len_seq (by rfl) T.n_len (by decide +kernel) (pa_cons (pv 2) pa_nil)) pa_nil)) (pg_name (i := 7) sc__law_fill.nd rfl (by first | exact Or.inl rfl | exact Or.inr rfl))
  (pss_one (ps_dput (hu_of hr) (pv 6) (pe_tup (pa_cons (pe_ix ix_list (pv 1) (pv 3) (fun _ _ => rfl)) (pa_cons (pe_ix ix_list (pv 2) (pv 7) (fun _ _ => rfl)) pa_nil))) (pe_tup (pa_cons (pe_ix ix_list (pv 1) (pe_ix ix_list (pe_ix ix_list (pv 4) pe_int (fun _ _ => rfl)) (pv 7) (fun _ _ => rfl)) (fun _ _ => rfl)) (pa_cons (pe_ix ix_list (pe_ix ix_list (pv 4) pe_int (fun _ _ => rfl)) (pv 7) (fun _ _ => rfl)) pa_nil))) rfl))))))), ?_⟩
    obtain ⟨pl, ln, lc, gv, r, f', d1, d3, kvs, ns, cs, j, n, hm, hs, skv, st, ts, bs, rfl, hpd, hpl, v1, v2, h1, h3, hst, hln, hlc, hj, hgv, hrr, hff, ht1, hb1, hc6, htr, hh1, hs1, q⟩ := h
    have n13 : d1 ≠ d3 := ne_of h1 h3 (fun z => nomatch z)
    have hjn : (ns.map V.str)[j]? = some (.str n) := by rw [List.getElem?_map, hj]; rfl
    walk_at "go"
    refine ⟨pl, .ref d1, rfl, .inl ⟨kvs, .inr "homes", .inl hpl, rfl, v1.symm⟩, ?_⟩
    walk_at "go"
    refine Rd.ixL (sq_of hgv) (atI_nat (j := 2) rfl) ?_
    walk_at "go"
    refine Rd.ixL (sq_of hln) (atI_nat (j := j) hjn) ?_
    refine ⟨d1, _, rfl, .inl ⟨_, .inr n, h1, rfl, small1000 (by rw [kvM_len]; omega), rfl⟩, ?_⟩
    rw [kvM_put]
    have f1 : upd H d1 (.dK (kvM V.str (putA hs n hm))) d1 = some (.dK (kvM V.str (putA hs n hm))) := upd_same
    have fr1 : ∀ b o, b ≠ d1 → b ≠ d3 → H b = some o → upd H d1 (.dK (kvM V.str (putA hs n hm))) b = some o := fun b o e _ z => by rw [upd_ne e]; exact z
    have f3 : upd H d1 (.dK (kvM V.str (putA hs n hm))) d3 = some (.dT skv) := by rw [upd_ne n13.symm]; exact h3
    have g1 : ∀ xs b, H b = some (.lst xs) → upd H d1 (.dK (kvM V.str (putA hs n hm))) b = some (.lst xs) := fun xs b e => fr1 _ _ (ne_of e h1 (fun z => nomatch z)) (ne_of e h3 (fun z => nomatch z)) e
    have st1 : StepsIs (upd H d1 (.dK (kvM V.str (putA hs n hm)))) skv st := hst.mono fun b xs e => fr1 _ _ (ne_of e h1 (fun z => nomatch z)) (ne_of e h3 (fun z => nomatch z)) e
    have hpl1 : H d1 = some (.dK (kvM V.str hs)) := h1
    have p1 : upd H d1 (.dK (kvM V.str (putA hs n hm))) pl = some (.dK kvs) := fr1 _ _ hpd (ne_of hpl h3 (fun z => nomatch z)) hpl
    generalize upd H d1 (.dK (kvM V.str (putA hs n hm))) = G1 at f1 fr1 f3 g1 st1 p1 ⊢
    walk_at "go"
    refine ⟨pl, .ref d3, rfl, .inl ⟨kvs, .inr "steps", .inl p1, rfl, v2.symm⟩, ?_⟩
    walk_at "go"
    refine ⟨lc, _, rfl, .inl (sq_of (g1 _ _ hlc)), ?_⟩
    walk_at "go"
    rw [List.length_map]
    refine ⟨_, rfl, by omega, by omega, ?_⟩
    refine for_range (fun i σ' H' => ∃ (v7 : Option V) (skv' : List (List Key × V)) (st' : List Row), σ' = [some (.ref pl), some (.ref ln), some (.ref lc), some (.int (j : Nat)), some (.ref gv), some (.ref d1), some (.ref d3), v7] ∧
        (∀ b o, b ≠ d3 → G1 b = some o → H' b = some o) ∧ H' d3 = some (.dT skv') ∧ StepsIs H' skv' st' ∧ st'.length ≤ st.length + i ∧ ((st.map (·.1)).Nodup → (st'.map (·.1)).Nodup) ∧
        (∀ e ∈ st', e ∈ st ∨ (e.1.1 = n ∧ e.1.2 ∈ cs ∧ e.2.1 ∈ ns)) ∧ (∀ (k : Str × Str), k ∈ st'.map (·.1) ↔ k ∈ st.map (·.1) ∨ (k.1 = n ∧ k.2 ∈ cs.take i)))
      ⟨_, skv, st, rfl, fun _ _ _ e => e, f3, st1, Nat.le_refl _, id, fun e he => .inl he, fun k => by simp⟩ ?_ ?_
    · rintro i σ' H' hi ⟨v7, skv', st', rfl, fr, fd, sti, hlen, hnd, hme, hke⟩
      have hil : i < cs.length := by omega
      have gl : ∀ xs b, H b = some (.lst xs) → H' b = some (.lst xs) := fun xs b e => fr _ _ (ne_of e h3 (fun z => nomatch z)) (g1 _ _ e)
      obtain ⟨t, ht2⟩ : ∃ t, ts[i]? = some t := ⟨ts[i], by simp [ht1, hil]⟩
      obtain ⟨b, hb2⟩ : ∃ b, bs[i]? = some b := ⟨bs[i], by simp [hb1, hil]⟩
      obtain ⟨c, hc2⟩ : ∃ c, cs[i]? = some c := ⟨cs[i], by simp [hil]⟩
      obtain ⟨t0, t1⟩ := htr t (List.mem_of_getElem? ht2)
      obtain ⟨tn, htn1, htn2⟩ := pickS (cs := ns) t0 t1
      have zi : (0 : Int) + (i : Nat) = ((i : Nat) : Int) := by omega
      rw [zi]
      walk_at "go"
      refine Rd.ixL (sq_of (gl _ _ hgv)) (atI_nat (j := 0) rfl) ?_
      walk_at "go"
      refine Rd.ixL (sq_of (gl _ _ hrr)) (v := .int t) (atI_nat (j := i) (by rw [List.getElem?_map, ht2]; rfl)) ?_
      refine Rd.ixL (sq_of (gl _ _ hln)) htn1 ?_
      walk_at "go"
      refine Rd.ixL (sq_of (gl _ _ hgv)) (atI_nat (j := 1) rfl) ?_
      walk_at "go"
      refine Rd.ixL (sq_of (gl _ _ hff)) (v := .bl b) (atI_nat (j := i) (by rw [List.getElem?_map, hb2]; rfl)) ?_
      walk_at "go"
      refine ⟨(by show 2 ≤ sizeLine; decide), fun p hp => ?_⟩
      have s1 := same_new (o := .tup [.str tn, .bl b]) hp
      have e1 : upd H' p (.tup [.str tn, .bl b]) p = some (.tup [.str tn, .bl b]) := upd_same
      generalize upd H' p (.tup [.str tn, .bl b]) = H2 at s1 e1 ⊢
      walk_at "go"
      refine Rd.ixL (sq_of (s1 _ _ (gl _ _ hln))) (atI_nat (j := j) hjn) ?_
      walk_at "go"
      refine Rd.ixL (sq_of (s1 _ _ (gl _ _ hlc))) (v := .str c) (atI_nat (j := i) (by rw [List.getElem?_map, hc2]; rfl)) ?_
      walk_at "go"
      refine ⟨(by show 2 ≤ sizeLine; decide), fun p2 hp2 => ?_⟩
      have s2 := same_new (o := .tup [.str n, .str c]) hp2
      have e2 : upd H2 p2 (.tup [.str n, .str c]) p2 = some (.tup [.str n, .str c]) := upd_same
      generalize upd H2 p2 (.tup [.str n, .str c]) = H3 at s2 e2 ⊢
      have s12 := s1.trans s2
      have sti3 : StepsIs H3 skv' st' := sti.mono fun b xs e => s12 _ _ e
      have stp := sti3.put (n, c) (s2 _ _ e1)
      refine ⟨d3, _, rfl, .inr ⟨skv', skey (n, c), p2, s12 _ _ fd, rfl, e2, (by rw [sti.len]; exact Nat.lt_of_lt_of_le (show st'.length < 2000 by omega) (by decide)), rfl⟩, ?_⟩
      have hcm : c ∈ cs := List.mem_of_getElem? hc2
      refine ⟨_, _, putA st' (n, c) (tn, b), rfl, fun x o hx e => ?_, upd_same, ?_, ?_, fun hn => putA_nodup (hnd hn), fun e he => ?_, fun k => ?_⟩
      · rw [upd_ne hx]
        exact s12 _ _ (fr _ _ hx e)
      · exact stp.mono fun x xs e => by rw [upd_ne (ne_of e (s12 _ _ fd) (fun z => nomatch z))]; exact e
      · have := putA_len (l := st') (k := (n, c)) (v := (tn, b))
        omega
      · rcases putA_mem he with ⟨h, _⟩ | h
        · exact hme e h
        · rw [h]
          exact .inr ⟨rfl, hcm, htn2⟩
      · rw [putA_mem_keys, hke k, List.take_add_one, hc2]
        constructor
        · rintro ((h | ⟨h, h'⟩) | h)
          · exact .inl h
          · exact .inr ⟨h, List.mem_append_left _ h'⟩
          · rw [h]
            exact .inr ⟨rfl, List.mem_append_right _ (by simp)⟩
        · rintro (h | ⟨h, h'⟩)
          · exact .inl (.inl h)
          · rcases List.mem_append.mp h' with h' | h'
            · exact .inl (.inr ⟨h, h'⟩)
            · have h2 : k.2 = c := by simpa using h'
              exact .inr (Prod.ext h h2)
    · rintro σ' H' ⟨v7, skv', st', rfl, fr, fd, sti, hlen, hnd, hme, hke⟩
      rw [show ((cs.length : Nat) : Int).toNat = cs.length by omega, List.take_length] at hke
      exact q H' skv' st' (fun b o e1 e2 e => fr _ _ e2 (fr1 _ _ e1 e2 e)) (fr _ _ n13 f1) fd sti hnd hme hke
end

section
variable {P : Program} {w : World} {K : PySem.W.Frag} {mg : Str → Option Value} {base : Heap}
theorem ok_law_flags {C : Addr} (T : Txt mg) (TC : Cls K C) (TA : TabNames K C) {f : Addr} {fd : FuncData} (F : C8.Def K mg "_law_flags" s__law_flags f fd) (b : Binds K fd ["pot", "many", "kinds"] []) (c_law_draw : C8.Cal P w K mg base 1 "_law_draw" (sp__law_draw K) []) : C8.Cal P w K mg base 2 "_law_flags" (sp__law_flags K) [] := by
  refine C8.cal0 F b .nil sc__law_flags (fun vs H Q E h => ?_) (fun cdv A outer s H vs Q E hr h => ?_)
  · exact len__law_flags h
  · refine ⟨_, (pss_cons (ps_set (i := 3) sc__law_flags.nd rfl (by first | exact Or.inl rfl | exact Or.inr rfl) (C8.pe_c c_law_draw hr (by decide) (by rfl) (pa_cons (pv 0) (pa_cons pe_int pa_nil))))
  (pss_cons (ps_set (i := 4) sc__law_flags.nd rfl (by first | exact Or.inl rfl | exact Or.inr rfl) (pe_lst pa_nil))
  (pss_cons (ps_for PassesOwn.never rfl (pi_range1 (by rfl) T.n_range (pa_cons (pv 1) pa_nil)) (pg_name (i := 5) sc__law_flags.nd rfl (by first | exact Or.inl rfl | exact Or.inr rfl))
  (pss_one (ps_if (pt_cmpR op_eq (pv 3) pe_int (nomark _))
  (pss_one (ps_expr (pe_bm PySem.F.plainAttrs_list PySem.F.slot_list_append PySem.F.type_list_append mt_append (pv 4) (pa_cons (pe_lc (own := [("k", 6)]) (g := (gName 6)) (tt := _) rfl sc__law_flags.nd (pi_range1 (by rfl) T.n_range (pa_cons (pv 2) pa_nil)) (blkOk_by (own := [("k", 6)]) (N := ["pot", "many", "kinds", "style", "rows", "at", "k"]) (sc := (C8.fnScope s__law_flags)) (by decide +kernel)) (fun _ _ _ _ _ => (pg_name (i := 6) sc__law_flags.nd rfl (by first | exact Or.inl rfl | exact Or.inr rfl))) (fun _ _ _ _ _ => pts_nil) (fun _ _ _ _ _ => (pe_cmpR op_eq (C8.pe_c c_law_draw hr (by decide) (by rfl) (pa_cons (pv 0) (pa_cons pe_int pa_nil))) pe_int (nomark _)))) pa_nil))))
  (pss_one (ps_expr (pe_bm PySem.F.plainAttrs_list PySem.F.slot_list_append PySem.F.type_list_append mt_append (pv 4) (pa_cons (pe_lc (own := [("k", 6)]) (g := (gName 6)) (tt := _) rfl sc__law_flags.nd (pi_range1 (by rfl) T.n_range (pa_cons (pv 2) pa_nil)) (blkOk_by (own := [("k", 6)]) (N := ["pot", "many", "kinds", "style", "rows", "at", "k"]) (sc := (C8.fnScope s__law_flags)) (by decide +kernel)) (fun _ _ _ _ _ => (pg_name (i := 6) sc__law_flags.nd rfl (by first | exact Or.inl rfl | exact Or.inr rfl))) (fun _ _ _ _ _ => pts_nil) (fun _ _ _ _ _ => (pe_cmpR op_eq (pv 3) pe_int (nomark _)))) pa_nil)))))))
  (pss_one (ps_ret (pv 4)))))), ?_⟩
    obtain ⟨τ, a, many, kinds, rfl, hok, ht, h1, h2, h3, h4, q⟩ := h
    walk_at "go"
    refine ⟨τ, a, 3, rfl, hok, ht, by decide, by decide, fun style H1 P1 _ _ => ?_⟩
    walk_at "go"
    refine ⟨(by show 0 ≤ sizeLine; decide), fun l hl => ?_⟩
    have Q1 := P1.new (o := .lst []) hl
    have hl0 := P1.free hl
    have tl0 := P1.tfree hl
    have f0 : upd H1 l (.lst []) l = some (.lst []) := upd_same
    generalize upd H1 l (.lst []) = G1 at Q1 f0 ⊢
    walk_at "go"
    refine ⟨many, rfl, by omega, by omega, ?_⟩
    refine for_range (fun i σ' H' => ∃ (v5 v6 : Option V) (τ' : TM) (ps : List Addr), σ' = [some (.ref a), some (.int many), some (.int kinds), some (.int style), some (.ref l), v5, v6] ∧ Post τ H τ' H' ∧ H' l = some (.lst (ps.map V.ref)) ∧ τ' l = none ∧ ps.length = i ∧ ∀ p ∈ ps, τ' p = some (.bools kinds.toNat))
      ⟨_, _, τ, [], rfl, Q1, f0, tl0, rfl, fun p hp => nomatch hp⟩ ?_ ?_
    · rintro i σ' H' hi ⟨v5, v6, τ', ps, rfl, P, fl, tl, hps, hpt⟩
      walk_at "go"
      refine Rd.eq rfl ?_
      walk_at "go"
      refine Rd.itB (fun _ => ?_) (fun _ => ?_)
      · walk_at "go"
        refine ⟨.inl ⟨rfl, _, sq_of fl⟩, ?_⟩
        walk_at "go"
        refine ⟨kinds, rfl, by omega, by omega, fun D hD => lc_range (fun j H'' => Post τ' H' τ' H'' ∧ ∃ bs : List Bool, H'' D = some (.lst (bs.map V.bl)) ∧ bs.length = j)
          ⟨(Post.refl P.ok).new hD, [], upd_same, rfl⟩ ?_ ?_⟩
        · rintro j H2 hj ⟨P2, bs, fb, hb⟩
          walk_at "go"
          refine ⟨rfl, ?_⟩
          walk_at "go"
          refine ⟨τ', a, 2, rfl, P2.ok, P.ty _ _ ht, by decide, by decide, fun v H3 P5 _ _ => ?_⟩
          walk_at "go"
          refine Rd.eq rfl ?_
          have fb2 := P5.own fb (P.ok.none hD)
          refine ⟨_, fb2.1, small1000 (by rw [List.length_map]; omega), (P2.trans P5).mut hD (P.ok.none hD), bs ++ [_], by rw [upd_same, List.map_append]; rfl, by rw [List.length_append, hb]; rfl⟩
        · rintro H2 ⟨P2, bs, fb, hb⟩
          walk_at "go"
          have fl2 := P2.own fl tl
          have tD := P.ok.none hD
          have tD2 : τ' D = none := tD
          have nl : l ≠ D := ne_of_none fl hD
          have P3 := P.trans P2
          refine ⟨l, _, _, rfl, rfl, fl2.1, small1000 (by rw [List.length_map]; omega), ?_⟩
          have P4 := (P3.kind (t := .bools kinds.toNat) (P.free hD) tD2 fb ⟨bs, rfl, hb⟩).mut (o := .lst (ps.map V.ref ++ [.ref D])) hl0 (by rw [ext_ne nl]; exact tl)
          refine ⟨_, _, _, ps ++ [D], rfl, P4, by rw [upd_same, List.map_append]; rfl, by rw [ext_ne nl]; exact tl, by rw [List.length_append, hps]; rfl, fun p hp => ?_⟩
          rcases List.mem_append.mp hp with hp | hp
          · have z := hpt p hp
            rw [ext_ne (fun e => by rw [e, tD2] at z; cases z)]
            exact z
          · have : p = D := by simpa using hp
            rw [this]
            exact ext_same
      · walk_at "go"
        refine ⟨.inl ⟨rfl, _, sq_of fl⟩, ?_⟩
        walk_at "go"
        refine ⟨kinds, rfl, by omega, by omega, fun D hD => lc_range (fun j H'' => Post τ' H' τ' H'' ∧ ∃ bs : List Bool, H'' D = some (.lst (bs.map V.bl)) ∧ bs.length = j)
          ⟨(Post.refl P.ok).new hD, [], upd_same, rfl⟩ ?_ ?_⟩
        · rintro j H2 hj ⟨P2, bs, fb, hb⟩
          walk_at "go"
          refine ⟨rfl, ?_⟩
          walk_at "go"
          refine Rd.eq rfl ?_
          refine ⟨_, fb, small1000 (by rw [List.length_map]; omega), P2.mut hD (P.ok.none hD), bs ++ [_], by rw [upd_same, List.map_append]; rfl, by rw [List.length_append, hb]; rfl⟩
        · rintro H2 ⟨P2, bs, fb, hb⟩
          walk_at "go"
          have fl2 := P2.own fl tl
          have tD := P.ok.none hD
          have tD2 : τ' D = none := tD
          have nl : l ≠ D := ne_of_none fl hD
          have P3 := P.trans P2
          refine ⟨l, _, _, rfl, rfl, fl2.1, small1000 (by rw [List.length_map]; omega), ?_⟩
          have P4 := (P3.kind (t := .bools kinds.toNat) (P.free hD) tD2 fb ⟨bs, rfl, hb⟩).mut (o := .lst (ps.map V.ref ++ [.ref D])) hl0 (by rw [ext_ne nl]; exact tl)
          refine ⟨_, _, _, ps ++ [D], rfl, P4, by rw [upd_same, List.map_append]; rfl, by rw [ext_ne nl]; exact tl, by rw [List.length_append, hps]; rfl, fun p hp => ?_⟩
          rcases List.mem_append.mp hp with hp | hp
          · have z := hpt p hp
            rw [ext_ne (fun e => by rw [e, tD2] at z; cases z)]
            exact z
          · have : p = D := by simpa using hp
            rw [this]
            exact ext_same
    · rintro σ' H' ⟨v5, v6, τ', ps, rfl, P, fl, tl, hps, hpt⟩
      walk_at "go"
      exact q (ext τ' l (.rows many.toNat (.bools kinds.toNat))) H' l (P.kind hl0 tl fl ⟨ps, rfl, hps, hpt⟩) ext_same
end

section
variable {P : Program} {w : World} {K : PySem.W.Frag} {mg : Str → Option Value} {base : Heap}
theorem ok_law_homes {C : Addr} (T : Txt mg) (TC : Cls K C) (TA : TabNames K C) {f : Addr} {fd : FuncData} (F : C8.Def K mg "_law_homes" s__law_homes f fd) (b : Binds K fd ["pot", "many", "columns"] []) (c_law_draw : C8.Cal P w K mg base 1 "_law_draw" (sp__law_draw K) []) : C8.Cal P w K mg base 2 "_law_homes" (sp__law_homes K) [] := by
  refine C8.cal0 F b .nil sc__law_homes (fun vs H Q E h => ?_) (fun cdv A outer s H vs Q E hr h => ?_)
  · exact len__law_homes h
  · refine ⟨_, (pss_cons (ps_set (i := 3) sc__law_homes.nd rfl (by first | exact Or.inl rfl | exact Or.inr rfl) (C8.pe_c c_law_draw hr (by decide) (by rfl) (pa_cons (pv 0) (pa_cons pe_int pa_nil))))
  (pss_cons (ps_if (pt_cmpR op_eq (pv 3) pe_int (nomark _))
  (pss_cons (ps_set (i := 4) sc__law_homes.nd rfl (by first | exact Or.inl rfl | exact Or.inr rfl) (C8.pe_c c_law_draw hr (by decide) (by rfl) (pa_cons (pv 0) (pa_cons (pe_callB call_len_seq (by rfl) T.n_len (by decide +kernel) (pa_cons (pv 2) pa_nil)) pa_nil))))
  (pss_one (ps_ret (pe_lc (own := [("at", 5)]) (g := (gName 5)) (tt := _) rfl sc__law_homes.nd (pi_range1 (by rfl) T.n_range (pa_cons (pv 1) pa_nil)) (blkOk_by (own := [("at", 5)]) (N := ["pot", "many", "columns", "style", "place", "at"]) (sc := (C8.fnScope s__law_homes)) (by decide +kernel)) (fun _ _ _ _ _ => (pg_name (i := 5) sc__law_homes.nd rfl (by first | exact Or.inl rfl | exact Or.inr rfl))) (fun _ _ _ _ _ => pts_nil) (fun _ _ _ _ _ => (pe_ix (Rd.ixListK (K := K) rfl) (pv 2) (pv 4) (fun _ _ => rfl)))))))
  pss_nil)
  (pss_cons (ps_if (pt_cmpR op_eq (pv 3) pe_int (nomark _))
  (pss_one (ps_ret (pe_lc (own := [("at", 5)]) (g := (gName 5)) (tt := _) rfl sc__law_homes.nd (pi_range1 (by rfl) T.n_range (pa_cons (pv 1) pa_nil)) (blkOk_by (own := [("at", 5)]) (N := ["pot", "many", "columns", "style", "place", "at"]) (sc := (C8.fnScope s__law_homes)) (by decide +kernel)) (fun _ _ _ _ _ => (pg_name (i := 5) sc__law_homes.nd rfl (by first | exact Or.inl rfl | exact Or.inr rfl))) (fun _ _ _ _ _ => pts_nil) (fun _ _ _ _ _ => (pe_ix (Rd.ixListK (K := K) rfl) (pv 2) (C8.pe_c c_law_draw hr (by decide) (by rfl) (pa_cons (pv 0) (pa_cons (pe_callB (Rd.lenSeqK (K := K) rfl) (by rfl) T.n_len (by decide +kernel) (pa_cons (pv 2) pa_nil)) pa_nil))) (fun _ _ => rfl))))))
  pss_nil)
  (pss_one (ps_ret (pe_lc (own := [("at", 5)]) (g := (gName 5)) (tt := _) rfl sc__law_homes.nd (pi_range1 (by rfl) T.n_range (pa_cons (pv 1) pa_nil)) (blkOk_by (own := [("at", 5)]) (N := ["pot", "many", "columns", "style", "place", "at"]) (sc := (C8.fnScope s__law_homes)) (by decide +kernel)) (fun _ _ _ _ _ => (pg_name (i := 5) sc__law_homes.nd rfl (by first | exact Or.inl rfl | exact Or.inr rfl))) (fun _ _ _ _ _ => pts_nil) (fun _ _ _ _ _ => (pe_ix (Rd.ixListK (K := K) rfl) (pv 2) (pe_op op_fdivN (pe_op op_mul (pv 5) (pe_callB (Rd.lenSeqK (K := K) rfl) (by rfl) T.n_len (by decide +kernel) (pa_cons (pv 2) pa_nil))) (pv 1)) (fun _ _ => rfl))))))))), ?_⟩
    obtain ⟨τ, a, many, l, cs, rfl, hok, ht, h1, h2, hlc, h3, h4, q⟩ := h
    walk_at "go"
    refine ⟨τ, a, 3, rfl, hok, ht, by decide, by decide, fun style H1 P0 _ _ => ?_⟩
    walk_at "go"
    refine Rd.eq rfl ?_
    walk_at "go"
    refine Rd.itB (fun _ => ?_) (fun _ => ?_)
    · walk_at "go"
      refine ⟨l, _, rfl, .inl (sq_of (P0.at_ex hlc)), ?_⟩
      walk_at "go"
      rw [List.length_map]
      refine ⟨τ, a, _, rfl, P0.ok, ht, by omega, by omega, fun v H2 P1 v0 v1 => ?_⟩
      have P0 := P0.trans P1
      walk_at "go"
      refine ⟨many, rfl, by omega, by omega, fun D hD => lc_range (fun j H' => Post τ H τ H' ∧ ∃ xs : List Str, H' D = some (.lst (xs.map V.str)) ∧ xs.length = j ∧ ∀ x ∈ xs, x ∈ cs)
        ⟨P0.new hD, [], upd_same, rfl, fun x hx => nomatch hx⟩ ?_ ?_⟩
      · rintro j H2 hj ⟨P2, xs, fx, hx, hm⟩
        have lc2 := P2.at_ex hlc
        walk_at "go"
        refine ⟨rfl, ?_⟩
        walk_at "go"
        obtain ⟨c, hc1, hc2⟩ := pickS v0 v1
        refine Rd.ixL (sq_of lc2) hc1 ?_
        refine ⟨_, fx, small1000 (by rw [List.length_map]; omega), (P2).mut (P0.free hD) (P0.tfree hD), xs ++ [c], by rw [upd_same, List.map_append]; rfl, by rw [List.length_append, hx]; rfl, fun x hx2 => ?_⟩
        rcases List.mem_append.mp hx2 with hx2 | hx2
        · exact hm x hx2
        · have : x = c := by simpa using hx2
          rw [this]
          exact hc2
      · rintro H2 ⟨P2, xs, fx, hx, hm⟩
        walk_at "go"
        exact q (ext τ D (.ex (.lst (xs.map V.str)))) H2 D xs (P2.kind (P0.free hD) (P0.tfree hD) fx rfl) ext_same (by omega) hm
    walk_at "go"
    refine Rd.eq rfl ?_
    walk_at "go"
    refine Rd.itB (fun _ => ?_) (fun _ => ?_)
    · walk_at "go"
      refine ⟨many, rfl, by omega, by omega, fun D hD => lc_range (fun j H' => Post τ H τ H' ∧ ∃ xs : List Str, H' D = some (.lst (xs.map V.str)) ∧ xs.length = j ∧ ∀ x ∈ xs, x ∈ cs)
        ⟨P0.new hD, [], upd_same, rfl, fun x hx => nomatch hx⟩ ?_ ?_⟩
      · rintro j H2 hj ⟨P2, xs, fx, hx, hm⟩
        have lc2 := P2.at_ex hlc
        walk_at "go"
        refine ⟨rfl, ?_⟩
        walk_at "go"
        refine ⟨l, _, rfl, .inl (sq_of lc2), ?_⟩
        walk_at "go"
        rw [List.length_map]
        refine ⟨τ, a, _, rfl, P2.ok, ht, by omega, by omega, fun v H3 P5 v0 v1 => ?_⟩
        obtain ⟨c, hc1, hc2⟩ := pickS v0 v1
        refine Rd.ixL (sq_of (P5.at_ex hlc)) hc1 ?_
        have fx2 := P5.own fx (P0.tfree hD)
        refine ⟨_, fx2.1, small1000 (by rw [List.length_map]; omega), (P2.trans P5).mut (P0.free hD) (P0.tfree hD), xs ++ [c], by rw [upd_same, List.map_append]; rfl, by rw [List.length_append, hx]; rfl, fun x hx2 => ?_⟩
        rcases List.mem_append.mp hx2 with hx2 | hx2
        · exact hm x hx2
        · have : x = c := by simpa using hx2
          rw [this]
          exact hc2
      · rintro H2 ⟨P2, xs, fx, hx, hm⟩
        walk_at "go"
        exact q (ext τ D (.ex (.lst (xs.map V.str)))) H2 D xs (P2.kind (P0.free hD) (P0.tfree hD) fx rfl) ext_same (by omega) hm
    · walk_at "go"
      refine ⟨many, rfl, by omega, by omega, fun D hD => lc_range (fun j H' => Post τ H τ H' ∧ ∃ xs : List Str, H' D = some (.lst (xs.map V.str)) ∧ xs.length = j ∧ ∀ x ∈ xs, x ∈ cs)
        ⟨P0.new hD, [], upd_same, rfl, fun x hx => nomatch hx⟩ ?_ ?_⟩
      · rintro j H2 hj ⟨P2, xs, fx, hx, hm⟩
        have lc2 := P2.at_ex hlc
        walk_at "go"
        refine ⟨rfl, ?_⟩
        walk_at "go"
        refine ⟨l, _, rfl, .inl (sq_of lc2), ?_⟩
        walk_at "go"
        rw [List.length_map]
        refine Rd.mulL (by omega) (by omega) ?_
        walk_at "go"
        refine Rd.fdiv (by omega) (by omega) ?_
        have hd : 0 ≤ (((0 : Int) + (j : Nat)) * (cs.length : Int)).fdiv many ∧ (((0 : Int) + (j : Nat)) * (cs.length : Int)).fdiv many < (cs.length : Int) := by
          have hj2 : ((0 : Int) + (j : Nat)) < many := by omega
          have hc0 : (0 : Int) < cs.length := by omega
          have hnn : 0 ≤ ((0 : Int) + (j : Nat)) * (cs.length : Int) := Int.mul_nonneg (by omega) (by omega)
          rw [Int.fdiv_eq_ediv_of_nonneg _ (by omega)]
          refine ⟨Int.ediv_nonneg hnn (by omega), Int.ediv_lt_of_lt_mul (by omega) ?_⟩
          rw [Int.mul_comm]
          exact Int.mul_lt_mul_of_pos_left hj2 hc0
        obtain ⟨c, hc1, hc2⟩ := pickS hd.1 hd.2
        refine Rd.ixL (sq_of lc2) hc1 ?_
        refine ⟨_, fx, small1000 (by rw [List.length_map]; omega), (P2).mut (P0.free hD) (P0.tfree hD), xs ++ [c], by rw [upd_same, List.map_append]; rfl, by rw [List.length_append, hx]; rfl, fun x hx2 => ?_⟩
        rcases List.mem_append.mp hx2 with hx2 | hx2
        · exact hm x hx2
        · have : x = c := by simpa using hx2
          rw [this]
          exact hc2
      · rintro H2 ⟨P2, xs, fx, hx, hm⟩
        walk_at "go"
        exact q (ext τ D (.ex (.lst (xs.map V.str)))) H2 D xs (P2.kind (P0.free hD) (P0.tfree hD) fx rfl) ext_same (by omega) hm
end

section
variable {P : Program} {w : World} {K : PySem.W.Frag} {mg : Str → Option Value} {base : Heap}
theorem ok_law_bumped (T : Txt mg) {f : Addr} {fd : FuncData} (F : C8.Def K mg "_law_bumped" s__law_bumped f fd) (b : Binds K fd ["word", "names"] [])  : C8.Cal P w K mg base 1 "_law_bumped" (sp__law_bumped K) [] := by
  refine C8.cal0 F b .nil sc__law_bumped (fun vs H Q E h => ?_) (fun cdv A outer s H vs Q E hr h => ?_)
  · exact len__law_bumped h
  · refine ⟨_, (pss_cons (ps_set (i := 2) sc__law_bumped.nd rfl (by first | exact Or.inl rfl | exact Or.inr rfl) pe_str)
  (pss_cons (ps_for PassesOwn.never rfl (pi_range1 (by rfl) T.n_range (pa_cons (pe_callB call_len_seq (by rfl) T.n_len (by decide +kernel) (pa_cons (pv 1) pa_nil)) pa_nil)) (pg_name (i := 3) sc__law_bumped.nd rfl (by first | exact Or.inl rfl | exact Or.inr rfl))
  (pss_one (ps_if (pt_cmpR op_in_seq (pv 0) (pv 1) (by rfl))
  (pss_one (ps_set (i := 0) sc__law_bumped.nd rfl (by first | exact Or.inl rfl | exact Or.inr rfl) (pe_op op_add_str (pe_slice sl_str (pv 0) po_none (po_some (pe_un un_neg pe_int))) (pe_ix ix_str (pv 2) (pe_op op_modN (pe_callTy call_int1 (by rfl) T.n_int (by decide +kernel) (pa_cons (pe_op op_add (pe_m1 PySem.F.slot_str_find PySem.F.type_str_find mt_find (pv 2) (pe_ix ix_str (pv 0) (pe_un un_neg pe_int) (fun _ _ => rfl))) pe_int) pa_nil)) pe_int) (fun _ _ => rfl)))))
  pss_nil)))
  (pss_one (ps_ret (pv 0))))), ?_⟩
    obtain ⟨x, l, xs, rfl, hx, hl, hlen, q⟩ := h
    walk_at "go"
    refine ⟨l, _, rfl, .inl (sq_of hl), ?_⟩
    walk_at "go"
    rw [List.length_map]
    refine ⟨_, rfl, by omega, by omega, ?_⟩
    refine for_range (fun i σ' H' => ∃ x v, σ' = [some (.str x), some (.ref l), some (.str letters), v] ∧ NameOk x ∧ H' = H) ⟨x, _, rfl, hx, rfl⟩ ?_ ?_
    · rintro i σ' H' hi ⟨x, v, rfl, hx, rfl⟩
      walk_at "go"
      refine ⟨l, _, rfl, .inl (sq_of hl), rfl, flat_strs _, ?_⟩
      refine ⟨_, rfl, ?_⟩
      refine Rd.itB (fun _ => ?_) (fun _ => ?_)
      · walk_at "go"
        refine ⟨x, rfl, hx.small, ?_⟩
        walk_at "go"
        refine ⟨⟨_, rfl⟩, ?_⟩
        walk_at "go"
        obtain ⟨c, hc⟩ := last_at hx.1
        refine Rd.ixS hx.small hc ?_
        refine ⟨_, _, rfl, rfl, ?_⟩
        walk_at "go"
        refine .inl ⟨_, rfl, ?_⟩
        walk_at "go"
        refine Rd.mod (by decide) (fun m g0 g1 => ?_)
        obtain ⟨d, hd1, hd2, hd3⟩ := letters_at g0 g1
        refine Rd.ixS letters_len hd1 ?_
        have e1 := cut_init hx.1
        have hx2 := hx.2.1
        have hx1 := hx.1
        have e2 : (cutS x none (some (-1)) ++ ⟨#[d]⟩).length = x.length := by
          rw [app_len, e1]
          show x.length - 1 + 1 = _
          omega
        refine ⟨_, _, rfl, rfl, ?_, ?_⟩
        · rw [← app_len, e2]
          exact hx.small
        · walk_at "go"
          exact ⟨_, _, rfl, ⟨by omega, by omega, lets_app (cut_lets hx.lets _ _) (lets1 hd2 hd3)⟩, rfl⟩
      · walk_at "go"
        exact ⟨_, _, rfl, hx, rfl⟩
    · rintro σ' H' ⟨x, v, rfl, hx, rfl⟩
      walk_at "go"
      exact q x hx
end

section
variable {P : Program} {w : World} {K : PySem.W.Frag} {mg : Str → Option Value} {base : Heap}
theorem ok_law_word {C : Addr} (T : Txt mg) (TC : Cls K C) (TA : TabNames K C) {f : Addr} {fd : FuncData} (F : C8.Def K mg "_law_word" s__law_word f fd) (b : Binds K fd ["pot", "size"] []) (c_law_draw : C8.Cal P w K mg base 1 "_law_draw" (sp__law_draw K) []) : C8.Cal P w K mg base 2 "_law_word" (sp__law_word K) [] := by
  refine C8.cal0 F b .nil sc__law_word (fun vs H Q E h => ?_) (fun cdv A outer s H vs Q E hr h => ?_)
  · exact len__law_word h
  · refine ⟨_, (pss_cons (ps_set (i := 2) sc__law_word.nd rfl (by first | exact Or.inl rfl | exact Or.inr rfl) pe_str)
  (pss_one (ps_ret (pe_join pe_str (pe_lc (own := [("k", 3)]) (g := (gName 3)) (tt := _) rfl sc__law_word.nd (pi_range1 (by rfl) T.n_range (pa_cons (pv 1) pa_nil)) (blkOk_by (own := [("k", 3)]) (N := ["pot", "size", "letters", "k"]) (sc := (C8.fnScope s__law_word)) (by decide +kernel)) (fun _ _ _ _ _ => (pg_name (i := 3) sc__law_word.nd rfl (by first | exact Or.inl rfl | exact Or.inr rfl))) (fun _ _ _ _ _ => pts_nil) (fun _ _ _ _ _ => (pe_ix ix_str (pv 2) (C8.pe_c c_law_draw hr (by decide) (by rfl) (pa_cons (pv 0) (pa_cons pe_int pa_nil))) (fun _ _ => rfl)))))))), ?_⟩
    obtain ⟨τ, a, size, rfl, hok, ht, h1, h2, q⟩ := h
    walk_at "go"
    refine ⟨⟨_, rfl⟩, ?_⟩
    walk_at "go"
    refine ⟨size, rfl, by omega, by omega, fun D hD => lc_range (fun i H' => Post τ H τ H' ∧ ∃ cs : List Nat, H' D = some (.lst (cs.map fun c => V.str ⟨#[c]⟩)) ∧ cs.length = i ∧ ∀ c ∈ cs, 97 ≤ c ∧ c ≤ 122)
      ⟨(Post.refl hok).new hD, [], upd_same, rfl, fun c hc => nomatch hc⟩ ?_ ?_⟩
    · rintro i H' hi ⟨P, cs, f, hl, hc⟩
      walk_at "go"
      refine ⟨rfl, ?_⟩
      walk_at "go"
      refine ⟨τ, a, 26, rfl, P.ok, ht, by decide, by decide, fun v H2 P2 g0 g1 => ?_⟩
      obtain ⟨c, hc1, hc2, hc3⟩ := letters_at g0 g1
      refine Rd.ixS letters_len hc1 ?_
      have f2 := P2.own f (hok.none hD)
      refine ⟨_, f2.1, small1000 (by rw [List.length_map]; omega), (P.trans P2).mut hD (hok.none hD), cs ++ [c], ?_, by rw [List.length_append, hl]; rfl, fun d hd => ?_⟩
      · rw [upd_same, List.map_append]
        rfl
      · rcases List.mem_append.mp hd with hd | hd
        · exact hc d hd
        · have : d = c := by simpa using hd
          rw [this]
          exact ⟨hc2, hc3⟩
    · rintro H' ⟨P, cs, f, hl, hc⟩
      walk_at "go"
      have hj : Lets (Txt.join ("" : Str) (cs.map fun c => (⟨#[c]⟩ : Str))) := fun d hd => by
        rw [join_one] at hd
        exact hc d hd
      have hlen : (Txt.join ("" : Str) (cs.map fun c => (⟨#[c]⟩ : Str))).length = cs.length := by rw [len_list, join_one]
      refine ⟨_, D, cs.map fun c => ⟨#[c]⟩, rfl, rfl, .inl (sq_of (by rw [List.map_map]; exact f)), ?_, ?_⟩
      · rw [one_lens, List.length_map, show Str.length ("" : Str) = 0 from rfl, Nat.mul_zero]
        omega
      · walk_at "go"
        exact q _ H' P ⟨by omega, by omega, hj⟩ (by omega)
end

section
variable {P : Program} {w : World} {K : PySem.W.Frag} {mg : Str → Option Value} {base : Heap}
theorem ok_law_names {C : Addr} (T : Txt mg) (TC : Cls K C) (TA : TabNames K C) {f : Addr} {fd : FuncData} (F : C8.Def K mg "_law_names" s__law_names f fd) (b : Binds K fd ["pot", "count"] []) (c_law_bumped : C8.Cal P w K mg base 1 "_law_bumped" (sp__law_bumped K) []) (c_law_draw : C8.Cal P w K mg base 1 "_law_draw" (sp__law_draw K) []) (c_law_word : C8.Cal P w K mg base 2 "_law_word" (sp__law_word K) []) : C8.Cal P w K mg base 3 "_law_names" (sp__law_names K) [] := by
  refine C8.cal0 F b .nil sc__law_names (fun vs H Q E h => ?_) (fun cdv A outer s H vs Q E hr h => ?_)
  · exact len__law_names h
  · refine ⟨_, (pss_cons (ps_set (i := 2) sc__law_names.nd rfl (by first | exact Or.inl rfl | exact Or.inr rfl) pe_str)
  (pss_cons (ps_set (i := 3) sc__law_names.nd rfl (by first | exact Or.inl rfl | exact Or.inr rfl) (C8.pe_c c_law_draw hr (by decide) (by rfl) (pa_cons (pv 0) (pa_cons pe_int pa_nil))))
  (pss_cons (ps_set (i := 4) sc__law_names.nd rfl (by first | exact Or.inl rfl | exact Or.inr rfl) (pe_lst pa_nil))
  (pss_cons (ps_if (pt_cmpR op_eq (pv 3) pe_int (nomark _))
  (pss_cons (ps_for PassesOwn.never rfl (pi_range1 (by rfl) T.n_range (pa_cons (pv 1) pa_nil)) (pg_name (i := 10) sc__law_names.nd rfl (by first | exact Or.inl rfl | exact Or.inr rfl))
  (pss_one (ps_expr (pe_bm PySem.F.plainAttrs_list PySem.F.slot_list_append PySem.F.type_list_append mt_append (pv 4) (pa_cons (C8.pe_c c_law_bumped hr (by decide) (by rfl) (pa_cons (C8.pe_c c_law_word hr (by decide) (by rfl) (pa_cons (pv 0) (pa_cons (pe_op op_add pe_int (C8.pe_c c_law_draw hr (by decide) (by rfl) (pa_cons (pv 0) (pa_cons pe_int pa_nil)))) pa_nil))) (pa_cons (pv 4) pa_nil))) pa_nil)))))
  (pss_one (ps_ret (pv 4))))
  pss_nil)
  (pss_cons (ps_set (i := 5) sc__law_names.nd rfl (by first | exact Or.inl rfl | exact Or.inr rfl) (C8.pe_c c_law_word hr (by decide) (by rfl) (pa_cons (pv 0) (pa_cons pe_int pa_nil))))
  (pss_cons (ps_set (i := 6) sc__law_names.nd rfl (by first | exact Or.inl rfl | exact Or.inr rfl) (C8.pe_c c_law_draw hr (by decide) (by rfl) (pa_cons (pv 0) (pa_cons pe_int pa_nil))))
  (pss_cons (ps_set (i := 7) sc__law_names.nd rfl (by first | exact Or.inl rfl | exact Or.inr rfl) (pe_op op_add pe_int (pe_op op_mul pe_int (C8.pe_c c_law_draw hr (by decide) (by rfl) (pa_cons (pv 0) (pa_cons pe_int pa_nil))))))
  (pss_cons (ps_set (i := 8) sc__law_names.nd rfl (by first | exact Or.inl rfl | exact Or.inr rfl) (pe_op op_add pe_int (C8.pe_c c_law_draw hr (by decide) (by rfl) (pa_cons (pv 0) (pa_cons pe_int pa_nil)))))
  (pss_cons (ps_set (i := 9) sc__law_names.nd rfl (by first | exact Or.inl rfl | exact Or.inr rfl) (C8.pe_c c_law_draw hr (by decide) (by rfl) (pa_cons (pv 0) (pa_cons (pv 8) pa_nil))))
  (pss_cons (ps_for PassesOwn.never rfl (pi_range1 (by rfl) T.n_range (pa_cons (pv 1) pa_nil)) (pg_name (i := 10) sc__law_names.nd rfl (by first | exact Or.inl rfl | exact Or.inr rfl))
  (pss_one (ps_if (pt_cmpR op_eq (pv 3) pe_int (nomark _))
  (pss_one (ps_expr (pe_bm PySem.F.plainAttrs_list PySem.F.slot_list_append PySem.F.type_list_append mt_append (pv 4) (pa_cons (pe_slice sl_str (pv 5) po_none (po_some (pe_op op_add pe_int (pe_op op_modN (pe_callTy call_int1 (by rfl) T.n_int (by decide +kernel) (pa_cons (pe_op op_add (pv 6) (pe_op op_mul (pv 10) (pv 7))) pa_nil)) pe_int)))) pa_nil))))
  (pss_one (ps_expr (pe_bm PySem.F.plainAttrs_list PySem.F.slot_list_append PySem.F.type_list_append mt_append (pv 4) (pa_cons (pe_op op_add_str (pe_op op_add_str (pe_slice sl_str (pv 5) po_none (po_some (pv 9))) (pe_ix ix_str (pv 2) (pe_op op_modN (pe_callTy call_int1 (by rfl) T.n_int (by decide +kernel) (pa_cons (pe_op op_add (pv 6) (pe_op op_mul (pv 10) (pv 7))) pa_nil)) pe_int) (fun _ _ => rfl))) (pe_slice sl_str (pv 5) (po_some (pe_op op_add (pv 9) pe_int)) (po_some (pv 8)))) pa_nil)))))))
  (pss_one (ps_ret (pv 4))))))))))))), ?_⟩
    obtain ⟨τ, a, n, rfl, hok, ht, h1, h2, q⟩ := h
    walk_at "go"
    refine ⟨τ, a, 4, rfl, hok, ht, by decide, by decide, fun style H1 P1 _ _ => ?_⟩
    walk_at "go"
    refine ⟨(by show 0 ≤ sizeLine; decide), fun l hl => ?_⟩
    have Q1 := P1.new (o := .lst []) hl
    have hl0 := P1.free hl
    have tl0 := P1.tfree hl
    have f0 : upd H1 l (.lst []) l = some (.lst []) := upd_same
    generalize upd H1 l (.lst []) = G1 at Q1 f0 ⊢
    have fin : ∀ (H' : Hp) (xs : List Str), Post τ H τ H' → H' l = some (.lst (xs.map V.str)) → xs.length = n.toNat → (∀ x ∈ xs, NameOk x) → Q (.ref l) H' := fun H' xs P fl hx hm =>
      q (ext τ l (.ex (.lst (xs.map V.str)))) H' l xs (P.kind hl0 tl0 fl rfl) ext_same (by omega) hm
    have put : ∀ (H' : Hp) (xs : List Str) (x : Str), Post τ H τ H' → Post τ H τ (upd H' l (.lst (xs.map V.str ++ [.str x]))) := fun H' xs x P => P.mut hl0 tl0
    have grow : ∀ (xs : List Str) (x : Str) (i : Nat), xs.length = i → (∀ x ∈ xs, NameOk x) → NameOk x → (xs ++ [x]).length = i + 1 ∧ ∀ y ∈ xs ++ [x], NameOk y := fun xs x i e hm hx =>
      ⟨by rw [List.length_append, e]; rfl, fun y hy => by
        rcases List.mem_append.mp hy with hy | hy
        · exact hm y hy
        · have : y = x := by simpa using hy
          rw [this]
          exact hx⟩
    walk_at "go"
    refine Rd.eq rfl ?_
    walk_at "go"
    refine Rd.itB (fun _ => ?_) (fun _ => ?_)
    · walk_at "go"
      refine ⟨n, rfl, by omega, by omega, ?_⟩
      refine for_range (fun i σ' H' => ∃ (v : Option V) (xs : List Str), σ' = [some (.ref a), some (.int n), some (.str letters), some (.int style), some (.ref l), none, none, none, none, none, v] ∧ Post τ H τ H' ∧ H' l = some (.lst (xs.map V.str)) ∧ xs.length = i ∧ ∀ x ∈ xs, NameOk x)
        ⟨_, [], rfl, Q1, f0, rfl, fun x hx => nomatch hx⟩ ?_ ?_
      · rintro i σ' H' hi ⟨v, xs, rfl, P, fl, hx, hm⟩
        walk_at "go"
        refine ⟨.inl ⟨rfl, _, sq_of fl⟩, ?_⟩
        walk_at "go"
        refine ⟨τ, a, 8, rfl, P.ok, ht, by decide, by decide, fun k H2 P2 k0 k1 => ?_⟩
        walk_at "go"
        refine ⟨τ, a, _, rfl, P2.ok, ht, by omega, by omega, fun y H3 P3 hy _ => ?_⟩
        walk_at "go"
        have P4 := (P.trans P2).trans P3
        have fl3 := (P3.own (P2.own fl tl0).1 tl0).1
        refine ⟨y, l, xs, rfl, hy, fl3, by omega, fun z hz => ?_⟩
        walk_at "go"
        refine ⟨l, _, _, rfl, rfl, fl3, small1000 (by rw [List.length_map]; omega), ?_⟩
        obtain ⟨g1, g2⟩ := grow xs z i hx hm hz
        exact ⟨_, xs ++ [z], rfl, put _ xs z P4, by rw [upd_same, List.map_append]; rfl, g1, g2⟩
      · rintro σ' H' ⟨v, xs, rfl, P, fl, hx, hm⟩
        walk_at "go"
        exact fin H' xs P fl hx hm
    · walk_at "go"
      refine ⟨τ, a, 8, rfl, Q1.ok, ht, by decide, by decide, fun base' H2 P2 hb hb8 => ?_⟩
      have hb8 : base'.length = 8 := by omega
      walk_at "go"
      refine ⟨τ, a, 26, rfl, P2.ok, ht, by decide, by decide, fun first H3 P3 _ _ => ?_⟩
      walk_at "go"
      refine ⟨τ, a, 6, rfl, P3.ok, ht, by decide, by decide, fun str' H4 P4 _ _ => ?_⟩
      walk_at "go"
      refine Rd.mulL (by decide) (by decide) ?_
      walk_at "go"
      refine ⟨τ, a, 8, rfl, P4.ok, ht, by decide, by decide, fun size H5 P5 s0 s1 => ?_⟩
      walk_at "go"
      refine ⟨τ, a, _, rfl, P5.ok, ht, by omega, by omega, fun place H6 P6 p0 p1 => ?_⟩
      have Q6 := ((((Q1.trans P2).trans P3).trans P4).trans P5).trans P6
      have fl6 := ((((P2.trans P3).trans P4).trans P5).trans P6).own f0 tl0
      walk_at "go"
      refine ⟨n, rfl, by omega, by omega, ?_⟩
      refine for_range (fun i σ' H' => ∃ (v : Option V) (xs : List Str), σ' = [some (.ref a), some (.int n), some (.str letters), some (.int style), some (.ref l), some (.str base'), some (.int first), some (.int (1 + 2 * str')), some (.int (1 + size)), some (.int place), v] ∧ Post τ H τ H' ∧ H' l = some (.lst (xs.map V.str)) ∧ xs.length = i ∧ ∀ x ∈ xs, NameOk x)
        ⟨_, [], rfl, Q6, fl6.1, rfl, fun x hx => nomatch hx⟩ ?_ ?_
      · rintro i σ' H' hi ⟨v, xs, rfl, P, fl, hx, hm⟩
        have hbs : base'.length ≤ sizeLine := hb.small
        walk_at "go"
        refine Rd.eq rfl ?_
        walk_at "go"
        refine Rd.itB (fun _ => ?_) (fun _ => ?_)
        · walk_at "go"
          refine ⟨.inl ⟨rfl, _, sq_of fl⟩, ?_⟩
          walk_at "go"
          refine Rd.mulL (by omega) (by omega) ?_
          walk_at "go"
          refine .inl ⟨_, rfl, ?_⟩
          walk_at "go"
          refine Rd.mod (by decide) (fun m m0 m1 => ?_)
          walk_at "go"
          refine ⟨base', rfl, hbs, ?_⟩
          obtain ⟨k, hk⟩ := Int.eq_ofNat_of_zero_le (show 0 ≤ 1 + m by omega)
          rw [hk]
          have hz : NameOk (cutS base' none (some (k : Int))) := by
            have := cut_to (z := base') (k := k) (by omega)
            exact ⟨by omega, by omega, cut_lets hb.lets _ _⟩
          walk_at "go"
          refine ⟨l, _, _, rfl, rfl, fl, small1000 (by rw [List.length_map]; omega), ?_⟩
          obtain ⟨g1, g2⟩ := grow xs _ i hx hm hz
          exact ⟨_, xs ++ [_], rfl, put _ xs _ P, by rw [upd_same, List.map_append]; rfl, g1, g2⟩
        · walk_at "go"
          refine ⟨.inl ⟨rfl, _, sq_of fl⟩, ?_⟩
          obtain ⟨j, rfl⟩ := Int.eq_ofNat_of_zero_le p0
          walk_at "go"
          refine ⟨base', rfl, hbs, ?_⟩
          walk_at "go"
          refine Rd.mulL (by omega) (by omega) ?_
          walk_at "go"
          refine .inl ⟨_, rfl, ?_⟩
          walk_at "go"
          refine Rd.mod (by decide) (fun m m0 m1 => ?_)
          obtain ⟨c, hc1, hc2, hc3⟩ := letters_at m0 m1
          refine Rd.ixS letters_len hc1 ?_
          have e1 := cut_to (z := base') (k := j) (by omega)
          have e2 : ∀ d : Nat, (⟨#[d]⟩ : Str).length = 1 := fun d => rfl
          refine ⟨_, _, rfl, rfl, ?_, ?_⟩
          · rw [e1, e2]
            exact Nat.le_trans (show j + 1 ≤ 9 by omega) (by decide)
          walk_at "go"
          refine ⟨base', rfl, hbs, ?_⟩
          obtain ⟨k, hk⟩ := Int.eq_ofNat_of_zero_le (show 0 ≤ 1 + size by omega)
          rw [hk]
          have e3 := cut_mid (z := base') (j := j + 1) (k := k) (by omega) (by omega)
          have e4 : ((j + 1 : Nat) : Int) = (j : Int) + 1 := by omega
          rw [e4] at e3
          refine ⟨_, _, rfl, rfl, ?_, ?_⟩
          · rw [app_len, e1, e2, e3]
            exact Nat.le_trans (show j + 1 + (k - (j + 1)) ≤ 9 by omega) (by decide)
          have hz : NameOk (cutS base' none (some (j : Int)) ++ ⟨#[c]⟩ ++ cutS base' (some ((j : Int) + 1)) (some (k : Int))) :=
            ⟨by rw [app_len, app_len, e1, e2, e3]; omega, by rw [app_len, app_len, e1, e2, e3]; omega, lets_app (lets_app (cut_lets hb.lets _ _) (lets1 hc2 hc3)) (cut_lets hb.lets _ _)⟩
          walk_at "go"
          refine ⟨l, _, _, rfl, rfl, fl, small1000 (by rw [List.length_map]; omega), ?_⟩
          obtain ⟨g1, g2⟩ := grow xs _ i hx hm hz
          exact ⟨_, xs ++ [_], rfl, put _ xs _ P, by rw [upd_same, List.map_append]; rfl, g1, g2⟩
      · rintro σ' H' ⟨v, xs, rfl, P, fl, hx, hm⟩
        walk_at "go"
        exact fin H' xs P fl hx hm
end

section
variable {P : Program} {w : World} {K : PySem.W.Frag} {mg : Str → Option Value} {base : Heap}
theorem ok_law_rate {C : Addr} (T : Txt mg) (TC : Cls K C) (TA : TabNames K C) {f : Addr} {fd : FuncData} (F : C8.Def K mg "_law_rate" s__law_rate f fd) (b : Binds K fd ["pot", "least"] []) (c_law_draw : C8.Cal P w K mg base 1 "_law_draw" (sp__law_draw K) []) : C8.Cal P w K mg base 2 "_law_rate" (sp__law_rate K) [] := by
  refine C8.cal0 F b .nil sc__law_rate (fun vs H Q E h => ?_) (fun cdv A outer s H vs Q E hr h => ?_)
  · exact len__law_rate h
  · refine ⟨_, (pss_cons (ps_set (i := 2) sc__law_rate.nd rfl (by first | exact Or.inl rfl | exact Or.inr rfl) (C8.pe_c c_law_draw hr (by decide) (by rfl) (pa_cons (pv 0) (pa_cons pe_int pa_nil))))
  (pss_cons (ps_set (i := 3) sc__law_rate.nd rfl (by first | exact Or.inl rfl | exact Or.inr rfl) (pe_ix ix_list (pe_lst (pa_cons pe_int (pa_cons pe_int (pa_cons pe_int (pa_cons (pe_op op_pow pe_int pe_int) (pa_cons pe_int pa_nil)))))) (pv 2) (fun _ _ => rfl)))
  (pss_cons (ps_if (pt_cmpR op_eq (pv 2) pe_int (nomark _))
  (pss_one (ps_set (i := 3) sc__law_rate.nd rfl (by first | exact Or.inl rfl | exact Or.inr rfl) (C8.pe_c c_law_draw hr (by decide) (by rfl) (pa_cons (pv 0) (pa_cons (pe_op op_add (pe_op op_pow pe_int pe_int) pe_int) pa_nil)))))
  pss_nil)
  (pss_one (ps_ret (pe_callB (call_max2 rfl) (by rfl) T.n_max (by decide +kernel) (pa_cons (pv 3) (pa_cons (pv 1) pa_nil)))))))), ?_⟩
    obtain ⟨τ, a, least, rfl, hok, ht, h1, h2, q⟩ := h
    have e10 : (10 : Int) ^ (9 : Int).toNat = 1000000000 := by decide
    walk_at "go"
    refine ⟨τ, a, 5, rfl, hok, ht, by decide, by decide, fun k H1 P1 k0 k1 => ?_⟩
    walk_at "go"
    refine Rd.i1 ⟨by decide, by decide, by decide⟩ ?_
    rw [e10]
    walk_at "go"
    refine ⟨(by show 5 ≤ sizeLine; decide), fun l1 hl1 => ?_⟩
    have Q1 := P1.new (o := .lst [.int 0, .int 1, .int 50, .int 1000000000, .int 0]) hl1
    obtain ⟨x, hx, hx0, hx1⟩ := pick (xs := [0, 1, 50, 1000000000, 0]) (lo := 0) (hi := 1000000000) (by decide) k0 k1
    walk_at "go"
    refine Rd.ixL (sq_of upd_same) hx ?_
    generalize upd H1 l1 (.lst [.int 0, .int 1, .int 50, .int 1000000000, .int 0]) = G at Q1 ⊢
    walk_at "go"
    refine Rd.eq rfl ?_
    walk_at "go"
    refine Rd.itB (fun _ => ?_) (fun _ => ?_)
    · walk_at "go"
      refine Rd.i1 ⟨by decide, by decide, by decide⟩ ?_
      rw [e10]
      walk_at "go"
      refine ⟨τ, a, _, rfl, Q1.ok, ht, by decide, by decide, fun r H2 P2 r0 r1 => ?_⟩
      walk_at "go"
      refine ⟨_, _, rfl, ?_⟩
      walk_at "go"
      refine q _ _ (Q1.trans P2) ?_ ?_ <;> split <;> omega
    · walk_at "go"
      refine ⟨_, _, rfl, ?_⟩
      walk_at "go"
      refine q _ _ Q1 ?_ ?_ <;> split <;> omega
end

section
variable {P : Program} {w : World} {K : PySem.W.Frag} {mg : Str → Option Value} {base : Heap}
theorem ok_law_sizes {C : Addr} (T : Txt mg) (TC : Cls K C) (TA : TabNames K C) {f : Addr} {fd : FuncData} (F : C8.Def K mg "_law_sizes" s__law_sizes f fd) (b : Binds K fd ["pot"] []) (c_law_draw : C8.Cal P w K mg base 1 "_law_draw" (sp__law_draw K) []) : C8.Cal P w K mg base 2 "_law_sizes" (sp__law_sizes K) [] := by
  refine C8.cal0 F b .nil sc__law_sizes (fun vs H Q E h => ?_) (fun cdv A outer s H vs Q E hr h => ?_)
  · exact len__law_sizes h
  · refine ⟨_, (pss_cons (ps_if (pt_cmpR op_eq (C8.pe_c c_law_draw hr (by decide) (by rfl) (pa_cons (pv 0) (pa_cons pe_int pa_nil))) pe_int (nomark _))
  (pss_one (ps_ret (pe_lst (pa_cons (pe_op op_add pe_int (C8.pe_c c_law_draw hr (by decide) (by rfl) (pa_cons (pv 0) (pa_cons pe_int pa_nil)))) (pa_cons (C8.pe_c c_law_draw hr (by decide) (by rfl) (pa_cons (pv 0) (pa_cons pe_int pa_nil))) (pa_cons (pe_op op_add pe_int (C8.pe_c c_law_draw hr (by decide) (by rfl) (pa_cons (pv 0) (pa_cons pe_int pa_nil)))) pa_nil))))))
  pss_nil)
  (pss_cons (ps_set (i := 1) sc__law_sizes.nd rfl (by first | exact Or.inl rfl | exact Or.inr rfl) (pe_ix ix_list (pe_lst (pa_cons pe_int (pa_cons pe_int (pa_cons pe_int (pa_cons pe_int (pa_cons pe_int (pa_cons pe_int (pa_cons pe_int (pa_cons pe_int pa_nil))))))))) (C8.pe_c c_law_draw hr (by decide) (by rfl) (pa_cons (pv 0) (pa_cons pe_int pa_nil))) (fun _ _ => rfl)))
  (pss_cons (ps_set (i := 2) sc__law_sizes.nd rfl (by first | exact Or.inl rfl | exact Or.inr rfl) (pe_ix ix_list (pe_lst (pa_cons pe_int (pa_cons pe_int (pa_cons pe_int (pa_cons pe_int (pa_cons pe_int (pa_cons pe_int (pa_cons pe_int (pa_cons pe_int pa_nil))))))))) (C8.pe_c c_law_draw hr (by decide) (by rfl) (pa_cons (pv 0) (pa_cons pe_int pa_nil))) (fun _ _ => rfl)))
  (pss_one (ps_ret (pe_lst (pa_cons (pv 1) (pa_cons (pv 2) (pa_cons (pe_op op_add pe_int (C8.pe_c c_law_draw hr (by decide) (by rfl) (pa_cons (pv 0) (pa_cons pe_int pa_nil)))) pa_nil))))))))), ?_⟩
    obtain ⟨τ, a, rfl, hok, ht, q⟩ := h
    walk_at "go"
    refine ⟨τ, a, 3, rfl, hok, ht, by decide, by decide, fun v H1 P1 _ _ => ?_⟩
    walk_at "go"
    refine Rd.eq rfl ?_
    walk_at "go"
    refine Rd.itB (fun _ => ?_) (fun _ => ?_)
    · walk_at "go"
      refine ⟨τ, a, 8, rfl, P1.ok, ht, by decide, by decide, fun x H2 P2 x0 x1 => ?_⟩
      walk_at "go"
      refine ⟨τ, a, 7, rfl, P2.ok, ht, by decide, by decide, fun y H3 P3 y0 y1 => ?_⟩
      walk_at "go"
      refine ⟨τ, a, 6, rfl, P3.ok, ht, by decide, by decide, fun z H4 P4 z0 z1 => ?_⟩
      walk_at "go"
      refine ⟨(by show 3 ≤ sizeLine; decide), fun p hp => ?_⟩
      have P := ((P1.trans P2).trans P3).trans P4
      exact q (ext τ p (.ex (.lst [.int (1 + x), .int y, .int (1 + z)]))) _ p (1 + x) y (1 + z) ((P.new hp).kind (P.free hp) (P.tfree hp) upd_same rfl) ext_same (by omega) (by omega) (by omega) (by omega) (by omega) (by omega)
    · walk_at "go"
      refine ⟨(by show 8 ≤ sizeLine; decide), fun l1 hl1 => ?_⟩
      have Q1 := P1.new (o := .lst [.int 1, .int 2, .int 3, .int 3, .int 3, .int 4, .int 4, .int 4]) hl1
      walk_at "go"
      refine ⟨τ, a, 8, rfl, Q1.ok, ht, by decide, by decide, fun k1 H2 P2 x0 x1 => ?_⟩
      have f2 := P2.own upd_same (P1.tfree hl1)
      obtain ⟨x, hx, hx0, hx1⟩ := pick (xs := [1, 2, 3, 3, 3, 4, 4, 4]) (lo := 1) (hi := 4) (by decide) x0 x1
      refine Rd.ixL (sq_of f2.1) hx ?_
      have Q2 := Q1.trans P2
      walk_at "go"
      refine ⟨(by show 8 ≤ sizeLine; decide), fun l2 hl2 => ?_⟩
      have Q3 := Q2.new (o := .lst [.int 1, .int 2, .int 2, .int 2, .int 2, .int 3, .int 3, .int 3]) hl2
      walk_at "go"
      refine ⟨τ, a, 8, rfl, Q3.ok, ht, by decide, by decide, fun k2 H3 P3 y0 y1 => ?_⟩
      have f3 := P3.own upd_same (Q2.tfree hl2)
      obtain ⟨y, hy, hy0, hy1⟩ := pick (xs := [1, 2, 2, 2, 2, 3, 3, 3]) (lo := 1) (hi := 3) (by decide) y0 y1
      refine Rd.ixL (sq_of f3.1) hy ?_
      have Q4 := Q3.trans P3
      walk_at "go"
      refine ⟨τ, a, 3, rfl, Q4.ok, ht, by decide, by decide, fun z H5 P5 z0 z1 => ?_⟩
      walk_at "go"
      refine ⟨(by show 3 ≤ sizeLine; decide), fun p hp => ?_⟩
      have P := Q4.trans P5
      exact q (ext τ p (.ex (.lst [.int x, .int y, .int (1 + z)]))) _ p x y (1 + z) ((P.new hp).kind (P.free hp) (P.tfree hp) upd_same rfl) ext_same (by omega) (by omega) (by omega) (by omega) (by omega) (by omega)
end

section
variable {P : Program} {w : World} {K : PySem.W.Frag} {mg : Str → Option Value} {base : Heap}
theorem ok_law_spoilt {C : Addr} (T : Txt mg) (TC : Cls K C) (TA : TabNames K C) {f : Addr} {fd : FuncData} (F : C8.Def K mg "_law_spoilt" s__law_spoilt f fd) (b : Binds K fd ["pot", "core", "rows", "flags", "homes", "rates"] []) (c_law_draw : C8.Cal P w K mg base 1 "_law_draw" (sp__law_draw K) []) : C8.Cal P w K mg base 2 "_law_spoilt" (sp__law_spoilt K) [] := by
  refine C8.cal0 F b .nil sc__law_spoilt (fun vs H Q E h => ?_) (fun cdv A outer s H vs Q E hr h => ?_)
  · exact len__law_spoilt h
  · refine ⟨_, (pss_cons (ps_set (i := 6) sc__law_spoilt.nd rfl (by first | exact Or.inl rfl | exact Or.inr rfl) (pe_callB call_len_seq (by rfl) T.n_len (by decide +kernel) (pa_cons (pv 2) pa_nil)))
  (pss_one (ps_for PassesOwn.never rfl (pi_range1 (by rfl) T.n_range (pa_cons (C8.pe_c c_law_draw hr (by decide) (by rfl) (pa_cons (pv 0) (pa_cons pe_int pa_nil))) pa_nil)) (pg_name (i := 7) sc__law_spoilt.nd rfl (by first | exact Or.inl rfl | exact Or.inr rfl))
  (pss_cons (ps_set (i := 8) sc__law_spoilt.nd rfl (by first | exact Or.inl rfl | exact Or.inr rfl) (C8.pe_c c_law_draw hr (by decide) (by rfl) (pa_cons (pv 0) (pa_cons (pv 6) pa_nil))))
  (pss_cons (ps_if (pt_cmpR op_eq (C8.pe_c c_law_draw hr (by decide) (by rfl) (pa_cons (pv 0) (pa_cons pe_int pa_nil))) pe_int (nomark _))
  (pss_one (ps_set (i := 8) sc__law_spoilt.nd rfl (by first | exact Or.inl rfl | exact Or.inr rfl) (pe_op op_sub (pe_op op_sub (pv 1) pe_int) (C8.pe_c c_law_draw hr (by decide) (by rfl) (pa_cons (pv 0) (pa_cons (pe_callB (call_min2 rfl) (by rfl) T.n_min (by decide +kernel) (pa_cons pe_int (pa_cons (pv 1) pa_nil))) pa_nil))))))
  pss_nil)
  (pss_cons (ps_set (i := 9) sc__law_spoilt.nd rfl (by first | exact Or.inl rfl | exact Or.inr rfl) (C8.pe_c c_law_draw hr (by decide) (by rfl) (pa_cons (pv 0) (pa_cons pe_int pa_nil))))
  (pss_one (ps_if (pt_cmpR op_eq (pv 9) pe_int (nomark _))
  (pss_one (ps_dput (hu_of hr) (pv 5) (pe_ix ix_list (pv 4) (pv 8) (fun _ _ => rfl)) pe_int rfl))
  (pss_one (ps_if (pt_cmpR op_gt (pe_callB call_len_seq (by rfl) T.n_len (by decide +kernel) (pa_cons (pe_ix ix_list (pv 2) (pv 8) (fun _ _ => rfl)) pa_nil)) pe_int (nomark _))
  (pss_cons (ps_set (i := 10) sc__law_spoilt.nd rfl (by first | exact Or.inl rfl | exact Or.inr rfl) (C8.pe_c c_law_draw hr (by decide) (by rfl) (pa_cons (pv 0) (pa_cons (pe_callB call_len_seq (by rfl) T.n_len (by decide +kernel) (pa_cons (pe_ix ix_list (pv 2) (pv 8) (fun _ _ => rfl)) pa_nil)) pa_nil))))
  (pss_cons (ps_set (i := 11) sc__law_spoilt.nd rfl (by first | exact Or.inl rfl | exact Or.inr rfl) (pe_ix ix_list (pv 2) (pv 8) (fun _ _ => rfl)))
  (pss_cons (ps_set (i := 12) sc__law_spoilt.nd rfl (by first | exact Or.inl rfl | exact Or.inr rfl) (pe_ix ix_list (pv 3) (pv 8) (fun _ _ => rfl)))
  (pss_one (ps_if (pt_cmpR op_eq (pv 9) pe_int (nomark _))
  (pss_one (ps_asg (C8.pe_c c_law_draw hr (by decide) (by rfl) (pa_cons (pv 0) (pa_cons (pv 6) pa_nil))) (pg_sub (pv 11) (pv 10) set_list)))
  (pss_one (ps_asg (pe_not (pe_ix ix_list (pv 12) (pv 10) (fun _ _ => rfl))) (pg_sub (pv 12) (pv 10) set_list))))))))
  pss_nil)))))))))), ?_⟩
    obtain ⟨τ, a, core, r, fl, h', d, many, kinds, hs, cols, rfl, hok, ht, c1, c2, m1, m8, k6, tr, tf, th, hhl, hhc, td, hcl, q⟩ := h
    obtain ⟨o, hr0, ps0, rfl, hps0, hpt0⟩ := hok r _ tr
    walk_at "go"
    refine ⟨r, _, rfl, .inl (sq_of hr0), ?_⟩
    walk_at "go"
    rw [List.length_map, hps0]
    refine ⟨τ, a, 3, rfl, hok, ht, by decide, by decide, fun n H1 P1 n0 n1 => ?_⟩
    walk_at "go"
    refine ⟨n, rfl, by omega, by omega, ?_⟩
    refine for_range (fun i σ' H' => ∃ (v7 v8 v9 v10 v11 v12 : Option V), σ' = [some (.ref a), some (.int core), some (.ref r), some (.ref fl), some (.ref h'), some (.ref d), some (.int (many : Nat)), v7, v8, v9, v10, v11, v12] ∧ Post τ H τ H')
      ⟨_, _, _, _, _, _, rfl, P1⟩ ?_ ?_
    · rintro i σ' H' hi ⟨v7, v8, v9, v10, v11, v12, rfl, P⟩
      walk_at "go"
      refine ⟨τ, a, _, rfl, P.ok, ht, by omega, by omega, fun at' H2 P2 a0 a1 => ?_⟩
      refine Rd.gname ?_
      dsimp only
      refine Rd.seqR (fun σ' H' => ∃ (at' : Int) (v7 : Option V), σ' = [some (.ref a), some (.int core), some (.ref r), some (.ref fl), some (.ref h'), some (.ref d), some (.int (many : Nat)), v7, some (.int at'), v9, v10, v11, v12] ∧ Post τ H τ H' ∧ 0 ≤ at' ∧ at' < (many : Int)) (fun NX k => ?_) ?_
      · walk_at "go"
        refine ⟨τ, a, 2, rfl, P2.ok, ht, by decide, by decide, fun v H3 P3 _ _ => ?_⟩
        walk_at "go"
        refine Rd.eq rfl ?_
        walk_at "go"
        refine Rd.itB (fun _ => ?_) (fun _ => ?_)
        · walk_at "go"
          refine ⟨_, _, rfl, ?_⟩
          walk_at "go"
          have hm : 1 ≤ (if core < 2 then core else 2) ∧ (if core < 2 then core else 2) ≤ core ∧ (if core < 2 then core else 2) ≤ 2 := by split <;> omega
          refine ⟨τ, a, _, rfl, P3.ok, ht, by omega, by omega, fun w H4 P4 w0 w1 => ?_⟩
          walk_at "go"
          exact k _ _ ⟨_, _, rfl, ((P.trans P2).trans P3).trans P4, by omega, by omega⟩
        · walk_at "go"
          exact k _ _ ⟨_, _, rfl, (P.trans P2).trans P3, a0, a1⟩
      clear P P1 P2 a0 a1
      rintro σ' H' ⟨at', v7, rfl, P, a0, a1⟩
      walk_at "go"
      refine ⟨τ, a, 3, rfl, P.ok, ht, by decide, by decide, fun kind H3 P3 _ _ => ?_⟩
      have P4 := P.trans P3
      walk_at "go"
      refine Rd.eq rfl ?_
      walk_at "go"
      refine Rd.itB (fun _ => ?_) (fun _ => ?_)
      · walk_at "go"
        obtain ⟨c, hc1, hc2⟩ := pickS (cs := hs) a0 (by omega)
        refine Rd.ixL (sq_of (P4.at_ex th)) hc1 ?_
        obtain ⟨o, hd0, rs, rfl, hrn, hrc, hrv⟩ := P4.ok d _ td
        have hrl : rs.length ≤ 8 := by
          have := hrn.length_le_of_subset (fun x hx => (hrc x).mp hx)
          rw [List.length_map] at this
          omega
        refine ⟨d, _, rfl, .inl ⟨_, .inr c, hd0, rfl, small1000 (by rw [kvM_len]; omega), rfl⟩, ?_⟩
        rw [show putK (kvM V.int rs) (.inr c) (.int 0) = kvM V.int (putA rs c 0) from kvM_put _ _ _ _]
        refine ⟨_, _, _, _, _, _, rfl, P4.set td ⟨putA rs c 0, rfl, putA_nodup hrn, fun x => ?_, fun p hp => ?_⟩⟩
        · rw [putA_mem_keys, hrc x]
          exact ⟨fun z => z.elim id fun z => by rw [z]; exact hhc c hc2, .inl⟩
        · rcases putA_mem hp with ⟨z, _⟩ | z
          · exact hrv p z
          · rw [z]
            exact ⟨Int.le_refl 0, by show (0 : Int) ≤ 1000000000; decide⟩
      · obtain ⟨o, hr1, ps, rfl, hps, hpt⟩ := P4.ok r _ tr
        obtain ⟨p, hp1, hp2⟩ := pickR (ps := ps) a0 (by omega)
        have tp := hpt p hp2
        obtain ⟨o, hpp, xs, rfl, hxl, hxr⟩ := P4.ok p _ tp
        walk_at "go"
        refine Rd.ixL (sq_of hr1) hp1 ?_
        walk_at "go"
        refine ⟨p, _, rfl, .inl (sq_of hpp), ?_⟩
        walk_at "go"
        rw [List.length_map, hxl]
        refine Rd.itP (fun hk0 => ?_) (fun _ => ?_)
        · walk_at "go"
          refine Rd.ixL (sq_of hr1) hp1 ?_
          walk_at "go"
          refine ⟨p, _, rfl, .inl (sq_of hpp), ?_⟩
          walk_at "go"
          rw [List.length_map, hxl]
          refine ⟨τ, a, _, rfl, P4.ok, ht, by omega, by omega, fun k H5 P5 k0 k1 => ?_⟩
          have P6 := P4.trans P5
          clear hr1 hp1 hpp hps hpt hp2 hxl hxr tp
          obtain ⟨o, hr1, ps, rfl, hps, hpt⟩ := P6.ok r _ tr
          obtain ⟨p, hp1, hp2⟩ := pickR (ps := ps) a0 (by omega)
          have tp := hpt p hp2
          obtain ⟨o, hf1, qs, rfl, hqs, hqt⟩ := P6.ok fl _ tf
          obtain ⟨p', hp1', hp2'⟩ := pickR (ps := qs) a0 (by omega)
          have tp' := hqt p' hp2'
          obtain ⟨kn, rfl⟩ := Int.eq_ofNat_of_zero_le k0
          have hkn : kn < kinds := by omega
          walk_at "go"
          refine Rd.ixL (sq_of hr1) hp1 ?_
          walk_at "go"
          refine Rd.ixL (sq_of hf1) hp1' ?_
          walk_at "go"
          refine Rd.eq rfl ?_
          walk_at "go"
          refine Rd.itB (fun _ => ?_) (fun _ => ?_)
          · walk_at "go"
            refine ⟨τ, a, _, rfl, P6.ok, ht, by omega, by omega, fun v H7 P7 v0 v1 => ?_⟩
            have P8 := P6.trans P7
            obtain ⟨o, hpp, xs, rfl, hxl, hxr⟩ := P8.ok p _ tp
            walk_at "go"
            refine Rd.setL (ys := (xs.set kn v).map V.int) hpp (j := kn) (ixN_nat (by rw [List.length_map]; omega)) (by rw [List.map_set]) ?_
            refine ⟨_, _, _, _, _, _, rfl, P8.set tp ⟨_, rfl, by rw [List.length_set]; exact hxl, fun x hx => ?_⟩⟩
            rcases List.mem_or_eq_of_mem_set hx with z | z
            · exact hxr x z
            · rw [z]
              exact ⟨v0, v1⟩
          · obtain ⟨o, hpp, bs, rfl, hbl⟩ := P6.ok p' _ tp'
            obtain ⟨b, hb1, _⟩ := pickB (cs := bs) (v := (kn : Int)) (by omega) (by omega)
            walk_at "go"
            refine Rd.ixL (sq_of hpp) hb1 ?_
            walk_at "go"
            refine Rd.setL (ys := (bs.set kn (!b)).map V.bl) hpp (j := kn) (ixN_nat (by rw [List.length_map]; omega)) (by rw [List.map_set]) ?_
            exact ⟨_, _, _, _, _, _, rfl, P6.set tp' ⟨_, rfl, by rw [List.length_set]; exact hbl⟩⟩
        · walk_at "go"
          exact ⟨_, _, _, _, _, _, rfl, P4⟩
    · rintro σ' H' ⟨v7, v8, v9, v10, v11, v12, rfl, P⟩
      walk_at "go"
      exact q H' P
end

section
variable {P : Program} {w : World} {K : PySem.W.Frag} {mg : Str → Option Value} {base : Heap}
theorem ok_law_target {C : Addr} (T : Txt mg) (TC : Cls K C) (TA : TabNames K C) {f : Addr} {fd : FuncData} (F : C8.Def K mg "_law_target" s__law_target f fd) (b : Binds K fd ["pot", "style", "sizes", "at", "shift"] []) (c_law_draw : C8.Cal P w K mg base 1 "_law_draw" (sp__law_draw K) []) : C8.Cal P w K mg base 2 "_law_target" (sp__law_target K) [] := by
  refine C8.cal0 F b .nil sc__law_target (fun vs H Q E h => ?_) (fun cdv A outer s H vs Q E hr h => ?_)
  · exact len__law_target h
  · refine ⟨_, (pss_cons (ps_if (PW.pt (pw_or (pt_cmpR op_lt (pv 1) pe_int (nomark _)) (pw_or (pt_cmpR op_ge (pv 3) (pe_ix ix_list (pv 2) pe_int (fun _ _ => rfl)) (nomark _)) (pw_or1 (PW.pt (pw_and (pt_cmpR op_gt (pv 1) pe_int (nomark _)) (pw_and1 (pt_cmpR op_eq (pv 3) (pe_op op_sub (pe_ix ix_list (pv 2) pe_int (fun _ _ => rfl)) pe_int) (nomark _)))))))))
  (pss_one (ps_ret (C8.pe_c c_law_draw hr (by decide) (by rfl) (pa_cons (pv 0) (pa_cons (pe_ix ix_list (pv 2) pe_int (fun _ _ => rfl)) pa_nil)))))
  pss_nil)
  (pss_cons (ps_if (pt_cmpR op_eq (pv 1) pe_int (nomark _))
  (pss_one (ps_ret (pe_op op_modN (pe_callTy call_int1 (by rfl) T.n_int (by decide +kernel) (pa_cons (pe_op op_add (pv 3) (pv 4)) pa_nil)) (pe_ix ix_list (pv 2) pe_int (fun _ _ => rfl)))))
  pss_nil)
  (pss_cons (ps_if (pt_cmpR op_eq (pv 1) pe_int (nomark _))
  (pss_one (ps_ret (pe_callB (call_max2 rfl) (by rfl) T.n_max (by decide +kernel) (pa_cons (pv 3) (pa_cons (pv 4) pa_nil)))))
  pss_nil)
  (pss_one (ps_ret (pe_callB (call_min2 rfl) (by rfl) T.n_min (by decide +kernel) (pa_cons (pe_op op_add (pv 3) (pv 4)) (pa_cons (pe_op op_sub (pe_ix ix_list (pv 2) pe_int (fun _ _ => rfl)) pe_int) pa_nil)))))))), ?_⟩
    obtain ⟨τ, a, l, style, many, core, at', shift, rfl, hok, ht, hl, h1, h2, h3, h4, h5, h6, h7, q⟩ := h
    walk_at "go"
    refine Rd.itP (fun _ => ?_) (fun _ => ?_)
    · walk_at "go"
      refine Rd.ixL (sq_of hl) (atI_nat (j := 0) rfl) ?_
      walk_at "go"
      exact ⟨τ, a, many, rfl, hok, ht, by omega, by omega, q⟩
    walk_at "go"
    refine Rd.ixL (sq_of hl) (atI_nat (j := 1) rfl) ?_
    walk_at "go"
    refine Rd.itP (fun _ => ?_) (fun hc => ?_)
    · walk_at "go"
      refine Rd.ixL (sq_of hl) (atI_nat (j := 0) rfl) ?_
      walk_at "go"
      exact ⟨τ, a, many, rfl, hok, ht, by omega, by omega, q⟩
    walk_at "go"
    refine Rd.itP (fun _ => ?_) (fun _ => ?_)
    · walk_at "go"
      refine Rd.ixL (sq_of hl) (atI_nat (j := 1) rfl) ?_
      walk_at "go"
      refine Rd.eq rfl ?_
      walk_at "go"
      refine Rd.itB (fun _ => ?_) (fun _ => ?_)
      · walk_at "go"
        refine Rd.ixL (sq_of hl) (atI_nat (j := 0) rfl) ?_
        walk_at "go"
        exact ⟨τ, a, many, rfl, hok, ht, by omega, by omega, q⟩
      · walk_at "go"
        refine Rd.eq rfl ?_
        walk_at "go"
        refine Rd.itB (fun _ => ?_) (fun _ => ?_)
        · walk_at "go"
          refine .inl ⟨_, rfl, ?_⟩
          walk_at "go"
          refine Rd.ixL (sq_of hl) (atI_nat (j := 1) rfl) ?_
          refine Rd.mod (by omega) (fun m g0 g1 => ?_)
          walk_at "go"
          exact q m _ (Post.refl hok) g0 (by omega)
        · walk_at "go"
          refine Rd.eq rfl ?_
          walk_at "go"
          refine Rd.itB (fun e3 => ?_) (fun _ => ?_)
          · have e3 : style = 3 := V.int.inj (of_decide_eq_true e3)
            walk_at "go"
            refine ⟨_, _, rfl, ?_⟩
            walk_at "go"
            refine q _ _ (Post.refl hok) ?_ ?_ <;> split <;> omega
          · walk_at "go"
            refine Rd.ixL (sq_of hl) (atI_nat (j := 1) rfl) ?_
            walk_at "go"
            refine ⟨_, _, rfl, ?_⟩
            walk_at "go"
            refine q _ _ (Post.refl hok) ?_ ?_ <;> split <;> omega
    · walk_at "go"
      refine Rd.eq rfl ?_
      walk_at "go"
      refine Rd.itB (fun _ => ?_) (fun _ => ?_)
      · walk_at "go"
        refine .inl ⟨_, rfl, ?_⟩
        walk_at "go"
        refine Rd.ixL (sq_of hl) (atI_nat (j := 1) rfl) ?_
        refine Rd.mod (by omega) (fun m g0 g1 => ?_)
        walk_at "go"
        exact q m _ (Post.refl hok) g0 (by omega)
      · walk_at "go"
        refine Rd.eq rfl ?_
        walk_at "go"
        refine Rd.itB (fun e3 => ?_) (fun _ => ?_)
        · have e3 : style = 3 := V.int.inj (of_decide_eq_true e3)
          walk_at "go"
          refine ⟨_, _, rfl, ?_⟩
          walk_at "go"
          refine q _ _ (Post.refl hok) ?_ ?_ <;> split <;> omega
        · walk_at "go"
          refine Rd.ixL (sq_of hl) (atI_nat (j := 1) rfl) ?_
          walk_at "go"
          refine ⟨_, _, rfl, ?_⟩
          walk_at "go"
          refine q _ _ (Post.refl hok) ?_ ?_ <;> split <;> omega
end

section
variable {P : Program} {w : World} {K : PySem.W.Frag} {mg : Str → Option Value} {base : Heap}
theorem ok_law_targets {C : Addr} (T : Txt mg) (TC : Cls K C) (TA : TabNames K C) {f : Addr} {fd : FuncData} (F : C8.Def K mg "_law_targets" s__law_targets f fd) (b : Binds K fd ["pot", "many", "kinds"] []) (c_law_draw : C8.Cal P w K mg base 1 "_law_draw" (sp__law_draw K) []) (c_law_target : C8.Cal P w K mg base 2 "_law_target" (sp__law_target K) []) : C8.Cal P w K mg base 3 "_law_targets" (sp__law_targets K) [] := by
  refine C8.cal0 F b .nil sc__law_targets (fun vs H Q E h => ?_) (fun cdv A outer s H vs Q E hr h => ?_)
  · exact len__law_targets h
  · refine ⟨_, (pss_cons (ps_set (i := 3) sc__law_targets.nd rfl (by first | exact Or.inl rfl | exact Or.inr rfl) (C8.pe_c c_law_draw hr (by decide) (by rfl) (pa_cons (pv 0) (pa_cons pe_int pa_nil))))
  (pss_cons (ps_set (i := 4) sc__law_targets.nd rfl (by first | exact Or.inl rfl | exact Or.inr rfl) (pv 1))
  (pss_cons (ps_if (pt_cmpR op_eq (C8.pe_c c_law_draw hr (by decide) (by rfl) (pa_cons (pv 0) (pa_cons pe_int pa_nil))) pe_int (nomark _))
  (pss_one (ps_set (i := 4) sc__law_targets.nd rfl (by first | exact Or.inl rfl | exact Or.inr rfl) (pe_op op_add pe_int (C8.pe_c c_law_draw hr (by decide) (by rfl) (pa_cons (pv 0) (pa_cons (pv 1) pa_nil))))))
  pss_nil)
  (pss_cons (ps_setLc (i := 5) (own := [("k", 6)]) (g := (gName 6)) (tt := _) rfl sc__law_targets.nd rfl rfl (sw_true rfl rfl rfl (by decide +kernel)) (pi_range1 (by rfl) T.n_range (pa_cons (pv 2) pa_nil)) (blkOk_by (own := [("k", 6)]) (N := ["pot", "many", "kinds", "style", "core", "shifts", "k", "chain", "rows", "at", "shift"]) (sc := (C8.fnScope s__law_targets)) (by decide +kernel)) (fun _ _ _ _ _ => (pg_name (i := 6) sc__law_targets.nd rfl (by first | exact Or.inl rfl | exact Or.inr rfl))) (fun _ _ _ _ _ => pts_nil) (fun _ _ _ _ _ => (C8.pe_c c_law_draw hr (by decide) (by rfl) (pa_cons (pv 0) (pa_cons (pv 4) pa_nil)))))
  (pss_cons (ps_if (PW.pt (pw_and (pt_cmpR op_gt (pv 3) pe_int (nomark _)) (pw_and1 (pt_cmpR op_gt (pv 2) pe_int (nomark _)))))
  (pss_cons (ps_set (i := 7) sc__law_targets.nd rfl (by first | exact Or.inl rfl | exact Or.inr rfl) (C8.pe_c c_law_draw hr (by decide) (by rfl) (pa_cons (pv 0) (pa_cons (pv 2) pa_nil))))
  (pss_one (ps_setLc (i := 5) (own := [("k", 6)]) (g := (gName 6)) (tt := _) rfl sc__law_targets.nd rfl rfl (sw_true rfl rfl rfl (by decide +kernel)) (pi_range1 (by rfl) T.n_range (pa_cons (pv 2) pa_nil)) (blkOk_by (own := [("k", 6)]) (N := ["pot", "many", "kinds", "style", "core", "shifts", "k", "chain", "rows", "at", "shift"]) (sc := (C8.fnScope s__law_targets)) (by decide +kernel)) (fun _ _ _ _ _ => (pg_name (i := 6) sc__law_targets.nd rfl (by first | exact Or.inl rfl | exact Or.inr rfl))) (fun _ _ _ _ _ => pts_nil) (fun _ _ _ _ _ => (pe_callTy call_int1 (by rfl) T.n_int (by decide +kernel) (pa_cons (pe_or (pe_cmpR op_eq (pv 6) (pv 7) (nomark _)) (pe_one (pe_cmpR op_eq (pv 3) pe_int (nomark _)))) pa_nil))))))
  pss_nil)
  (pss_cons (ps_set (i := 8) sc__law_targets.nd rfl (by first | exact Or.inl rfl | exact Or.inr rfl) (pe_lst pa_nil))
  (pss_cons (ps_for PassesOwn.never rfl (pi_range1 (by rfl) T.n_range (pa_cons (pv 1) pa_nil)) (pg_name (i := 9) sc__law_targets.nd rfl (by first | exact Or.inl rfl | exact Or.inr rfl))
  (pss_one (ps_expr (pe_bm PySem.F.plainAttrs_list PySem.F.slot_list_append PySem.F.type_list_append mt_append (pv 8) (pa_cons (pe_lc (own := [("shift", 10)]) (g := (gName 10)) (tt := _) rfl sc__law_targets.nd (pi_list (pv 5)) (blkOk_by (own := [("shift", 10)]) (N := ["pot", "many", "kinds", "style", "core", "shifts", "k", "chain", "rows", "at", "shift"]) (sc := (C8.fnScope s__law_targets)) (by decide +kernel)) (fun _ _ _ _ _ => (pg_name (i := 10) sc__law_targets.nd rfl (by first | exact Or.inl rfl | exact Or.inr rfl))) (fun _ _ _ _ _ => pts_nil) (fun _ _ _ _ _ => (C8.pe_c c_law_target hr (by decide) (by rfl) (pa_cons (pv 0) (pa_cons (pv 3) (pa_cons (pe_lst (pa_cons (pv 1) (pa_cons (pv 4) pa_nil))) (pa_cons (pv 9) (pa_cons (pv 10) pa_nil)))))))) pa_nil)))))
  (pss_one (ps_ret (pe_lst (pa_cons (pv 4) (pa_cons (pv 8) pa_nil)))))))))))), ?_⟩
    obtain ⟨τ, a, many, kinds, rfl, hok, ht, h1, h2, h3, h4, q⟩ := h
    walk_at "go"
    refine ⟨τ, a, 8, rfl, hok, ht, by decide, by decide, fun style H1 P1 _ _ => ?_⟩
    refine Rd.gname ?_
    dsimp only
    refine Rd.seq ?_
    refine Rd.asg ?_
    refine Rd.var rfl ?_
    refine Rd.gname ?_
    dsimp only
    refine Rd.seqR (fun σ' H' => ∃ core, σ' = [some (.ref a), some (.int many), some (.int kinds), some (.int style), some (.int core), none, none, none, none, none, none] ∧ Post τ H τ H' ∧ 1 ≤ core ∧ core ≤ many) (fun NX k => ?_) ?_
    · walk_at "go"
      refine ⟨τ, a, 3, rfl, P1.ok, ht, by decide, by decide, fun v H2 P2 _ _ => ?_⟩
      walk_at "go"
      refine Rd.eq rfl ?_
      walk_at "go"
      refine Rd.itB (fun _ => ?_) (fun _ => ?_)
      · walk_at "go"
        refine ⟨τ, a, many, rfl, P2.ok, ht, by omega, by omega, fun v H3 P3 v0 v1 => ?_⟩
        walk_at "go"
        exact k _ _ ⟨_, rfl, (P1.trans P2).trans P3, by omega, by omega⟩
      · walk_at "go"
        exact k _ _ ⟨_, rfl, P1.trans P2, by omega, by omega⟩
    rintro σ' H' ⟨core, rfl, P, c0, c1⟩
    walk_at "go"
    refine ⟨kinds, rfl, by omega, by omega, fun S hS => lc_range (fun j H'' => Post τ H τ H'' ∧ ∃ zs : List Int, H'' S = some (.lst (zs.map V.int)) ∧ zs.length = j ∧ ∀ z ∈ zs, 0 ≤ z ∧ z < core)
      ⟨P.new hS, [], upd_same, rfl, fun x hx => nomatch hx⟩ ?_ ?_⟩
    · rintro j H2 hj ⟨P2, zs, fz, hz, hm⟩
      walk_at "go"
      refine ⟨rfl, ?_⟩
      walk_at "go"
      refine ⟨τ, a, core, rfl, P2.ok, ht, by omega, by omega, fun v H3 P3 v0 v1 => ?_⟩
      have fz2 := P3.own fz (P.tfree hS)
      refine ⟨_, fz2.1, small1000 (by rw [List.length_map]; omega), (P2.trans P3).mut (P.free hS) (P.tfree hS), zs ++ [v], by rw [upd_same, List.map_append]; rfl, by rw [List.length_append, hz]; rfl, fun x hx => ?_⟩
      rcases List.mem_append.mp hx with hx | hx
      · exact hm x hx
      · have : x = v := by simpa using hx
        rw [this]
        exact ⟨v0, v1⟩
    rintro H2 ⟨P2, zs, fz, hz, hm⟩
    have tS := P.tfree hS
    refine Rd.gname ?_
    dsimp only
    refine Rd.seqR (fun σ' H' => ∃ (S : Addr) (zs : List Int) (v6 v7 : Option V), σ' = [some (.ref a), some (.int many), some (.int kinds), some (.int style), some (.int core), some (.ref S), v6, v7, none, none, none] ∧ Post τ H τ H' ∧ H' S = some (.lst (zs.map V.int)) ∧ τ S = none ∧ zs.length = kinds.toNat ∧ ∀ z ∈ zs, 0 ≤ z ∧ (z < core ∨ 4 < style)) (fun NX k => ?_) ?_
    · have no : NX [some (.ref a), some (.int many), some (.int kinds), some (.int style), some (.int core), some (.ref S), none, none, none, none, none] H2 :=
        k _ _ ⟨S, zs, _, _, rfl, P2, fz, tS, hz, fun z hz => ⟨(hm z hz).1, .inl (hm z hz).2⟩⟩
      walk_at "go"
      refine Rd.itP (fun hs4 => ?_) (fun _ => ?_)
      · walk_at "go"
        refine Rd.itP (fun hk0 => ?_) (fun _ => ?_)
        · walk_at "go"
          refine ⟨τ, a, kinds, rfl, P2.ok, ht, by omega, by omega, fun ch H3 P3 _ _ => ?_⟩
          have P4 := P2.trans P3
          walk_at "go"
          refine ⟨kinds, rfl, by omega, by omega, fun S2 hS2 => lc_range (fun j H'' => Post τ H τ H'' ∧ ∃ zs : List Int, H'' S2 = some (.lst (zs.map V.int)) ∧ zs.length = j ∧ ∀ z ∈ zs, 0 ≤ z)
            ⟨P4.new hS2, [], upd_same, rfl, fun x hx => nomatch hx⟩ ?_ ?_⟩
          · rintro j H5 hj ⟨P5, zs, fz, hz, hm⟩
            have step : ∀ b : Bool, ∃ acc, H5 S2 = some (.lst acc) ∧ acc.length < sizeLine ∧ Post τ H τ (upd H5 S2 (.lst (acc ++ [V.int (if b = true then 1 else 0)]))) ∧ ∃ zs : List Int, upd H5 S2 (.lst (acc ++ [V.int (if b = true then 1 else 0)])) S2 = some (.lst (zs.map V.int)) ∧ zs.length = j + 1 ∧ ∀ z ∈ zs, 0 ≤ z := fun b => by
              refine ⟨_, fz, small1000 (by rw [List.length_map]; omega), P5.mut (P4.free hS2) (P4.tfree hS2), zs ++ [if b = true then 1 else 0], by rw [upd_same, List.map_append]; rfl, by rw [List.length_append, hz]; rfl, fun x hx => ?_⟩
              rcases List.mem_append.mp hx with hx | hx
              · exact hm x hx
              · have : x = if b = true then 1 else 0 := by simpa using hx
                rw [this]
                split <;> decide
            walk_at "go"
            refine ⟨rfl, ?_⟩
            walk_at "go"
            refine Rd.eq rfl ?_
            walk_at "go"
            refine Rd.itB (fun _ => ?_) (fun _ => ?_)
            · walk_at "go"
              exact .inr ⟨_, rfl, step _⟩
            · walk_at "go"
              refine Rd.eq rfl ?_
              walk_at "go"
              exact .inr ⟨_, rfl, step _⟩
          · rintro H5 ⟨P5, zs, fz, hz, hm⟩
            walk_at "go"
            exact k _ _ ⟨S2, zs, _, _, rfl, P5, fz, P4.tfree hS2, hz, fun z hz => ⟨hm z hz, .inr (by omega)⟩⟩
        · walk_at "go"
          exact no
      · walk_at "go"
        exact no
    clear fz hz hm tS hS P2 P P1
    rintro σ' H' ⟨S, zs, v6, v7, rfl, P, fz, tS, hz, hm⟩
    walk_at "go"
    refine ⟨(by show 0 ≤ sizeLine; decide), fun l hl => ?_⟩
    have hl0 := P.free hl
    have tl0 := P.tfree hl
    have nS : S ≠ l := ne_of_none fz hl
    walk_at "go"
    refine ⟨many, rfl, by omega, by omega, ?_⟩
    refine for_range (fun i σ' H' => ∃ (v9 v10 : Option V) (τ' : TM) (ps : List Addr), σ' = [some (.ref a), some (.int many), some (.int kinds), some (.int style), some (.int core), some (.ref S), v6, v7, some (.ref l), v9, v10] ∧ Post τ H τ' H' ∧ H' l = some (.lst (ps.map V.ref)) ∧ τ' l = none ∧ ps.length = i ∧ (∀ p ∈ ps, τ' p = some (.ints kinds.toNat many)) ∧ H' S = some (.lst (zs.map V.int)) ∧ τ' S = none)
      ⟨_, _, τ, [], rfl, P.new hl, upd_same, tl0, rfl, (fun p hp => nomatch hp), (by rw [upd_ne nS]; exact fz), tS⟩ ?_ ?_
    · rintro i σ' H' hi ⟨v9, v10, τ', ps, rfl, P, fl, tl, hps, hpt, fS, tS⟩
      walk_at "go"
      refine ⟨.inl ⟨rfl, _, sq_of fl⟩, ?_⟩
      walk_at "go"
      refine ⟨_, rfl, S, rfl, ⟨_, sq_of fS⟩, fun D hD => lc_list (K := K) (xs := zs.map V.int) (fun j H'' => Post τ' H' τ' H'' ∧ ∃ xs : List Int, H'' D = some (.lst (xs.map V.int)) ∧ xs.length = j ∧ ∀ x ∈ xs, 0 ≤ x ∧ x < many)
        ⟨(Post.refl P.ok).new hD, [], upd_same, rfl, fun x hx => nomatch hx⟩ (fun j H'' _ z => sq_of (z.1.own fS tS).1) ?_ ?_⟩
      · rintro j x H2 hx ⟨P2, xs, fx, hxs, hxm⟩
        have hjl := (List.getElem?_eq_some_iff.mp hx).1
        rw [List.length_map] at hjl
        rw [List.getElem?_map] at hx
        obtain ⟨z, hz2, rfl⟩ := Option.map_eq_some_iff.mp hx
        obtain ⟨z0, z1⟩ := hm z (List.mem_of_getElem? hz2)
        walk_at "go"
        refine ⟨rfl, ?_⟩
        walk_at "go"
        refine ⟨(by show 2 ≤ sizeLine; decide), fun t htn => ?_⟩
        have P3 := P2.new (o := .lst [.int many, .int core]) htn
        have nD : D ≠ t := ne_of_none fx htn
        have fx3 : upd H2 t (.lst [.int many, .int core]) D = some (.lst (xs.map V.int)) := by rw [upd_ne nD]; exact fx
        walk_at "go"
        refine ⟨τ', a, t, style, many, core, _, z, rfl, P3.ok, P.ty _ _ ht, upd_same, c0, c1, h2, by omega, by omega, z0, z1, fun v H4 P4 v0 v1 => ?_⟩
        have fx4 := P4.own fx3 (P.ok.none hD)
        refine ⟨_, fx4.1, small1000 (by rw [List.length_map]; omega), (P3.trans P4).mut hD (P.ok.none hD), xs ++ [v], by rw [upd_same, List.map_append]; rfl, by rw [List.length_append, hxs]; rfl, fun y hy => ?_⟩
        rcases List.mem_append.mp hy with hy | hy
        · exact hxm y hy
        · have : y = v := by simpa using hy
          rw [this]
          exact ⟨v0, v1⟩
      · rintro H2 ⟨P2, xs, fx, hxs, hxm⟩
        rw [List.length_map, hz] at hxs
        walk_at "go"
        have fl2 := P2.own fl tl
        have fS2 := P2.own fS tS
        have tD : τ' D = none := P.ok.none hD
        have nl : l ≠ D := ne_of_none fl hD
        have nS2 : S ≠ D := ne_of_none fS hD
        have P3 := P.trans P2
        refine ⟨l, _, _, rfl, rfl, fl2.1, small1000 (by rw [List.length_map]; omega), ?_⟩
        have P4 := (P3.kind (t := .ints kinds.toNat many) (P.free hD) tD fx ⟨xs, rfl, hxs, hxm⟩).mut (o := .lst (ps.map V.ref ++ [.ref D])) hl0 (by rw [ext_ne nl]; exact tl)
        refine ⟨_, _, _, ps ++ [D], rfl, P4, by rw [upd_same, List.map_append]; rfl, by rw [ext_ne nl]; exact tl, by rw [List.length_append, hps]; rfl, fun p hp => ?_, by rw [upd_ne nS]; exact fS2.1, by rw [ext_ne nS2]; exact tS⟩
        rcases List.mem_append.mp hp with hp | hp
        · have z := hpt p hp
          rw [ext_ne (fun e => by rw [e, tD] at z; cases z)]
          exact z
        · have : p = D := by simpa using hp
          rw [this]
          exact ext_same
    · rintro σ' H' ⟨v9, v10, τ', ps, rfl, P, fl, tl, hps, hpt, fS, tS⟩
      have P5 := P.kind (t := .rows many.toNat (.ints kinds.toNat many)) hl0 tl fl ⟨ps, rfl, hps, hpt⟩
      walk_at "go"
      refine ⟨(by show 2 ≤ sizeLine; decide), fun r hr => ?_⟩
      have nr : l ≠ r := ne_of_none fl hr
      have P6 := (P5.new (o := .lst [.int core, .ref l]) hr).kind (t := .ex (.lst [.int core, .ref l])) (P.free hr) (P5.tfree hr) upd_same rfl
      exact q _ _ r l core P6 ext_same (by rw [ext_ne nr]; exact ext_same) c0 c1
end

abbrev planKs : List Str := ["first", "homes", "rates", "steps", "causes"]
theorem planKs_nd : planKs.Nodup := by decide +kernel
abbrev planK (n0 : Str) (dh rt dst lc : Addr) : List (Key × V) := [(.inr "first", .str n0), (.inr "homes", .ref dh), (.inr "rates", .ref rt), (.inr "steps", .ref dst), (.inr "causes", .ref lc)]
structure FillInv (nm cl ck : List Str) (idx : List Nat) (i : Nat) (hs : List (Str × Str)) (st : List Row) : Prop where
  hk : ∀ k, k ∈ hs.map (·.1) ↔ ∃ j ∈ idx.take i, nm[j]? = some k
  hn : (hs.map (·.1)).Nodup
  hv : ∀ p ∈ hs, p.2 ∈ ck
  hl : hs.length ≤ i
  sn : (st.map (·.1)).Nodup
  sv : ∀ e ∈ st, e.2.1 ∈ nm
  sk : ∀ k : Str × Str, k ∈ st.map (·.1) ↔ (∃ j ∈ idx.take i, nm[j]? = some k.1) ∧ k.2 ∈ cl
theorem FillInv.step {nm cl ck : List Str} {idx : List Nat} {i j : Nat} {hs : List (Str × Str)} {st st' : List Row} {n h : Str} (I : FillInv nm cl ck idx i hs st) (hj : idx[i]? = some j) (hn : nm[j]? = some n) (hh : h ∈ ck)
    (s1 : (st.map (·.1)).Nodup → (st'.map (·.1)).Nodup) (s2 : ∀ e ∈ st', e ∈ st ∨ (e.1.1 = n ∧ e.1.2 ∈ cl ∧ e.2.1 ∈ nm)) (s3 : ∀ (k : Str × Str), k ∈ st'.map (·.1) ↔ k ∈ st.map (·.1) ∨ (k.1 = n ∧ k.2 ∈ cl)) :
    FillInv nm cl ck idx (i + 1) (putA hs n h) st' := by
  have grow : ∀ k, (∃ x ∈ idx.take (i + 1), nm[x]? = some k) ↔ (∃ x ∈ idx.take i, nm[x]? = some k) ∨ k = n := fun k => by
    rw [List.take_add_one, hj]
    constructor
    · rintro ⟨x, hx, e⟩
      rcases List.mem_append.mp hx with hx | hx
      · exact .inl ⟨x, hx, e⟩
      · have : x = j := by simpa using hx
        rw [this, hn] at e
        exact .inr (Option.some.inj e).symm
    · rintro (⟨x, hx, e⟩ | e)
      · exact ⟨x, List.mem_append_left _ hx, e⟩
      · exact ⟨j, List.mem_append_right _ (by simp), by rw [hn, e]⟩
  refine ⟨fun k => ?_, putA_nodup I.hn, fun p hp => ?_, ?_, s1 I.sn, fun e he => ?_, fun k => ?_⟩
  · rw [putA_mem_keys, I.hk k, grow k]
  · rcases putA_mem hp with ⟨z, _⟩ | z
    · exact I.hv p z
    · rw [z]; exact hh
  · have := putA_len (l := hs) (k := n) (v := h)
    have := I.hl
    omega
  · rcases s2 e he with z | z
    · exact I.sv e z
    · exact z.2.2
  · rw [s3 k, I.sk k, grow k.1]
    constructor
    · rintro (⟨a, b⟩ | ⟨a, b⟩)
      · exact ⟨.inl a, b⟩
      · exact ⟨.inr a, b⟩
    · rintro ⟨a | a, b⟩
      · exact .inl ⟨a, b⟩
      · exact .inr ⟨a, b⟩
theorem FillInv.small {nm cl ck : List Str} {idx : List Nat} {i : Nat} {hs : List (Str × Str)} {st : List Row} (I : FillInv nm cl ck idx i hs st) (h1 : nm.length ≤ 8) (h2 : cl.length ≤ 6) : st.length ≤ 48 := by
  have := prod_len (A := nm) (B := cl) I.sn fun k hk => by
    obtain ⟨⟨j, _, e⟩, b⟩ := (I.sk k).mp hk
    exact ⟨List.mem_of_getElem? e, b⟩
  rw [List.length_map] at this
  have : nm.length * cl.length ≤ 8 * 6 := Nat.mul_le_mul h1 h2
  omega
theorem FillInv.tab {nm cl ck cs : List Str} {idx : List Nat} {i X : Nat} {hs : List (Str × Str)} {st : List Row} {rs : List (Str × Int)} {n0 : Str} (I : FillInv nm cl ck idx i hs st) (hi : idx.length ≤ i) (hX : i ≤ 8) (hnX : nm.length = X) (hidx : ∀ j, j < X → j ∈ idx) (h0 : nm[0]? = some n0)
    (hnm : ∀ x ∈ nm, NameOk x) (hcm : ∀ c ∈ cl, NameOk c) (hkm : ∀ c ∈ ck, NameOk c) (hperm : cs.Perm cl) (hcl : cl.length ≤ 6) (hk6 : ck.length ≤ 6) (hk1 : 1 ≤ ck.length)
    (hrn : (rs.map (·.1)).Nodup) (hrk : ∀ x, x ∈ rs.map (·.1) ↔ x ∈ ck) (hrv : ∀ p ∈ rs, 0 ≤ p.2 ∧ p.2 ≤ 1000000000) : TabOk ⟨n0, hs, rs, st⟩ cs := by
  have et : idx.take i = idx := List.take_of_length_le hi
  have keys : ∀ k, k ∈ hs.map (·.1) ↔ k ∈ nm := fun k => by
    rw [I.hk k, et]
    constructor
    · rintro ⟨j, _, e⟩
      exact List.mem_of_getElem? e
    · intro hk
      obtain ⟨j, hj, e⟩ := List.getElem_of_mem hk
      exact ⟨j, hidx j (by omega), by rw [List.getElem?_eq_getElem hj, e]⟩
  have hm0 : n0 ∈ nm := List.mem_of_getElem? h0
  have hpos : 1 ≤ hs.length := by
    have := (keys n0).mpr hm0
    obtain ⟨p, hp, _⟩ := List.mem_map.mp this
    exact List.length_pos_of_mem hp
  have hrl : rs.length ≤ 6 := by
    have := hrn.length_le_of_subset (fun x hx => (hrk x).mp hx)
    rw [List.length_map] at this
    omega
  have hrl1 : 1 ≤ rs.length := by
    obtain ⟨c, hc⟩ := List.exists_mem_of_length_pos hk1
    obtain ⟨p, hp, _⟩ := List.mem_map.mp ((hrk c).mpr hc)
    exact List.length_pos_of_mem hp
  have hl := I.hl
  refine ⟨(keys n0).mpr hm0, ⟨hpos, by show hs.length ≤ 8; omega, fun p hp => ⟨hnm _ ((keys _).mp (List.mem_map.mpr ⟨p, hp, rfl⟩)), hkm _ (I.hv p hp), (hrk _).mpr (I.hv p hp)⟩⟩, I.hn, ⟨hrl1, hrl, fun p hp => ⟨hkm _ ((hrk _).mp (List.mem_map.mpr ⟨p, hp, rfl⟩)), hrv p hp⟩⟩, hrn, I.sn, fun e he => ?_, fun s hs' c hc => ?_, fun c hc => hcm c (hperm.mem_iff.mp hc), by rw [hperm.length_eq]; exact hcl⟩
  · obtain ⟨⟨j, _, e1⟩, e2⟩ := (I.sk e.1).mp (List.mem_map.mpr ⟨e, he, rfl⟩)
    exact ⟨(keys _).mpr (List.mem_of_getElem? e1), hperm.mem_iff.mpr e2, (keys _).mpr (I.sv e he)⟩
  · have : (s, c) ∈ st.map (·.1) := (I.sk (s, c)).mpr ⟨by rw [← I.hk]; exact hs', hperm.mem_iff.mp hc⟩
    exact Option.isSome_iff_exists.mp (getA_isSome.mpr this)
theorem order_eq (F X : Nat) : rgV (F : Int) (X : Int) ++ rgV 0 (F : Int) = ((List.range (X - F)).map (fun i => F + i) ++ List.range F).map (fun j : Nat => V.int (j : Int)) := by
  unfold rgV
  rw [List.map_append, List.map_map, show ((X : Int) - (F : Int)).toNat = X - F by omega, show ((F : Int) - 0).toNat = F by omega]
  congr 1
  refine List.map_congr_left fun i _ => ?_
  show V.int (0 + (i : Int)) = V.int (i : Int)
  rw [Int.zero_add]
section
variable {P : Program} {w : World} {K : PySem.W.Frag} {mg : Str → Option Value} {base : Heap}
theorem ok_law_plan {C : Addr} (T : Txt mg) (TC : Cls K C) (TA : TabNames K C) {f : Addr} {fd : FuncData} (F : C8.Def K mg "_law_plan" s__law_plan f fd) (b : Binds K fd ["script"] []) (c_law_draw : C8.Cal P w K mg base 1 "_law_draw" (sp__law_draw K) []) (c_law_fill : C8.Cal P w K mg base 1 "_law_fill" (sp__law_fill K) []) (c_law_flags : C8.Cal P w K mg base 2 "_law_flags" (sp__law_flags K) []) (c_law_homes : C8.Cal P w K mg base 2 "_law_homes" (sp__law_homes K) []) (c_law_names : C8.Cal P w K mg base 3 "_law_names" (sp__law_names K) []) (c_law_pot : C8.Cal P w K mg base 1 "_law_pot" (sp__law_pot K) []) (c_law_rate : C8.Cal P w K mg base 2 "_law_rate" (sp__law_rate K) []) (c_law_sizes : C8.Cal P w K mg base 2 "_law_sizes" (sp__law_sizes K) []) (c_law_spoilt : C8.Cal P w K mg base 2 "_law_spoilt" (sp__law_spoilt K) []) (c_law_targets : C8.Cal P w K mg base 3 "_law_targets" (sp__law_targets K) []) : C8.Cal P w K mg base 4 "_law_plan" (sp__law_plan K) [] := by
  refine C8.cal0 F b .nil sc__law_plan (fun vs H Q E h => ?_) (fun cdv A outer s H vs Q E hr h => ?_)
  · exact len__law_plan h
  · refine ⟨_, (pss_cons (ps_set (i := 1) sc__law_plan.nd rfl (by first | exact Or.inl rfl | exact Or.inr rfl) (C8.pe_c c_law_pot hr (by decide) (by rfl) (pa_cons (pv 0) (pa_cons pe_int pa_nil))))
  (pss_cons (ps_set (i := 2) sc__law_plan.nd rfl (by first | exact Or.inl rfl | exact Or.inr rfl) (C8.pe_c c_law_sizes hr (by decide) (by rfl) (pa_cons (pv 1) pa_nil)))
  (pss_cons (ps_set (i := 3) sc__law_plan.nd rfl (by first | exact Or.inl rfl | exact Or.inr rfl) (pe_lst (pa_cons (pe_cmpR op_eq (C8.pe_c c_law_draw hr (by decide) (by rfl) (pa_cons (pv 1) (pa_cons pe_int pa_nil))) pe_int (nomark _)) (pa_cons (pe_cmpR op_eq (C8.pe_c c_law_draw hr (by decide) (by rfl) (pa_cons (pv 1) (pa_cons pe_int pa_nil))) pe_int (nomark _)) pa_nil))))
  (pss_cons (ps_set (i := 4) sc__law_plan.nd rfl (by first | exact Or.inl rfl | exact Or.inr rfl) (C8.pe_c c_law_draw hr (by decide) (by rfl) (pa_cons (pv 1) (pa_cons (pe_ix ix_list (pv 2) pe_int (fun _ _ => rfl)) pa_nil))))
  (pss_cons (ps_set (i := 5) sc__law_plan.nd rfl (by first | exact Or.inl rfl | exact Or.inr rfl) (C8.pe_c c_law_names hr (by decide) (by rfl) (pa_cons (C8.pe_c c_law_pot hr (by decide) (by rfl) (pa_cons (pv 0) (pa_cons pe_int pa_nil))) (pa_cons (pe_ix ix_list (pv 2) pe_int (fun _ _ => rfl)) pa_nil))))
  (pss_cons (ps_set (i := 6) sc__law_plan.nd rfl (by first | exact Or.inl rfl | exact Or.inr rfl) (C8.pe_c c_law_names hr (by decide) (by rfl) (pa_cons (C8.pe_c c_law_pot hr (by decide) (by rfl) (pa_cons (pv 0) (pa_cons pe_int pa_nil))) (pa_cons (pe_ix ix_list (pv 2) pe_int (fun _ _ => rfl)) pa_nil))))
  (pss_cons (ps_if (PW.pt (pw_and (pt_val (pe_ix ix_list (pv 3) pe_int (fun _ _ => rfl))) (pw_and1 (pt_cmpR op_le (pe_ix ix_list (pv 2) pe_int (fun _ _ => rfl)) (pe_ix ix_list (pv 2) pe_int (fun _ _ => rfl)) (nomark _)))))
  (pss_one (ps_set (i := 6) sc__law_plan.nd rfl (by first | exact Or.inl rfl | exact Or.inr rfl) (pe_slice sl_list (pv 5) po_none (po_some (pe_ix ix_list (pv 2) pe_int (fun _ _ => rfl))))))
  pss_nil)
  (pss_cons (ps_set (i := 7) sc__law_plan.nd rfl (by first | exact Or.inl rfl | exact Or.inr rfl) (C8.pe_c c_law_names hr (by decide) (by rfl) (pa_cons (C8.pe_c c_law_pot hr (by decide) (by rfl) (pa_cons (pv 0) (pa_cons pe_int pa_nil))) (pa_cons (pe_ix ix_list (pv 2) pe_int (fun _ _ => rfl)) pa_nil))))
  (pss_cons (ps_if (PW.pt (pw_and (pt_val (pe_ix ix_list (pv 3) pe_int (fun _ _ => rfl))) (pw_and1 (pt_cmpR op_le (pe_ix ix_list (pv 2) pe_int (fun _ _ => rfl)) (pe_ix ix_list (pv 2) pe_int (fun _ _ => rfl)) (nomark _)))))
  (pss_one (ps_set (i := 7) sc__law_plan.nd rfl (by first | exact Or.inl rfl | exact Or.inr rfl) (pe_slice sl_list (pv 5) po_none (po_some (pe_ix ix_list (pv 2) pe_int (fun _ _ => rfl))))))
  pss_nil)
  (pss_cons (ps_set (i := 8) sc__law_plan.nd rfl (by first | exact Or.inl rfl | exact Or.inr rfl) (C8.pe_c c_law_targets hr (by decide) (by rfl) (pa_cons (C8.pe_c c_law_pot hr (by decide) (by rfl) (pa_cons (pv 0) (pa_cons pe_int pa_nil))) (pa_cons (pe_ix ix_list (pv 2) pe_int (fun _ _ => rfl)) (pa_cons (pe_ix ix_list (pv 2) pe_int (fun _ _ => rfl)) pa_nil)))))
  (pss_cons (ps_set (i := 1) sc__law_plan.nd rfl (by first | exact Or.inl rfl | exact Or.inr rfl) (C8.pe_c c_law_pot hr (by decide) (by rfl) (pa_cons (pv 0) (pa_cons pe_int pa_nil))))
  (pss_cons (ps_set (i := 9) sc__law_plan.nd rfl (by first | exact Or.inl rfl | exact Or.inr rfl) (C8.pe_c c_law_flags hr (by decide) (by rfl) (pa_cons (pv 1) (pa_cons (pe_ix ix_list (pv 2) pe_int (fun _ _ => rfl)) (pa_cons (pe_ix ix_list (pv 2) pe_int (fun _ _ => rfl)) pa_nil)))))
  (pss_cons (ps_set (i := 10) sc__law_plan.nd rfl (by first | exact Or.inl rfl | exact Or.inr rfl) (C8.pe_c c_law_homes hr (by decide) (by rfl) (pa_cons (pv 1) (pa_cons (pe_ix ix_list (pv 2) pe_int (fun _ _ => rfl)) (pa_cons (pv 7) pa_nil)))))
  (pss_cons (ps_set (i := 11) sc__law_plan.nd rfl (by first | exact Or.inl rfl | exact Or.inr rfl) (C8.pe_c c_law_draw hr (by decide) (by rfl) (pa_cons (pv 1) (pa_cons pe_int pa_nil))))
  (pss_cons (ps_set (i := 12) sc__law_plan.nd rfl (by first | exact Or.inl rfl | exact Or.inr rfl) pe_dnewK)
  (pss_cons (ps_for PassesOwn.never rfl (pi_list (pv 7)) (pg_name (i := 13) sc__law_plan.nd rfl (by first | exact Or.inl rfl | exact Or.inr rfl))
  (pss_one (ps_dput (hu_of hr) (pv 12) (pv 13) (C8.pe_c c_law_rate hr (by decide) (by rfl) (pa_cons (pv 1) (pa_cons (pv 11) pa_nil))) rfl)))
  (pss_cons (ps_expr (C8.pe_c c_law_spoilt hr (by decide) (by rfl) (pa_cons (C8.pe_c c_law_pot hr (by decide) (by rfl) (pa_cons (pv 0) (pa_cons pe_int pa_nil))) (pa_cons (pe_ix ix_list (pv 8) pe_int (fun _ _ => rfl)) (pa_cons (pe_ix ix_list (pv 8) pe_int (fun _ _ => rfl)) (pa_cons (pv 9) (pa_cons (pv 10) (pa_cons (pv 12) pa_nil))))))))
  (pss_cons (ps_set (i := 14) sc__law_plan.nd rfl (by first | exact Or.inl rfl | exact Or.inr rfl) (pe_op op_cat (pe_listRg rfl (by rfl) T.n_list (prg_2 (by rfl) T.n_range (pv 4) (pe_ix ix_list (pv 2) pe_int (fun _ _ => rfl)))) (pe_listRg rfl (by rfl) T.n_list (prg_1 (by rfl) T.n_range (pv 4)))))
  (pss_cons (ps_set (i := 15) sc__law_plan.nd rfl (by first | exact Or.inl rfl | exact Or.inr rfl) (pe_disp (pps_cons pe_str (pe_ix ix_list (pv 5) pe_int (fun _ _ => rfl)) (pps_cons pe_str pe_dnewK (pps_cons pe_str (pv 12) (pps_cons pe_str pe_dnewT (pps_cons pe_str (pe_callB cr_sortedS (by rfl) T.n_sorted (by decide +kernel) (pa_cons (pv 6) pa_nil)) pps_nil))))) (by rfl) (by rfl) (fun z => by cases z) (by decide)))
  (pss_cons (ps_for PassesOwn.never rfl (pi_list (pv 14)) (pg_name (i := 16) sc__law_plan.nd rfl (by first | exact Or.inl rfl | exact Or.inr rfl))
  (pss_one (ps_expr (C8.pe_c c_law_fill hr (by decide) (by rfl) (pa_cons (pv 15) (pa_cons (pv 5) (pa_cons (pv 6) (pa_cons (pv 16) (pa_cons (pe_lst (pa_cons (pe_ix ix_list (pe_ix ix_list (pv 8) pe_int (fun _ _ => rfl)) (pv 16) (fun _ _ => rfl)) (pa_cons (pe_ix ix_list (pv 9) (pv 16) (fun _ _ => rfl)) (pa_cons (pe_ix ix_list (pv 10) (pv 16) (fun _ _ => rfl)) pa_nil)))) pa_nil)))))))))
  (pss_one (ps_ret (pv 15))))))))))))))))))))))), ?_⟩
    obtain ⟨a, ns, rfl, hs, hn, q⟩ := h
    have sc : ∀ {τ G}, Post (fun _ => none) H τ G → ScrAt K τ G a ns := fun P => (ScrAt.of hs).mono P
    walk_at "go"
    refine ⟨fun _ => none, a, ns, 0, rfl, hty0 H, .of hs, hn, by decide, by decide, fun τ1 H1 p1 P1 t1 _ => ?_⟩
    have i1 : Pl H [(p1, .pot)] τ1 H1 := ⟨P1, fun q hq => by rw [List.mem_singleton.mp hq]; exact t1⟩
    walk_at "go"
    refine ⟨τ1, p1, rfl, i1.P.ok, i1.get (by simp), fun τ2 H2 sz x y z R t x1 x2 y1 y2 z1 z2 => ?_⟩
    obtain ⟨X, rfl⟩ := Int.eq_ofNat_of_zero_le (show 0 ≤ x by omega)
    obtain ⟨Y, rfl⟩ := Int.eq_ofNat_of_zero_le (show 0 ≤ y by omega)
    obtain ⟨Z, rfl⟩ := Int.eq_ofNat_of_zero_le (show 0 ≤ z by omega)
    have i2 := (i1.step R).add t
    walk_at "go"
    refine ⟨τ2, p1, 3, rfl, i2.P.ok, i2.get (by simp), by decide, by decide, fun v1 H3 R3 _ _ => ?_⟩
    have i3 := i2.step R3
    walk_at "go"
    refine Rd.eq rfl ?_
    walk_at "go"
    refine ⟨τ2, p1, 3, rfl, i3.P.ok, i3.get (by simp), by decide, by decide, fun v2 H4 R4 _ _ => ?_⟩
    have i4 := i3.step R4
    walk_at "go"
    refine Rd.eq rfl ?_
    generalize decide (V.int v1 = V.int 0) = b1
    generalize decide (V.int v2 = V.int 0) = b2
    walk_at "go"
    refine ⟨(by show 2 ≤ sizeLine; decide), fun sh hsh => ?_⟩
    have i5 := i4.exl (o := .lst [.bl b1, .bl b2]) hsh
    generalize upd H4 sh (.lst [.bl b1, .bl b2]) = H5 at i5 ⊢
    walk_at "go"
    refine Rd.ixL (sq_of (i5.at_ex (p := sz) (o := .lst [.int (X : Nat), .int (Y : Nat), .int (Z : Nat)]) (by simp))) (atI_nat (j := 0) rfl) ?_
    walk_at "go"
    refine ⟨_, p1, X, rfl, i5.P.ok, i5.get (by simp), by omega, by omega, fun first H6 R6 f0 f1 => ?_⟩
    have i6 := i5.step R6
    walk_at "go"
    refine ⟨_, a, ns, 1, rfl, i6.P.ok, sc i6.P, hn, by decide, by decide, fun τ7 H7 p7 R7 t7 _ => ?_⟩
    have i7 := (i6.step R7).add t7
    walk_at "go"
    refine Rd.ixL (sq_of (i7.at_ex (p := sz) (o := .lst [.int (X : Nat), .int (Y : Nat), .int (Z : Nat)]) (by simp))) (atI_nat (j := 0) rfl) ?_
    walk_at "go"
    refine ⟨_, p7, X, rfl, i7.P.ok, i7.get (by simp), by omega, by omega, fun τ8 H8 pn nm R8 t8 hnl hnm => ?_⟩
    have i8 := (i7.step R8).add t8
    walk_at "go"
    refine ⟨_, a, ns, 2, rfl, i8.P.ok, sc i8.P, hn, by decide, by decide, fun τ9 H9 p9 R9 t9 _ => ?_⟩
    have i9 := (i8.step R9).add t9
    walk_at "go"
    refine Rd.ixL (sq_of (i9.at_ex (p := sz) (o := .lst [.int (X : Nat), .int (Y : Nat), .int (Z : Nat)]) (by simp))) (atI_nat (j := 1) rfl) ?_
    walk_at "go"
    refine ⟨_, p9, Y, rfl, i9.P.ok, i9.get (by simp), by omega, by omega, fun τ10 H10 pc0 cl0 R10 t10 hcl0 hcm0 => ?_⟩
    have i10 := (i9.step R10).add t10
    have hnX : nm.length = X := by omega
    refine Rd.gname ?_
    dsimp only
    refine Rd.seqR (fun σ' H' => ∃ (τ' : TM) (pc : Addr) (cl : List Str), σ' = [some (.ref a), some (.ref p1), some (.ref sz), some (.ref sh), some (.int first), some (.ref pn), some (.ref pc), none, none, none, none, none, none, none, none, none, none] ∧
      Pl H [(pc, .ex (.lst (cl.map V.str))), (pn, .ex (.lst (nm.map V.str))), (sh, .ex (.lst [.bl b1, .bl b2])), (sz, .ex (.lst [.int (X : Nat), .int (Y : Nat), .int (Z : Nat)])), (p1, .pot)] τ' H' ∧ cl.length = Y ∧ ∀ c ∈ cl, NameOk c) (fun NX k => ?_) ?_
    · have no : NX [some (.ref a), some (.ref p1), some (.ref sz), some (.ref sh), some (.int first), some (.ref pn), some (.ref pc0), none, none, none, none, none, none, none, none, none, none] H10 :=
        k _ _ ⟨τ10, pc0, cl0, rfl, i10.sub (by simp), by omega, hcm0⟩
      walk_at "go"
      refine Rd.ixL (sq_of (i10.at_ex (p := sh) (o := .lst [.bl b1, .bl b2]) (by simp))) (atI_nat (j := 0) rfl) ?_
      walk_at "go"
      refine Rd.itB (fun _ => ?_) (fun _ => ?_)
      · walk_at "go"
        refine Rd.ixL (sq_of (i10.at_ex (p := sz) (o := .lst [.int (X : Nat), .int (Y : Nat), .int (Z : Nat)]) (by simp))) (atI_nat (j := 1) rfl) ?_
        walk_at "go"
        refine Rd.ixL (sq_of (i10.at_ex (p := sz) (o := .lst [.int (X : Nat), .int (Y : Nat), .int (Z : Nat)]) (by simp))) (atI_nat (j := 0) rfl) ?_
        walk_at "go"
        refine Rd.itP (fun hle => ?_) (fun _ => ?_)
        · walk_at "go"
          refine Rd.ixL (sq_of (i10.at_ex (p := sz) (o := .lst [.int (X : Nat), .int (Y : Nat), .int (Z : Nat)]) (by simp))) (atI_nat (j := 1) rfl) ?_
          walk_at "go"
          refine ⟨pn, _, rfl, sq_of (i10.at_ex (p := pn) (o := .lst (nm.map V.str)) (by simp)), fun p hp => ?_⟩
          rw [cut_strs, HT.sIx_none, HT.sIx_nat]
          have hzl : ((nm.drop 0).take (min Y nm.length - 0)).length = Y := by
            rw [List.length_take, List.length_drop]
            omega
          have hzm : ∀ c ∈ (nm.drop 0).take (min Y nm.length - 0), NameOk c := fun c hc => hnm c (List.mem_of_mem_drop (List.mem_of_mem_take hc))
          generalize (nm.drop 0).take (min Y nm.length - 0) = zs at hzl hzm ⊢
          have i11 := i10.exl (o := .lst (zs.map V.str)) hp
          walk_at "go"
          exact k _ _ ⟨_, p, zs, rfl, i11.sub (by simp), hzl, hzm⟩
        · walk_at "go"
          exact no
      · walk_at "go"
        exact no
    clear i1 i2 i3 i4 i5 i6 i7 i8 i9 i10 t1 t8 t10 R R3 R4 R6 R7 R8 R9 R10 t t7 t9
    rintro σ' H' ⟨τ', pc, cl, rfl, i10, hcl, hcm⟩
    walk_at "go"
    refine ⟨_, a, ns, 3, rfl, i10.P.ok, sc i10.P, hn, by decide, by decide, fun τ11 H11 p11 R11 t11 _ => ?_⟩
    have i11 := (i10.step R11).add t11
    walk_at "go"
    refine Rd.ixL (sq_of (i11.at_ex (p := sz) (o := .lst [.int (X : Nat), .int (Y : Nat), .int (Z : Nat)]) (by simp))) (atI_nat (j := 2) rfl) ?_
    walk_at "go"
    refine ⟨_, p11, Z, rfl, i11.P.ok, i11.get (by simp), by omega, by omega, fun τ12 H12 pk0 ck0 R12 t12 hck0 hckm0 => ?_⟩
    have i12 := (i11.step R12).add t12
    refine Rd.gname ?_
    dsimp only
    refine Rd.seqR (fun σ' H' => ∃ (τ' : TM) (pk : Addr) (ck : List Str), σ' = [some (.ref a), some (.ref p1), some (.ref sz), some (.ref sh), some (.int first), some (.ref pn), some (.ref pc), some (.ref pk), none, none, none, none, none, none, none, none, none] ∧
      Pl H [(pk, .ex (.lst (ck.map V.str))), (pc, .ex (.lst (cl.map V.str))), (pn, .ex (.lst (nm.map V.str))), (sh, .ex (.lst [.bl b1, .bl b2])), (sz, .ex (.lst [.int (X : Nat), .int (Y : Nat), .int (Z : Nat)])), (p1, .pot)] τ' H' ∧ ck.length = Z ∧ ∀ c ∈ ck, NameOk c) (fun NX k => ?_) ?_
    · have no : NX [some (.ref a), some (.ref p1), some (.ref sz), some (.ref sh), some (.int first), some (.ref pn), some (.ref pc), some (.ref pk0), none, none, none, none, none, none, none, none, none] H12 :=
        k _ _ ⟨τ12, pk0, ck0, rfl, i12.sub (by simp), by omega, hckm0⟩
      walk_at "go"
      refine Rd.ixL (sq_of (i12.at_ex (p := sh) (o := .lst [.bl b1, .bl b2]) (by simp))) (atI_nat (j := 1) rfl) ?_
      walk_at "go"
      refine Rd.itB (fun _ => ?_) (fun _ => ?_)
      · walk_at "go"
        refine Rd.ixL (sq_of (i12.at_ex (p := sz) (o := .lst [.int (X : Nat), .int (Y : Nat), .int (Z : Nat)]) (by simp))) (atI_nat (j := 2) rfl) ?_
        walk_at "go"
        refine Rd.ixL (sq_of (i12.at_ex (p := sz) (o := .lst [.int (X : Nat), .int (Y : Nat), .int (Z : Nat)]) (by simp))) (atI_nat (j := 0) rfl) ?_
        walk_at "go"
        refine Rd.itP (fun hle => ?_) (fun _ => ?_)
        · walk_at "go"
          refine Rd.ixL (sq_of (i12.at_ex (p := sz) (o := .lst [.int (X : Nat), .int (Y : Nat), .int (Z : Nat)]) (by simp))) (atI_nat (j := 2) rfl) ?_
          walk_at "go"
          refine ⟨pn, _, rfl, sq_of (i12.at_ex (p := pn) (o := .lst (nm.map V.str)) (by simp)), fun p hp => ?_⟩
          rw [cut_strs, HT.sIx_none, HT.sIx_nat]
          have hzl : ((nm.drop 0).take (min Z nm.length - 0)).length = Z := by
            rw [List.length_take, List.length_drop]
            omega
          have hzm : ∀ c ∈ (nm.drop 0).take (min Z nm.length - 0), NameOk c := fun c hc => hnm c (List.mem_of_mem_drop (List.mem_of_mem_take hc))
          generalize (nm.drop 0).take (min Z nm.length - 0) = zs at hzl hzm ⊢
          have i13 := i12.exl (o := .lst (zs.map V.str)) hp
          walk_at "go"
          exact k _ _ ⟨_, p, zs, rfl, i13.sub (by simp), hzl, hzm⟩
        · walk_at "go"
          exact no
      · walk_at "go"
        exact no
    clear i10 i11 i12 R11 R12 t11 t12
    rintro σ' H' ⟨τ', pk, ck, rfl, i12, hck, hckm⟩
    walk_at "go"
    refine ⟨_, a, ns, 4, rfl, i12.P.ok, sc i12.P, hn, by decide, by decide, fun τ13 H13 p13 R13 t13 _ => ?_⟩
    have i13 := (i12.step R13).add t13
    walk_at "go"
    refine Rd.ixL (sq_of (i13.at_ex (p := sz) (o := .lst [.int (X : Nat), .int (Y : Nat), .int (Z : Nat)]) (by simp))) (atI_nat (j := 0) rfl) ?_
    walk_at "go"
    refine Rd.ixL (sq_of (i13.at_ex (p := sz) (o := .lst [.int (X : Nat), .int (Y : Nat), .int (Z : Nat)]) (by simp))) (atI_nat (j := 1) rfl) ?_
    walk_at "go"
    refine ⟨_, p13, X, Y, rfl, i13.P.ok, i13.get (by simp), by omega, by omega, by omega, by omega, fun τ14 H14 pt r core R14 t14 tr14 c0 c1 => ?_⟩
    have i14 := ((i13.step R14).add (show τ14 r = some (.rows X (.ints Y X)) from tr14)).add t14
    walk_at "go"
    refine ⟨_, a, ns, 5, rfl, i14.P.ok, sc i14.P, hn, by decide, by decide, fun τ15 H15 p15 R15 t15 _ => ?_⟩
    have i15 := (i14.step R15).add t15
    walk_at "go"
    refine Rd.ixL (sq_of (i15.at_ex (p := sz) (o := .lst [.int (X : Nat), .int (Y : Nat), .int (Z : Nat)]) (by simp))) (atI_nat (j := 0) rfl) ?_
    walk_at "go"
    refine Rd.ixL (sq_of (i15.at_ex (p := sz) (o := .lst [.int (X : Nat), .int (Y : Nat), .int (Z : Nat)]) (by simp))) (atI_nat (j := 1) rfl) ?_
    walk_at "go"
    refine ⟨_, p15, X, Y, rfl, i15.P.ok, i15.get (by simp), by omega, by omega, by omega, by omega, fun τ16 H16 pf R16 t16 => ?_⟩
    have i16 := (i15.step R16).add (show τ16 pf = some (.rows X (.bools Y)) from t16)
    walk_at "go"
    refine Rd.ixL (sq_of (i16.at_ex (p := sz) (o := .lst [.int (X : Nat), .int (Y : Nat), .int (Z : Nat)]) (by simp))) (atI_nat (j := 0) rfl) ?_
    walk_at "go"
    refine ⟨_, p15, X, pk, ck, rfl, i16.P.ok, i16.get (by simp), by omega, by omega, i16.get (by simp), by omega, by omega, fun τ17 H17 ph hm R17 t17 hhl hhm => ?_⟩
    have i17 := (i16.step R17).add t17
    walk_at "go"
    refine ⟨_, p15, 2, rfl, i17.P.ok, i17.get (by simp), by decide, by decide, fun least H18 R18 l0 l1 => ?_⟩
    have i18 := i17.step R18
    walk_at "go"
    refine fun rt hrt => ?_
    have rt0 := i18.P.free hrt
    have trt := i18.P.tfree hrt
    have i19 := i18.new (o := .dK []) hrt
    have frt : upd H18 rt (.dK []) rt = some (.dK (kvM V.int [])) := upd_same
    generalize upd H18 rt (.dK []) = H19 at i19 frt ⊢
    clear i13 i14 i15 i16 i17 i18 t13 t14 t15 t16 t17 tr14 R13 R14 R15 R16 R17 R18
    walk_at "go"
    refine ⟨_, rfl, pk, rfl, ⟨_, sq_of (i19.at_ex (p := pk) (o := .lst (ck.map V.str)) (by simp))⟩, ?_⟩
    refine for_list (xs := ck.map V.str) (fun i σ' H' => ∃ (v13 : Option V) (rs : List (Str × Int)), σ' = [some (.ref a), some (.ref p15), some (.ref sz), some (.ref sh), some (.int first), some (.ref pn), some (.ref pc), some (.ref pk), some (.ref pt), some (.ref pf), some (.ref ph), some (.int least), some (.ref rt), v13, none, none, none] ∧
      Post (fun _ => none) H τ17 H' ∧ H' rt = some (.dK (kvM V.int rs)) ∧ (rs.map (·.1)).Nodup ∧ (∀ x, x ∈ rs.map (·.1) ↔ x ∈ ck.take i) ∧ (∀ p ∈ rs, 0 ≤ p.2 ∧ p.2 ≤ 1000000000) ∧ rs.length ≤ i)
      ⟨_, [], rfl, i19.P, frt, by simp, fun x => by simp, (fun p hp => nomatch hp), Nat.le_refl _⟩ (fun i σ' H' _ z => by
        obtain ⟨_, _, _, P, _⟩ := z
        exact sq_of (P.ok.at_ex (i19.get (p := pk) (by simp)))) ?_ ?_
    · rintro i x σ' H' hx ⟨v13, rs, rfl, P, fr, hrn, hrk, hrv, hrl⟩
      have hil := (List.getElem?_eq_some_iff.mp hx).1
      rw [List.length_map] at hil
      rw [List.getElem?_map] at hx
      obtain ⟨c, hc, rfl⟩ := Option.map_eq_some_iff.mp hx
      walk_at "go"
      refine ⟨τ17, p15, least, rfl, P.ok, i19.get (p := p15) (by simp), l0, by omega, fun v H2 R v0 v1 => ?_⟩
      have fr2 := (R.own fr trt).1
      walk_at "go"
      refine ⟨rt, _, rfl, .inl ⟨_, .inr c, fr2, rfl, small1000 (by rw [kvM_len]; omega), rfl⟩, ?_⟩
      rw [kvM_put]
      have hpl := putA_len (l := rs) (k := c) (v := v)
      refine ⟨_, putA rs c v, rfl, ?_, upd_same, putA_nodup hrn, fun x => ?_, fun p hp => ?_, by omega⟩
      · exact (P.trans R).mut rt0 trt
      · rw [putA_mem_keys, hrk x, List.take_add_one, hc, List.mem_append]
        simp
      · rcases putA_mem hp with ⟨z, _⟩ | z
        · exact hrv p z
        · rw [z]
          exact ⟨v0, v1⟩
    rintro σ' H' ⟨v13, rs, rfl, P, fr, hrn, hrk, hrv, hrl⟩
    rw [List.length_map, List.take_length] at hrk
    have i20 : Pl H _ τ17 H' := ⟨P, i19.f⟩
    have i20 := i20.kind (t := .rates ck) rt0 trt fr ⟨rs, rfl, hrn, hrk, hrv⟩
    have hhX : hm.length = X := by omega
    clear hrn hrk hrv hrl fr P
    walk_at "go"
    refine ⟨_, a, ns, 6, rfl, i20.P.ok, sc i20.P, hn, by decide, by decide, fun τ21 H21 p21 R21 t21 _ => ?_⟩
    have i21 := (i20.step R21).add t21
    walk_at "go"
    refine Rd.ixL (sq_of (i21.at_ex (p := pt) (o := .lst [.int core, .ref r]) (by simp))) (atI_nat (j := 0) rfl) ?_
    walk_at "go"
    refine Rd.ixL (sq_of (i21.at_ex (p := pt) (o := .lst [.int core, .ref r]) (by simp))) (atI_nat (j := 1) rfl) ?_
    walk_at "go"
    refine ⟨_, p21, core, r, pf, ph, rt, X, Y, hm, ck, rfl, i21.P.ok, i21.get (by simp), c0, c1, by omega, by omega, by omega, i21.get (by simp), i21.get (by simp), i21.get (by simp), hhX, hhm, i21.get (by simp), by omega, fun H22 R22 => ?_⟩
    have i22 := i21.step R22
    obtain ⟨F, rfl⟩ := Int.eq_ofNat_of_zero_le f0
    have zsz := i22.at_ex (p := sz) (o := .lst [.int (X : Nat), .int (Y : Nat), .int (Z : Nat)]) (by simp)
    have znm := i22.at_ex (p := pn) (o := .lst (nm.map V.str)) (by simp)
    have zcl := i22.at_ex (p := pc) (o := .lst (cl.map V.str)) (by simp)
    have zhm := i22.at_ex (p := ph) (o := .lst (hm.map V.str)) (by simp)
    have zpt := i22.at_ex (p := pt) (o := .lst [.int core, .ref r]) (by simp)
    obtain ⟨_, zrt, rs, rfl, hrn, hrk, hrv⟩ := i22.P.ok rt (.rates ck) (i22.get (by simp))
    obtain ⟨_, zr, rps, rfl, hrps, hrpt⟩ := i22.P.ok r (.rows X (.ints Y X)) (i22.get (by simp))
    obtain ⟨_, zf, fps, rfl, hfps, hfpt⟩ := i22.P.ok pf (.rows X (.bools Y)) (i22.get (by simp))
    have zri : ∀ j, j < X → ∃ (p : Addr) (ts : List Int), rps[j]? = some p ∧ H22 p = some (.lst (ts.map V.int)) ∧ ts.length = Y ∧ ∀ t ∈ ts, 0 ≤ t ∧ t < (X : Int) := fun j hj => by
      have hj2 : j < rps.length := by omega
      obtain ⟨_, e, ts, rfl, h1, h2⟩ := i22.P.ok _ _ (hrpt rps[j] (List.getElem_mem hj2))
      exact ⟨rps[j], ts, List.getElem?_eq_getElem hj2, e, h1, h2⟩
    have zfi : ∀ j, j < X → ∃ (p : Addr) (bs : List Bool), fps[j]? = some p ∧ H22 p = some (.lst (bs.map V.bl)) ∧ bs.length = Y := fun j hj => by
      have hj2 : j < fps.length := by omega
      obtain ⟨_, e, bs, rfl, h1⟩ := i22.P.ok _ _ (hfpt fps[j] (List.getElem_mem hj2))
      exact ⟨fps[j], bs, List.getElem?_eq_getElem hj2, e, h1⟩
    have sm22 : Same H H22 := i22.P.same
    clear i19 i20 i21 i22 R21 R22 t21
    walk_at "go"
    refine Rd.ixL (sq_of zsz) (atI_nat (j := 0) rfl) ?_
    refine ⟨_, _, rfl, rfl, RgOk.of_le (by omega) (by omega) (by omega) (by omega), fun q1 hq1 => ?_⟩
    have sA := same_new (o := .lst (rgV (F : Int) (X : Int))) hq1
    have eA : upd H22 q1 (.lst (rgV (F : Int) (X : Int))) q1 = some (.lst (rgV (F : Int) (X : Int))) := upd_same
    generalize upd H22 q1 (.lst (rgV (F : Int) (X : Int))) = GA at sA eA ⊢
    walk_at "go"
    refine ⟨RgOk.of_le (by omega) (by omega) (by omega) (by omega), fun q2 hq2 => ?_⟩
    have sB := same_new (o := .lst (rgV 0 (F : Int))) hq2
    have eB : upd GA q2 (.lst (rgV 0 (F : Int))) q2 = some (.lst (rgV 0 (F : Int))) := upd_same
    generalize upd GA q2 (.lst (rgV 0 (F : Int))) = GB at sB eB ⊢
    refine ⟨q1, q2, _, _, rfl, rfl, sB _ _ eA, eB, ?_, fun od hod => ?_⟩
    · rw [rgV_length, rgV_length]
      exact Nat.le_trans (show ((X : Int) - (F : Int)).toNat + ((F : Int) - 0).toNat ≤ 100 by omega) (by decide)
    rw [order_eq]
    have hidl : ((List.range (X - F)).map (fun i => F + i) ++ List.range F).length = X := by
      rw [List.length_append, List.length_map, List.length_range, List.length_range]
      omega
    have hidm : ∀ j, j < X → j ∈ (List.range (X - F)).map (fun i => F + i) ++ List.range F := fun j hj => by
      by_cases c : j < F
      · exact List.mem_append_right _ (List.mem_range.mpr c)
      · exact List.mem_append_left _ (List.mem_map.mpr ⟨j - F, List.mem_range.mpr (by omega), by omega⟩)
    have hidb : ∀ j ∈ (List.range (X - F)).map (fun i => F + i) ++ List.range F, j < X := fun j hj => by
      rcases List.mem_append.mp hj with hj | hj
      · obtain ⟨i, hi, rfl⟩ := List.mem_map.mp hj
        have := List.mem_range.mp hi
        omega
      · have := List.mem_range.mp hj
        omega
    generalize (List.range (X - F)).map (fun i => F + i) ++ List.range F = idx at hidl hidm hidb ⊢
    have sC := same_new (o := .lst (idx.map (fun j : Nat => V.int (j : Int)))) hod
    have eC : upd GB od (.lst (idx.map (fun j : Nat => V.int (j : Int)))) od = some (.lst (idx.map (fun j : Nat => V.int (j : Int)))) := upd_same
    generalize upd GB od (.lst (idx.map (fun j : Nat => V.int (j : Int)))) = GC at sC eC ⊢
    have sD := (sA.trans sB).trans sC
    walk_at "go"
    refine fun pl hpl => ?_
    have sE := same_new (o := .dK []) hpl
    have eE : upd GC pl (.dK []) pl = some (.dK []) := upd_same
    have plF := (sm22.trans sD).free hpl
    generalize hGE : upd GC pl (.dK []) = GE at sE eE ⊢
    have sF := sD.trans sE
    obtain ⟨n0, hn0⟩ : ∃ n0, nm[0]? = some n0 := ⟨nm[0]'(by omega), List.getElem?_eq_getElem (by omega)⟩
    walk_at "go"
    refine Rd.ixL (sq_of (sF _ _ znm)) (v := .str n0) (atI_nat (j := 0) (by rw [List.getElem?_map, hn0]; rfl)) ?_
    walk_at "go"
    refine fun dh hdh => ?_
    have sG := same_new (o := .dK []) hdh
    have eG : upd GE dh (.dK []) dh = some (.dK (kvM V.str [])) := upd_same
    have n1 : pl ≠ dh := ne_of_none eE hdh
    have fdh := ((sm22.trans sF)).free hdh
    have n5 : rt ≠ dh := ne_of_none (sF _ _ zrt) hdh
    generalize upd GE dh (.dK []) = GG at sG eG ⊢
    walk_at "go"
    refine fun dst hdst => ?_
    have sI := same_new (o := .dT []) hdst
    have eI : upd GG dst (.dT []) dst = some (.dT []) := upd_same
    have n2 : dh ≠ dst := ne_of_none eG hdst
    have n3 : pl ≠ dst := ne_of_none (sG _ _ eE) hdst
    have fdst := ((sm22.trans sF).trans sG).free hdst
    generalize upd GG dst (.dT []) = GI at sI eI ⊢
    walk_at "go"
    have sJ := (sF.trans sG).trans sI
    refine ⟨pc, cl, rfl, sq_of (sJ _ _ zcl), by omega, fun ys lc hperm _ hlc => ?_⟩
    have sK := same_new (o := .lst (ys.map V.str)) hlc
    have eK : upd GI lc (.lst (ys.map V.str)) lc = some (.lst (ys.map V.str)) := upd_same
    generalize upd GI lc (.lst (ys.map V.str)) = GK at sK eK ⊢
    walk_at "go"
    have ePl := sK _ _ (sI _ _ (sG _ _ eE))
    refine ⟨ePl, planK n0 dh rt dst lc, rfl, by simp, ?_⟩
    rw [show mergeK [] (planK n0 dh rt dst lc) = planK n0 dh rt dst lc from merge_new planKs_nd (planK n0 dh rt dst lc) [] rfl]
    have smK := ((sm22.trans sJ).trans sK)
    have sL := same_mut (o := .dK (planK n0 dh rt dst lc)) smK plF
    have fL : ∀ b o, b ≠ pl → GK b = some o → upd GK pl (.dK (planK n0 dh rt dst lc)) b = some o := fun b o n e => by rw [upd_ne n]; exact e
    have eL : upd GK pl (.dK (planK n0 dh rt dst lc)) pl = some (.dK (planK n0 dh rt dst lc)) := upd_same
    have lL : ∀ b xs, GK b = some (.lst xs) → upd GK pl (.dK (planK n0 dh rt dst lc)) b = some (.lst xs) := fun b xs e => fL _ _ (ne_of e ePl (fun z => nomatch z)) e
    generalize upd GK pl (.dK (planK n0 dh rt dst lc)) = GL at sL fL eL lL ⊢
    have sJK := sJ.trans sK
    have wdh := fL _ _ n1.symm (sK _ _ (sI _ _ eG))
    have wdst := fL _ _ n3.symm (sK _ _ eI)
    have wlc := lL _ _ eK
    have wrt := fL _ _ (ne_of_none (sD _ _ zrt) hpl) (sJK _ _ zrt)
    have wod := lL _ _ (sK _ _ (sI _ _ (sG _ _ (sE _ _ eC))))
    have w22 : ∀ b xs, H22 b = some (.lst xs) → GL b = some (.lst xs) := fun b xs e => lL _ _ (sJK _ _ e)
    have kv1 := valV_at planKs_nd (kvs := planK n0 dh rt dst lc) rfl (i := 0) rfl
    have kv2 := valV_at planKs_nd (kvs := planK n0 dh rt dst lc) rfl (i := 1) rfl
    have kv3 := valV_at planKs_nd (kvs := planK n0 dh rt dst lc) rfl (i := 2) rfl
    have kv4 := valV_at planKs_nd (kvs := planK n0 dh rt dst lc) rfl (i := 3) rfl
    have kv5 := valV_at planKs_nd (kvs := planK n0 dh rt dst lc) rfl (i := 4) rfl
    clear sA sB sC sD sE sF sG sI sJ sK sJK smK eA eB eC eE eG eI eK hGE fL lL
    walk_at "go"
    refine ⟨_, rfl, od, rfl, ⟨_, sq_of wod⟩, ?_⟩
    have nl : ∀ b xs, GL b = some (.lst xs) → b ≠ dh ∧ b ≠ dst := fun b xs e => ⟨ne_of e wdh (fun z => nomatch z), ne_of e wdst (fun z => nomatch z)⟩
    refine for_list (xs := idx.map (fun j : Nat => V.int (j : Int))) (fun i σ' H' => ∃ (v16 : Option V) (hs' : List (Str × Str)) (st : List Row) (skv : List (List Key × V)), σ' = [some (.ref a), some (.ref p15), some (.ref sz), some (.ref sh), some (.int (F : Nat)), some (.ref pn), some (.ref pc), some (.ref pk), some (.ref pt), some (.ref pf), some (.ref ph), some (.int least), some (.ref rt), v13, some (.ref od), some (.ref pl), v16] ∧
      (∀ b o, b ≠ dh → b ≠ dst → GL b = some o → H' b = some o) ∧ H' dh = some (.dK (kvM V.str hs')) ∧ H' dst = some (.dT skv) ∧ StepsIs H' skv st ∧ FillInv nm cl ck idx i hs' st)
      ⟨_, [], [], [], rfl, fun _ _ _ _ e => e, wdh, wdst, .nil, ⟨fun k => by simp, by simp, (fun p hp => nomatch hp), Nat.le_refl _, by simp, (fun p hp => nomatch hp), fun k => by simp⟩⟩ (fun i σ' H' _ z => by
        obtain ⟨_, _, _, _, _, f, _⟩ := z
        obtain ⟨g1, g2⟩ := nl _ _ wod
        exact sq_of (f _ _ g1 g2 wod)) ?_ ?_
    · rintro i x σ' H' hx ⟨v16, hs', st, skv, rfl, fr, edh, edst, sti, I⟩
      rw [List.getElem?_map] at hx
      obtain ⟨j, hj, rfl⟩ := Option.map_eq_some_iff.mp hx
      have hjX := hidb j (List.mem_of_getElem? hj)
      have hiX : i < X := by
        have := (List.getElem?_eq_some_iff.mp hj).1
        omega
      have gl : ∀ b xs, H22 b = some (.lst xs) → H' b = some (.lst xs) := fun b xs e => by
        obtain ⟨g1, g2⟩ := nl _ _ (w22 _ _ e)
        exact fr _ _ g1 g2 (w22 _ _ e)
      obtain ⟨rp, ts, hrp, zrp, hts, htr⟩ := zri j hjX
      obtain ⟨fp, bs, hfp, zfp, hbs⟩ := zfi j hjX
      obtain ⟨n, hnj⟩ : ∃ n, nm[j]? = some n := ⟨nm[j]'(by omega), List.getElem?_eq_getElem (by omega)⟩
      obtain ⟨h, hhj⟩ : ∃ n, hm[j]? = some n := ⟨hm[j]'(by omega), List.getElem?_eq_getElem (by omega)⟩
      walk_at "go"
      refine Rd.ixL (sq_of (gl _ _ zpt)) (atI_nat (j := 1) rfl) ?_
      walk_at "go"
      refine Rd.ixL (sq_of (gl _ _ zr)) (v := .ref rp) (atI_nat (j := j) (by rw [List.getElem?_map, hrp]; rfl)) ?_
      walk_at "go"
      refine Rd.ixL (sq_of (gl _ _ zf)) (v := .ref fp) (atI_nat (j := j) (by rw [List.getElem?_map, hfp]; rfl)) ?_
      walk_at "go"
      refine Rd.ixL (sq_of (gl _ _ zhm)) (v := .str h) (atI_nat (j := j) (by rw [List.getElem?_map, hhj]; rfl)) ?_
      walk_at "go"
      refine ⟨(by show 3 ≤ sizeLine; decide), fun gv hgv => ?_⟩
      have s1 := same_new (o := .lst [.ref rp, .ref fp, .str h]) hgv
      have e1 : upd H' gv (.lst [.ref rp, .ref fp, .str h]) gv = some (.lst [.ref rp, .ref fp, .str h]) := upd_same
      generalize upd H' gv (.lst [.ref rp, .ref fp, .str h]) = H3 at s1 e1 ⊢
      walk_at "go"
      have hI := I.small (by omega) (by omega)
      have hl := I.hl
      refine ⟨pl, pn, pc, gv, rp, fp, dh, dst, planK n0 dh rt dst lc, nm, cl, j, n, h, hs', skv, st, ts, bs, rfl, n1, s1 _ _ (fr _ _ n1 n3 eL), kv2, kv4, s1 _ _ edh, s1 _ _ edst, sti.mono fun b xs e => s1 _ _ e,
        s1 _ _ (gl _ _ znm), s1 _ _ (gl _ _ zcl), hnj, e1, s1 _ _ (gl _ _ zrp), s1 _ _ (gl _ _ zfp), by omega, by omega, by omega, fun t ht => ⟨(htr t ht).1, by have := (htr t ht).2; omega⟩, by omega, by omega, fun H4 skv' st' fr' g1 g2 g3 g4 g5 g6 => ?_⟩
      walk_at "go"
      exact ⟨_, putA hs' n h, st', skv', rfl, fun b o z1 z2 e => fr' _ _ z1 z2 (s1 _ _ (fr _ _ z1 z2 e)), g1, g2, g3, I.step hj hnj (hhm h (List.mem_of_getElem? hhj)) g4 g5 g6⟩
    · rintro σ' H' ⟨v16, hs', st, skv, rfl, fr, edh, edst, sti, I⟩
      rw [List.length_map] at I
      walk_at "go"
      refine q H' pl ⟨n0, hs', rs, st⟩ ys (fun b o e => fr _ _ (fun z => by rw [z, fdh] at e; cases e) (fun z => by rw [z, fdst] at e; cases e) (sL _ _ e)) ?_ ?_
      · obtain ⟨g1, g2⟩ := nl _ _ wlc
        exact ⟨planK n0 dh rt dst lc, dh, rt, dst, lc, skv, fr _ _ n1 n3 eL, kv1, kv2, kv3, kv4, kv5, edh, fr _ _ n5 (ne_of wrt wdst (fun z => nomatch z)) wrt, edst, sti, fr _ _ g1 g2 wlc⟩
      · exact I.tab (Nat.le_refl _) (by omega) hnX (fun j hj => hidm j hj) hn0 hnm hcm hckm hperm (by omega) (by omega) (by omega) hrn hrk hrv
end

section
variable {P : Program} {w : World} {K : PySem.W.Frag} {mg : Str → Option Value} {base : Heap}
theorem ok_causes_of (T : Txt mg) {f : Addr} {fd : FuncData} (F : C8.Def K mg "_causes_of" s__causes_of f fd) (b : Binds K fd ["steps"] [])  : C8.Cal P w K mg base 1 "_causes_of" (sp__causes_of K) [] := by
  refine C8.cal0 F b .nil sc__causes_of (fun vs H Q E h => ?_) (fun cdv A outer s H vs Q E hr h => ?_)
  · exact len__causes_of h
  · refine ⟨_, (pss_one (ps_ret (pe_callB (SSt.cr_sortedSS rfl) (by rfl) T.n_sorted (by decide +kernel) (pa_cons (pe_lock (SSt.pe_scS (own := [("_", 1), ("cause", 2)]) (g := (gTup K 2 (gCons (gName 1) (gCons (gName 2) gNil)))) (tt := _) rfl sc__causes_of.nd (pi_keys (pv 0)) (blkOk_by (own := [("_", 1), ("cause", 2)]) (N := ["steps", "_", "cause"]) (sc := (C8.fnScope s__causes_of)) (by decide +kernel)) (fun _ _ _ _ _ => (pg_tup rfl (pgs_cons (pg_name (i := 1) sc__causes_of.nd rfl (by first | exact Or.inl rfl | exact Or.inr rfl)) (pgs_cons (pg_name (i := 2) sc__causes_of.nd rfl (by first | exact Or.inl rfl | exact Or.inr rfl)) pgs_nil)))) (fun _ _ _ _ _ => pts_nil) (fun _ _ _ _ _ => (pv 2)))) pa_nil)))), ?_⟩
    obtain ⟨d, kvs, st, cs, rfl, hd, hst, hin, hfew, q⟩ := h
    have hle : ∀ {i : Nat} {S : Str → Bool} {n : Nat} {L : List Str}, L.Nodup → L.length = n → (∀ c, c ∈ L → c ∈ cs) → n ≤ 6 := fun hn e hm => by
      have := hn.length_le_of_subset hm
      omega
    walk_at "go"
    refine Lck.scT hd (fun od Q q => ⟨_, rfl, q⟩) (fun od D i H' => H D = none ∧ Same (upd H d (.frz od (.dT kvs))) H' ∧ ∃ S L, H' D = some (SSt.SetSO w D S L.length) ∧ L.Nodup ∧ (∀ c, S c = true ↔ c ∈ L) ∧ ∀ c, c ∈ L ↔ c ∈ (st.take i).map (fun e => e.1.2))
      (fun od D hD => ⟨hD, same_new (by rw [upd_ne (ne_of_none hd hD).symm]; exact hD), fun _ => false, [], upd_same, by simp, by simp, by simp⟩) (fun od D i H' p => p.2.1 _ _ upd_same) ?_ ?_
    · rintro od D i k v pq H' hk hpq ⟨hD, s1, S, L, hS, hn, hm, hL⟩
      obtain ⟨e, he, h1, p, h2, h3⟩ := hst.at hk
      have h1 : k = [Sum.inr e.1.1, Sum.inr e.1.2] := h1
      subst h1
      walk_at "go"
      refine Rd.gtup (st_of hpq) rfl ?_
      walk_at "go"
      refine Rd.gcons ?_
      walk_at "go"
      refine Rd.gcons ?_
      walk_at "go"
      have hlen : L.length ≤ 6 := hle (i := 0) (S := S) hn rfl fun c hc => by
        obtain ⟨e', he', rfl⟩ := List.mem_map.mp ((hL c).mp hc)
        exact hin e' (List.mem_of_mem_take he')
      refine ⟨rfl, rfl, ?_⟩
      walk_at "go"
      have hsb : L.length + 1 < scanBound := Nat.lt_of_le_of_lt (Nat.succ_le_succ hlen) (by decide)
      refine ⟨e.1.2, S, L.length, rfl, hS, hsb, hD, same_mut s1 (by rw [upd_ne (ne_of_none hd hD).symm]; exact hD), ?_⟩
      have htk : (st.take (i + 1)).map (fun e => e.1.2) = (st.take i).map (fun e => e.1.2) ++ [e.1.2] := by
        rw [List.take_add_one, he, List.map_append]
        rfl
      by_cases c : S e.1.2 = true
      · refine ⟨fun j => S j || decide (j = e.1.2), L, (by rw [upd_same, if_pos c]; rfl), hn, fun x => ?_, fun x => ?_⟩
        · rw [Bool.or_eq_true, decide_eq_true_eq, hm x]
          exact ⟨fun z => z.elim id fun z => by rw [z]; exact (hm _).mp c, .inl⟩
        · rw [htk, List.mem_append, ← hL x, List.mem_singleton]
          exact ⟨.inl, fun z => z.elim id fun z => by rw [z]; exact (hm _).mp c⟩
      · have hnm : e.1.2 ∉ L := fun z => c ((hm _).mpr z)
        refine ⟨fun j => S j || decide (j = e.1.2), e.1.2 :: L, (by rw [upd_same, if_neg c]; rfl), List.nodup_cons.mpr ⟨hnm, hn⟩, fun x => ?_, fun x => ?_⟩
        · rw [Bool.or_eq_true, decide_eq_true_eq, hm x, List.mem_cons]
          exact Or.comm
        · rw [htk, List.mem_append, ← hL x, List.mem_singleton, List.mem_cons]
          exact Or.comm
    · rintro od D H' ⟨hD, s1, S, L, hS, hn, hm, hL⟩
      have hlen : L.length ≤ 6 := hle (i := 0) (S := S) hn rfl fun c hc => by
        obtain ⟨e', he', rfl⟩ := List.mem_map.mp ((hL c).mp hc)
        exact hin e' (List.mem_of_mem_take he')
      have nD : D ≠ d := (ne_of_none hd hD).symm
      walk_at "go"
      refine ⟨D, S, L.length, rfl, by rw [upd_ne nD]; exact hS, by omega, fun ns p ho hnd hmem hl hp => ?_⟩
      have ek : kvs.length = st.length := hst.len
      have hsm : Same H (upd H' d (.dT kvs)) := fun b o e => by
        by_cases c : b = d
        · subst c
          rw [upd_same, ← e, hd]
        · rw [upd_ne c]
          exact s1 _ _ (by rw [upd_ne c]; exact e)
      refine q _ p ns (hsm.trans (same_new hp)) (hsm.free hp) upd_same (fun c => ?_) (Lck.sorted_pair ho hnd) (by omega)
      rw [hmem, hm, hL, ek, List.take_length]
end

section
variable {P : Program} {w : World} {K : PySem.W.Frag} {mg : Str → Option Value} {base : Heap}
theorem ok_is_letter (T : Txt mg) {f : Addr} {fd : FuncData} (F : C8.Def K mg "_is_letter" s__is_letter f fd) (b : Binds K fd ["sign"] [])  : C8.Cal P w K mg base 1 "_is_letter" (sp__is_letter K) [] := by
  refine C8.cal0 F b .nil sc__is_letter (fun vs H Q E h => ?_) (fun cdv A outer s H vs Q E hr h => ?_)
  · exact len__is_letter h
  · refine ⟨_, (pss_one (ps_ret (pe_chain op_le_str op_le_str pe_str (pv 0) pe_str))), ?_⟩
    obtain ⟨c, rfl, h1, h2, q⟩ := h
    have ea : (Str.ofString "a").cps.toList = [97] := by decide +kernel
    have ez : (Str.ofString "z").cps.toList = [122] := by decide +kernel
    walk_at "go"
    refine ⟨_, _, rfl, rfl, ?_⟩
    have g1 : (!decide ((⟨#[c]⟩ : Str).cps.toList < (Str.ofString "a").cps.toList)) = true := by
      rw [ea]
      show (!decide ([c] < [97])) = true
      rw [decide_eq_false (by rw [List.cons_lt_cons_iff]; simp; omega)]
      rfl
    have g2 : (!decide ((Str.ofString "z").cps.toList < (⟨#[c]⟩ : Str).cps.toList)) = true := by
      rw [ez]
      show (!decide ([122] < [c])) = true
      rw [decide_eq_false (by rw [List.cons_lt_cons_iff]; simp; omega)]
      rfl
    rw [g1]
    walk_at "go"
    refine ⟨_, _, rfl, rfl, ?_⟩
    rw [g2]
    exact q
end

section
variable {P : Program} {w : World} {K : PySem.W.Frag} {mg : Str → Option Value} {base : Heap}
theorem ok_is_name {C : Addr} (T : Txt mg) (TC : Cls K C) (TA : TabNames K C) {f : Addr} {fd : FuncData} (F : C8.Def K mg "is_name" s_is_name f fd) (b : Binds K fd ["value"] []) (c_is_letter : C8.Cal P w K mg base 1 "_is_letter" (sp__is_letter K) []) : C8.Cal P w K mg base 2 "is_name" (sp_is_name K) [] := by
  refine C8.cal0 F b .nil sc_is_name (fun vs H Q E h => ?_) (fun cdv A outer s H vs Q E hr h => ?_)
  · exact len_is_name h
  · refine ⟨_, (pss_cons (ps_if (PW.pt (pw_or (pt_not (pt_val (pe_callB call_isi (by rfl) T.n_isinstance (by decide +kernel) (pa_cons (pv 0) (pa_cons (pe_bltn (v := .ty "str") (by rfl) T.n_str (by decide +kernel) rfl) pa_nil))))) (pw_or1 (pt_not (pt_chain op_le op_le pe_int (pe_callB call_len_str (by rfl) T.n_len (by decide +kernel) (pa_cons (pv 0) pa_nil)) pe_int)))))
  (pss_one (ps_ret pe_bl))
  pss_nil)
  (pss_one (ps_ret (pe_callB (cr_all rfl) (by rfl) T.n_all (by decide +kernel) (pa_cons (pe_lc (own := [("sign", 1)]) (g := (gName 1)) (tt := _) rfl sc_is_name.nd (pi_str (pv 0)) (blkOk_by (own := [("sign", 1)]) (N := ["value", "sign"]) (sc := (C8.fnScope s_is_name)) (by decide +kernel)) (fun _ _ _ _ _ => (pg_name (i := 1) sc_is_name.nd rfl (by first | exact Or.inl rfl | exact Or.inr rfl))) (fun _ _ _ _ _ => pts_nil) (fun _ _ _ _ _ => (C8.pe_c c_is_letter hr (by decide) (by rfl) (pa_cons (pv 1) pa_nil)))) pa_nil))))), ?_⟩
    obtain ⟨x, rfl, ⟨h1, h2, h3⟩, q⟩ := h
    have hsl : x.length ≤ sizeLine := Nat.le_trans h2 (by decide)
    have hll : x.cps.toList.length ≤ 8 := by rw [Array.length_toList]; exact h2
    walk_at "go"
    refine ⟨x, rfl, hsl, ?_⟩
    walk_at "go"
    refine Rd.itTd (by omega) ?_
    walk_at "go"
    rw [decide_eq_true (show (x.length : Int) ≤ 8 by omega)]
    walk_at "go"
    refine ⟨.str x, rfl, x, rfl, fun D hD => Dat.lcStr (fun i H' => Same H H' ∧ H' D = some (.lst ((List.replicate i true).map V.bl)))
      ⟨same_new hD, upd_same⟩ ?_ ?_⟩
    · rintro i c H' hc ⟨s1, e1⟩
      walk_at "go"
      refine ⟨rfl, ?_⟩
      walk_at "go"
      obtain ⟨g1, g2⟩ := h3 c (List.mem_of_getElem? hc)
      have hi : i < x.cps.toList.length := (List.getElem?_eq_some_iff.mp hc).1
      refine ⟨c, rfl, g1, g2, _, e1, small1000 (by simp; omega), same_mut s1 hD, ?_⟩
      rw [upd_same, List.replicate_succ', List.map_append]
      rfl
    · rintro H' ⟨s1, e1⟩
      walk_at "go"
      refine ⟨D, _, rfl, sq_of e1, ?_⟩
      have : (List.replicate x.cps.toList.length true).all id = true := by simp
      rw [this]
      exact q H' s1
end

section
variable {P : Program} {w : World} {K : PySem.W.Frag} {mg : Str → Option Value} {base : Heap}
theorem ok_is_known {C : Addr} (T : Txt mg) (TC : Cls K C) (TA : TabNames K C) {f : Addr} {fd : FuncData} (F : C8.Def K mg "_is_known" s__is_known f fd) (b : Binds K fd ["value", "table"] []) (c_is_name : C8.Cal P w K mg base 2 "is_name" (sp_is_name K) []) : C8.Cal P w K mg base 3 "_is_known" (sp__is_known K) [] := by
  refine C8.cal0 F b .nil sc__is_known (fun vs H Q E h => ?_) (fun cdv A outer s H vs Q E hr h => ?_)
  · exact len__is_known h
  · refine ⟨_, (pss_one (ps_ret (pe_and (C8.pe_c c_is_name hr (by decide) (by rfl) (pa_cons (pv 0) pa_nil)) (pe_one (pe_cmp (pc_din (hu_of hr) (pv 0) (pv 1)) rfl))))), ?_⟩
    obtain ⟨x, d, kvs, rfl, hx, hd, hk, q⟩ := h
    walk_at "go"
    refine ⟨x, rfl, hx, fun H1 s1 => ?_⟩
    walk_at "go"
    refine ⟨d, _, rfl, .inl ⟨kvs, .inr x, ?_, rfl, rfl⟩, ?_⟩
    · rcases hd with hd | ⟨o, hd⟩
      · exact .inl (s1 _ _ hd)
      · exact .inr ⟨o, s1 _ _ hd⟩
    rw [hk]
    exact q H1 s1
end

section
variable {P : Program} {w : World} {K : PySem.W.Frag} {mg : Str → Option Value} {base : Heap}
theorem ok_homes_are_good {C : Addr} (T : Txt mg) (TC : Cls K C) (TA : TabNames K C) {f : Addr} {fd : FuncData} (F : C8.Def K mg "_homes_are_good" s__homes_are_good f fd) (b : Binds K fd ["homes", "rates"] []) (c_is_known : C8.Cal P w K mg base 3 "_is_known" (sp__is_known K) []) (c_is_name : C8.Cal P w K mg base 2 "is_name" (sp_is_name K) []) : C8.Cal P w K mg base 4 "_homes_are_good" (sp__homes_are_good K) [] := by
  refine C8.cal0 F b .nil sc__homes_are_good (fun vs H Q E h => ?_) (fun cdv A outer s H vs Q E hr h => ?_)
  · exact len__homes_are_good h
  · refine ⟨_, (pss_cons (ps_if (PW.pt (pw_or (pt_not (pt_val (pe_callB call_isi (by rfl) T.n_isinstance (by decide +kernel) (pa_cons (pv 0) (pa_cons (pe_bltn (v := .ty "dict") (by rfl) T.n_dict (by decide +kernel) rfl) pa_nil))))) (pw_or1 (pt_not (pt_chain op_le op_le pe_int (pe_callB call_lenD (by rfl) T.n_len (by decide +kernel) (pa_cons (pv 0) pa_nil)) (C8.pe_gc (by rfl) T.c_MOST_STATUSES))))))
  (pss_one (ps_ret pe_bl))
  pss_nil)
  (pss_cons (ps_lock (ps_for PassesOwn.never rfl (pi_keys (pv 0)) (pg_name (i := 2) sc__homes_are_good.nd rfl (by first | exact Or.inl rfl | exact Or.inr rfl))
  (pss_one (ps_if (PW.pt (pw_or (pt_not (pt_val (C8.pe_c c_is_name hr (by decide) (by rfl) (pa_cons (pv 2) pa_nil)))) (pw_or1 (pt_not (pt_val (C8.pe_c c_is_known hr (by decide) (by rfl) (pa_cons (pe_dget (hu_of hr) (pv 0) (pv 2) (fun _ _ => rfl)) (pa_cons (pv 1) pa_nil))))))))
  (pss_one (ps_ret pe_bl))
  pss_nil))))
  (pss_one (ps_ret pe_bl)))), ?_⟩
    obtain ⟨d, hs, e, rs, rfl, hd, he, ⟨r1, r2, r3⟩, hn, q⟩ := h
    have ned : e ≠ d ∨ hs = [] := by
      by_cases c : e = d
      · subst c
        rw [hd] at he
        right
        cases hs with
        | nil => rfl
        | cons p l =>
          have : kvM V.str (p :: l) = kvM V.int rs := by injection he with he; injection he
          cases rs with
          | nil => cases this
          | cons r rs =>
            have q1 : ((Sum.inr p.1 : Key), V.str p.2) = (Sum.inr r.1, V.int r.2) := (List.cons.inj this).1
            have q2 : V.str p.2 = V.int r.2 := (Prod.mk.inj q1).2
            cases q2
      · exact .inl c
    have ned : e ≠ d := ned.elim id fun z => by rw [z] at r1; exact absurd r1 (by decide)
    walk_at "go"
    refine Rd.isDK hd ?_
    walk_at "go"
    refine ⟨d, _, rfl, hd, ?_⟩
    walk_at "go"
    rw [kvM_len]
    refine Rd.itTd (by omega) ?_
    walk_at "go"
    rw [decide_eq_true (show (hs.length : Int) ≤ 8 by omega)]
    walk_at "go"
    refine lockK hd (fun od Q q => ⟨_, rfl, q⟩) (fun od i σ' H' => (∃ v, σ' = [some (.ref d), some (.ref e), v]) ∧ Same (upd H d (.frz od (.dK (kvM V.str hs)))) H') (fun od => ⟨⟨_, rfl⟩, Same.refl _⟩) (fun od i σ' H' p => p.2 _ _ upd_same) ?_ ?_
    · rintro od i k v σ' H' hk ⟨⟨v0, rfl⟩, s1⟩
      have fz : H' d = some (.frz od (.dK (kvM V.str hs))) := s1 _ _ upd_same
      have hr' : H' e = some (.dK (kvM V.int rs)) := s1 _ _ (by rw [upd_ne ned]; exact he)
      obtain ⟨p, hp, ep⟩ := List.mem_map.mp (List.mem_of_getElem? hk)
      cases ep
      obtain ⟨n1, n2, n3⟩ := r3 p hp
      walk_at "go"
      refine ⟨p.1, rfl, n1, fun H2 s2 => ?_⟩
      walk_at "go"
      refine ⟨d, .str p.2, rfl, .inl ⟨_, .inr p.1, .inr ⟨od, s2 _ _ fz⟩, rfl, ?_⟩, ?_⟩
      · rw [kvM_get, getA_of_mem hn hp]
        rfl
      walk_at "go"
      refine ⟨p.2, e, _, rfl, n2, .inl (s2 _ _ hr'), ?_, fun H3 s3 => ?_⟩
      · rw [kvM_get, Option.isSome_map]
        exact getA_isSome.mpr n3
      walk_at "go"
      exact ⟨⟨_, rfl⟩, (s1.trans s2).trans s3⟩
    · rintro od σ' H' ⟨⟨v0, rfl⟩, s1⟩
      walk_at "go"
      refine q _ fun b o e => ?_
      by_cases c : b = d
      · subst c
        rw [upd_same, ← e, hd]
      · rw [upd_ne c]
        exact s1 _ _ (by rw [upd_ne c]; exact e)
end

section
variable {P : Program} {w : World} {K : PySem.W.Frag} {mg : Str → Option Value} {base : Heap}
theorem ok_is_integer (T : Txt mg) {f : Addr} {fd : FuncData} (F : C8.Def K mg "is_integer" s_is_integer f fd) (b : Binds K fd ["value"] [])  : C8.Cal P w K mg base 1 "is_integer" (sp_is_integer K) [] := by
  refine C8.cal0 F b .nil sc_is_integer (fun vs H Q E h => ?_) (fun cdv A outer s H vs Q E hr h => ?_)
  · exact len_is_integer h
  · refine ⟨_, (pss_one (ps_ret (pe_and (pe_callB call_isi (by rfl) T.n_isinstance (by decide +kernel) (pa_cons (pv 0) (pa_cons (pe_bltn (v := .ty "int") (by rfl) T.n_int (by decide +kernel) rfl) pa_nil))) (pe_one (pe_not (pe_callB call_isi (by rfl) T.n_isinstance (by decide +kernel) (pa_cons (pv 0) (pa_cons (pe_bltn (v := .ty "bool") (by rfl) T.n_bool (by decide +kernel) rfl) pa_nil)))))))), ?_⟩
    obtain ⟨i, rfl, q⟩ := h
    walk_at "go"
    exact q
end

section
variable {P : Program} {w : World} {K : PySem.W.Frag} {mg : Str → Option Value} {base : Heap}
theorem ok_within {C : Addr} (T : Txt mg) (TC : Cls K C) (TA : TabNames K C) {f : Addr} {fd : FuncData} (F : C8.Def K mg "within" s_within f fd) (b : Binds K fd ["value", "low", "high"] []) (c_is_integer : C8.Cal P w K mg base 1 "is_integer" (sp_is_integer K) []) : C8.Cal P w K mg base 2 "within" (sp_within K) [] := by
  refine C8.cal0 F b .nil sc_within (fun vs H Q E h => ?_) (fun cdv A outer s H vs Q E hr h => ?_)
  · exact len_within h
  · refine ⟨_, (pss_one (ps_ret (pe_and (C8.pe_c c_is_integer hr (by decide) (by rfl) (pa_cons (pv 0) pa_nil)) (pe_one (pe_chain op_le op_le (pv 1) (pv 0) (pv 2)))))), ?_⟩
    obtain ⟨i, lo, hi, rfl, h1, h2, q⟩ := h
    walk_at "go"
    refine ⟨i, rfl, ?_⟩
    walk_at "go"
    rw [decide_eq_true h1]
    walk_at "go"
    rw [decide_eq_true h2]
    exact q
end

section
variable {P : Program} {w : World} {K : PySem.W.Frag} {mg : Str → Option Value} {base : Heap}
theorem ok_rates_are_good {C : Addr} (T : Txt mg) (TC : Cls K C) (TA : TabNames K C) {f : Addr} {fd : FuncData} (F : C8.Def K mg "_rates_are_good" s__rates_are_good f fd) (b : Binds K fd ["rates"] []) (c_is_name : C8.Cal P w K mg base 2 "is_name" (sp_is_name K) []) (c_within : C8.Cal P w K mg base 2 "within" (sp_within K) []) : C8.Cal P w K mg base 3 "_rates_are_good" (sp__rates_are_good K) [] := by
  refine C8.cal0 F b .nil sc__rates_are_good (fun vs H Q E h => ?_) (fun cdv A outer s H vs Q E hr h => ?_)
  · exact len__rates_are_good h
  · refine ⟨_, (pss_cons (ps_if (PW.pt (pw_or (pt_not (pt_val (pe_callB call_isi (by rfl) T.n_isinstance (by decide +kernel) (pa_cons (pv 0) (pa_cons (pe_bltn (v := .ty "dict") (by rfl) T.n_dict (by decide +kernel) rfl) pa_nil))))) (pw_or1 (pt_not (pt_chain op_le op_le pe_int (pe_callB call_lenD (by rfl) T.n_len (by decide +kernel) (pa_cons (pv 0) pa_nil)) (C8.pe_gc (by rfl) T.c_MOST_COLUMNS))))))
  (pss_one (ps_ret pe_bl))
  pss_nil)
  (pss_cons (ps_lock (ps_for PassesOwn.never rfl (pi_keys (pv 0)) (pg_name (i := 1) sc__rates_are_good.nd rfl (by first | exact Or.inl rfl | exact Or.inr rfl))
  (pss_one (ps_if (PW.pt (pw_or (pt_not (pt_val (C8.pe_c c_is_name hr (by decide) (by rfl) (pa_cons (pv 1) pa_nil)))) (pw_or1 (pt_not (pt_val (C8.pe_c c_within hr (by decide) (by rfl) (pa_cons (pe_dget (hu_of hr) (pv 0) (pv 1) (fun _ _ => rfl)) (pa_cons pe_int (pa_cons (C8.pe_gc (by rfl) T.c_MOST_RATE) pa_nil)))))))))
  (pss_one (ps_ret pe_bl))
  pss_nil))))
  (pss_one (ps_ret pe_bl)))), ?_⟩
    obtain ⟨d, rs, rfl, hd, ⟨r1, r2, r3⟩, rn, q⟩ := h
    walk_at "go"
    refine Rd.isDK hd ?_
    walk_at "go"
    refine ⟨d, _, rfl, hd, ?_⟩
    walk_at "go"
    rw [kvM_len]
    refine Rd.itTd (by omega) ?_
    walk_at "go"
    rw [decide_eq_true (show (rs.length : Int) ≤ 6 by omega)]
    walk_at "go"
    refine lockK hd (fun od Q q => ⟨_, rfl, q⟩) (fun od i σ' H' => (∃ v, σ' = [some (.ref d), v]) ∧ Same (upd H d (.frz od (.dK (kvM V.int rs)))) H') (fun od => ⟨⟨_, rfl⟩, Same.refl _⟩) (fun od i σ' H' p => p.2 _ _ upd_same) ?_ ?_
    · rintro od i k v σ' H' hk ⟨⟨v0, rfl⟩, s1⟩
      have fz : H' d = some (.frz od (.dK (kvM V.int rs))) := s1 _ _ upd_same
      obtain ⟨p, hp, e⟩ := List.mem_map.mp (List.mem_of_getElem? hk)
      cases e
      obtain ⟨n1, b1, b2⟩ := r3 p hp
      walk_at "go"
      refine ⟨p.1, rfl, n1, fun H2 s2 => ?_⟩
      walk_at "go"
      refine ⟨d, .int p.2, rfl, .inl ⟨_, .inr p.1, .inr ⟨od, s2 _ _ fz⟩, rfl, ?_⟩, ?_⟩
      · rw [kvM_get, getA_of_mem rn hp]
        rfl
      walk_at "go"
      refine ⟨p.2, 0, 1000000000, rfl, b1, b2, ?_⟩
      walk_at "go"
      exact ⟨⟨_, rfl⟩, s1.trans s2⟩
    · rintro od σ' H' ⟨⟨v0, rfl⟩, s1⟩
      walk_at "go"
      refine q _ fun b o e => ?_
      by_cases c : b = d
      · subst c
        rw [upd_same, ← e, hd]
      · rw [upd_ne c]
        exact s1 _ _ (by rw [upd_ne c]; exact e)
end

section
variable {P : Program} {w : World} {K : PySem.W.Frag} {mg : Str → Option Value} {base : Heap}
theorem ok_is_pair (T : Txt mg) {f : Addr} {fd : FuncData} (F : C8.Def K mg "_is_pair" s__is_pair f fd) (b : Binds K fd ["value"] [])  : C8.Cal P w K mg base 1 "_is_pair" (sp__is_pair K) [] := by
  refine C8.cal0 F b .nil sc__is_pair (fun vs H Q E h => ?_) (fun cdv A outer s H vs Q E hr h => ?_)
  · exact len__is_pair h
  · refine ⟨_, (pss_one (ps_ret (pe_and (pe_callB call_isi (by rfl) T.n_isinstance (by decide +kernel) (pa_cons (pv 0) (pa_cons (pe_bltn (v := .ty "tuple") (by rfl) T.n_tuple (by decide +kernel) rfl) pa_nil))) (pe_one (pe_cmpR op_eq (pe_callB call_len_seq (by rfl) T.n_len (by decide +kernel) (pa_cons (pv 0) pa_nil)) pe_int (nomark _)))))), ?_⟩
    obtain ⟨p, a, b, rfl, hp, q⟩ := h
    walk_at "go"
    refine Rd.isTup hp ?_
    walk_at "go"
    refine ⟨p, _, rfl, .inr (st_of hp), ?_⟩
    walk_at "go"
    exact Rd.eqT rfl rfl q
end

section
variable {P : Program} {w : World} {K : PySem.W.Frag} {mg : Str → Option Value} {base : Heap}
theorem ok_step_is_good {C : Addr} (T : Txt mg) (TC : Cls K C) (TA : TabNames K C) {f : Addr} {fd : FuncData} (F : C8.Def K mg "_step_is_good" s__step_is_good f fd) (b : Binds K fd ["pair", "step", "homes"] []) (c_is_known : C8.Cal P w K mg base 3 "_is_known" (sp__is_known K) []) (c_is_pair : C8.Cal P w K mg base 1 "_is_pair" (sp__is_pair K) []) (c_is_name : C8.Cal P w K mg base 2 "is_name" (sp_is_name K) []) : C8.Cal P w K mg base 4 "_step_is_good" (sp__step_is_good K) [] := by
  refine C8.cal0 F b .nil sc__step_is_good (fun vs H Q E h => ?_) (fun cdv A outer s H vs Q E hr h => ?_)
  · exact len__step_is_good h
  · refine ⟨_, (pss_cons (ps_if (PW.pt (pw_or (pt_not (pt_val (C8.pe_c c_is_pair hr (by decide) (by rfl) (pa_cons (pv 0) pa_nil)))) (pw_or (pt_not (pt_val (C8.pe_c c_is_known hr (by decide) (by rfl) (pa_cons (pe_ix ix_tup (pv 0) pe_int (fun _ _ => rfl)) (pa_cons (pv 2) pa_nil))))) (pw_or1 (pt_not (pt_val (C8.pe_c c_is_name hr (by decide) (by rfl) (pa_cons (pe_ix ix_tup (pv 0) pe_int (fun _ _ => rfl)) pa_nil))))))))
  (pss_one (ps_ret pe_bl))
  pss_nil)
  (pss_one (ps_ret (pe_and (C8.pe_c c_is_pair hr (by decide) (by rfl) (pa_cons (pv 1) pa_nil)) (pe_and (C8.pe_c c_is_known hr (by decide) (by rfl) (pa_cons (pe_ix ix_tup (pv 1) pe_int (fun _ _ => rfl)) (pa_cons (pv 2) pa_nil))) (pe_one (pe_callB call_isi (by rfl) T.n_isinstance (by decide +kernel) (pa_cons (pe_ix ix_tup (pv 1) pe_int (fun _ _ => rfl)) (pa_cons (pe_bltn (v := .ty "bool") (by rfl) T.n_bool (by decide +kernel) rfl) pa_nil))))))))), ?_⟩
    obtain ⟨p, q, d, s0, c, t, b, kvs, rfl, hp, hq, hd, n1, n2, n3, v1, v2, k⟩ := h
    have rd_mono : ∀ {H1 : Hp}, Same H H1 → Rd H1 d (.dK kvs) := fun s => hd.elim (fun e => .inl (s _ _ e)) fun ⟨o, e⟩ => .inr ⟨o, s _ _ e⟩
    walk_at "go"
    refine ⟨p, _, _, rfl, hp, ?_⟩
    walk_at "go"
    refine Rd.ixT (st_of hp) (atI_nat (j := 0) rfl) ?_
    walk_at "go"
    refine ⟨s0, d, kvs, rfl, n1, hd, v1, fun H1 s1 => ?_⟩
    walk_at "go"
    refine Rd.ixT (st_of (s1 _ _ hp)) (atI_nat (j := 1) rfl) ?_
    walk_at "go"
    refine ⟨c, rfl, n2, fun H2 s2 => ?_⟩
    walk_at "go"
    have s12 := s1.trans s2
    refine ⟨q, _, _, rfl, s12 _ _ hq, ?_⟩
    walk_at "go"
    refine Rd.ixT (st_of (s12 _ _ hq)) (atI_nat (j := 0) rfl) ?_
    walk_at "go"
    refine ⟨t, d, kvs, rfl, n3, rd_mono s12, v2, fun H3 s3 => ?_⟩
    walk_at "go"
    refine Rd.ixT (st_of ((s12.trans s3) _ _ hq)) (atI_nat (j := 1) rfl) ?_
    walk_at "go"
    exact k H3 (s12.trans s3)
end

section
variable {P : Program} {w : World} {K : PySem.W.Frag} {mg : Str → Option Value} {base : Heap}
theorem ok_steps_are_good {C : Addr} (T : Txt mg) (TC : Cls K C) (TA : TabNames K C) {f : Addr} {fd : FuncData} (F : C8.Def K mg "_steps_are_good" s__steps_are_good f fd) (b : Binds K fd ["steps", "homes"] []) (c_causes_of : C8.Cal P w K mg base 1 "_causes_of" (sp__causes_of K) []) (c_step_is_good : C8.Cal P w K mg base 4 "_step_is_good" (sp__step_is_good K) []) : C8.Cal P w K mg base 5 "_steps_are_good" (sp__steps_are_good K) [] := by
  refine C8.cal0 F b .nil sc__steps_are_good (fun vs H Q E h => ?_) (fun cdv A outer s H vs Q E hr h => ?_)
  · exact len__steps_are_good h
  · refine ⟨_, (pss_cons (ps_if (pt_not (pt_val (pe_callB call_isi (by rfl) T.n_isinstance (by decide +kernel) (pa_cons (pv 0) (pa_cons (pe_bltn (v := .ty "dict") (by rfl) T.n_dict (by decide +kernel) rfl) pa_nil)))))
  (pss_one (ps_ret pe_bl))
  pss_nil)
  (pss_cons (ps_lock (ps_for PassesOwn.never rfl (pi_keys (pv 0)) (pg_name (i := 2) sc__steps_are_good.nd rfl (by first | exact Or.inl rfl | exact Or.inr rfl))
  (pss_one (ps_if (pt_not (pt_val (C8.pe_c c_step_is_good hr (by decide) (by rfl) (pa_cons (pv 2) (pa_cons (pe_dget (hu_of hr) (pv 0) (pv 2) (fun _ _ => rfl)) (pa_cons (pv 1) pa_nil))))))
  (pss_one (ps_ret pe_bl))
  pss_nil))))
  (pss_cons (ps_set (i := 3) sc__steps_are_good.nd rfl (by first | exact Or.inl rfl | exact Or.inr rfl) (C8.pe_c c_causes_of hr (by decide) (by rfl) (pa_cons (pv 0) pa_nil)))
  (pss_cons (ps_if (pt_cmpR op_gt (pe_callB call_len_seq (by rfl) T.n_len (by decide +kernel) (pa_cons (pv 3) pa_nil)) (C8.pe_gc (by rfl) T.c_MOST_CAUSES) (nomark _))
  (pss_one (ps_ret pe_bl))
  pss_nil)
  (pss_one (ps_ret (pe_callB (cr_all rfl) (by rfl) T.n_all (by decide +kernel) (pa_cons (pe_lock (pe_lc2 (own := [("status", 4), ("cause", 5)]) (vs1 := [5]) (g := (gName 4)) (tt := _) (g1 := (gName 5)) (tt1 := _) rfl sc__steps_are_good.nd (pi_keys (pv 1)) (blkOk_by (own := [("status", 4), ("cause", 5)]) (N := ["steps", "homes", "pair", "causes", "status", "cause"]) (sc := (C8.fnScope s__steps_are_good)) (by decide +kernel)) (by decide) (fun _ _ _ _ _ => (pg_name (i := 4) sc__steps_are_good.nd rfl (by first | exact Or.inl rfl | exact Or.inr rfl))) (fun _ _ _ _ _ => pts_nil) (fun _ _ _ _ _ => (Rd.piListK (K := K) rfl (pv 3))) (fun _ _ _ _ _ => (pg_name (i := 5) sc__steps_are_good.nd rfl (by first | exact Or.inl rfl | exact Or.inr rfl))) (fun _ _ _ _ _ => pts_nil) (fun _ _ _ _ _ => (pe_cmp (pc_din (hu_of hr) (pe_tup (pa_cons (pv 4) (pa_cons (pv 5) pa_nil))) (pv 0)) rfl)))) pa_nil)))))))), ?_⟩
    obtain ⟨d, kvs, e, T0, cs, rfl, hd, hst, he, ok, q⟩ := h
    have ned : e ≠ d := ne_of he hd (fun z => nomatch z)
    walk_at "go"
    refine Rd.isDT hd ?_
    walk_at "go"
    refine lockT hd (fun od Q q => ⟨_, rfl, q⟩) (fun od i σ' H' => (∃ v, σ' = [some (.ref d), some (.ref e), v, none, none, none]) ∧ Same (upd H d (.frz od (.dT kvs))) H') (fun od => ⟨⟨_, rfl⟩, Same.refl _⟩) (fun od i σ' H' p => p.2 _ _ upd_same) ?_ ?_
    · rintro od i k v pq σ' H' hk hpq ⟨⟨v0, rfl⟩, s1⟩
      have fz : H' d = some (.frz od (.dT kvs)) := s1 _ _ upd_same
      have he' : H' e = some (.dK (kvM V.str T0.homes)) := s1 _ _ (by rw [upd_ne ned]; exact he)
      obtain ⟨r, hr', h1, p, h2, h3⟩ := hst.at hk
      have h1 : k = [Sum.inr r.1.1, Sum.inr r.1.2] := h1
      have h2 : v = V.ref p := h2
      subst h1 h2
      obtain ⟨m1, m2, m3⟩ := ok.srow r (List.mem_of_getElem? hr')
      have hp' : H' p = some (.tup [.str r.2.1, .bl r.2.2]) := s1 _ _ (by rw [upd_ne (ne_of h3 hd (fun z => nomatch z))]; exact h3)
      walk_at "go"
      have g1 := hst.get r.1
      rw [getA_of_mem ok.snd (show (r.1, r.2) ∈ T0.steps from List.mem_of_getElem? hr')] at g1
      obtain ⟨p2, g1, g2⟩ := g1
      have hp2 : H' p2 = some (.tup [.str r.2.1, .bl r.2.2]) := s1 _ _ (by rw [upd_ne (ne_of g2 hd (fun z => nomatch z))]; exact g2)
      refine ⟨d, .ref p2, rfl, .inr ⟨kvs, skey r.1, pq, .inr ⟨od, fz⟩, rfl, hpq, g1.symm⟩, ?_⟩
      walk_at "go"
      refine ⟨pq, p2, e, r.1.1, r.1.2, r.2.1, r.2.2, _, rfl, hpq, hp2, .inl he', ok.name m1, ok.causes _ m2, ok.name m3, ?_, ?_, fun H2 s2 => ?_⟩
      · rw [kvM_get, Option.isSome_map]
        exact getA_isSome.mpr m1
      · rw [kvM_get, Option.isSome_map]
        exact getA_isSome.mpr m3
      walk_at "go"
      exact ⟨⟨_, rfl⟩, s1.trans s2⟩
    · rintro od σ' H' ⟨⟨v0, rfl⟩, s1⟩
      have hsm : Same H (upd H' d (.dT kvs)) := fun b o e => by
        by_cases c : b = d
        · subst c
          rw [upd_same, ← e, hd]
        · rw [upd_ne c]
          exact s1 _ _ (by rw [upd_ne c]; exact e)
      walk_at "go"
      refine ⟨d, kvs, T0.steps, cs, rfl, upd_same, hst.mono fun p xs z => hsm _ _ z, fun r hr' => (ok.srow r hr').2.1, ok.few, fun H2 l ns s2 hl0 hl hmem hsrt hlen => ?_⟩
      walk_at "go"
      refine ⟨l, _, rfl, .inl (sq_of hl), ?_⟩
      walk_at "go"
      refine Rd.itFd (by rw [List.length_map]; omega) ?_
      walk_at "go"
      have hs2 := hsm.trans s2
      have he2 := hs2 _ _ he
      have hd2 := hs2 _ _ hd
      have nle : l ≠ e := ne_of hl he2 (fun z => nomatch z)
      refine Lck.lc2K (K := K) (a := l) (xs := ns.map V.str) he2 (fun od Q q => ⟨_, rfl, q⟩) (fun _ => rfl) (fun _ => rfl) (fun _ _ => rfl)
        (fun od D i j H' => H2 D = none ∧ Same (upd H2 e (.frz od (.dK (kvM V.str T0.homes)))) H' ∧ H' D = some (.lst ((List.replicate (i * ns.length + j) true).map V.bl)) ∧ i ≤ 8 ∧ j ≤ ns.length)
        (fun od D hD => ⟨hD, same_new (by rw [upd_ne (ne_of_none he2 hD).symm]; exact hD), by rw [upd_same]; simp, by omega, by omega⟩)
        (fun od D i j H' p => ⟨p.2.1 _ _ upd_same, sq_of (p.2.1 _ _ (by rw [upd_ne nle]; exact hl))⟩) ?_ ?_ ?_
      · rintro od D i j k v y H' hk hy ⟨hD, s3, hDl, hi, hj⟩
        obtain ⟨p, hp, ep⟩ := List.mem_map.mp (List.mem_of_getElem? hk)
        cases ep
        obtain ⟨c, hc, rfl⟩ := List.mem_map.mp (List.mem_of_getElem? hy)
        have hjl : j < ns.length := by
          have := (List.getElem?_eq_some_iff.mp hy).1
          rwa [List.length_map] at this
        walk_at "go"
        refine ⟨(by show 2 ≤ sizeLine; decide), fun tp htp => ?_⟩
        walk_at "go"
        have hcs : c ∈ cs := by
          obtain ⟨r, hr', rfl⟩ := List.mem_map.mp ((hmem c).mp hc)
          exact (ok.srow r hr').2.1
        obtain ⟨r, hr'⟩ := ok.full p.1 (List.mem_map.mpr ⟨p, hp, rfl⟩) c hcs
        have g1 := hst.get (p.1, c)
        rw [hr'] at g1
        obtain ⟨p2, g1, g2⟩ := g1
        have hd3 : upd H' tp (.tup [.str p.1, .str c]) d = some (.dT kvs) := by
          rw [upd_ne (ne_of_none (s3 _ _ (by rw [upd_ne ned.symm]; exact hd2)) htp)]
          exact s3 _ _ (by rw [upd_ne ned.symm]; exact hd2)
        refine ⟨d, some (.ref p2), rfl, .inr ⟨kvs, skey (p.1, c), tp, .inl hd3, rfl, upd_same, g1.symm⟩, ?_⟩
        have hDt : upd H' tp (.tup [.str p.1, .str c]) D = some (.lst ((List.replicate (i * ns.length + j) true).map V.bl)) := by
          rw [upd_ne (ne_of_none hDl htp)]
          exact hDl
        have hbig : i * ns.length + j ≤ 54 := by
          have : i * ns.length ≤ 8 * 6 := Nat.mul_le_mul hi hlen
          omega
        refine ⟨_, hDt, small1000 (by simp; omega), hD, same_mut (s3.trans (same_new htp)) (by rw [upd_ne (ne_of_none he2 hD).symm]; exact hD), ?_, hi, hjl⟩
        rw [upd_same, show i * ns.length + (j + 1) = (i * ns.length + j) + 1 by omega, List.replicate_succ', List.map_append]
        rfl
      · rintro od D i H' hik ⟨hD, s3, hDl, hi, hj⟩
        rw [List.length_map] at hDl
        rw [kvM_len] at hik
        refine ⟨hD, s3, ?_, by have := ok.homes.2.1; omega, by omega⟩
        rw [hDl, Nat.succ_mul, Nat.add_zero]
      · rintro od D H' ⟨hD, s3, hDl, hi, hj⟩
        walk_at "go"
        refine ⟨D, _, rfl, sq_of (by rw [upd_ne (ne_of_none he2 hD).symm]; exact hDl), ?_⟩
        have : (List.replicate ((kvM V.str T0.homes).length * ns.length + 0) true).all id = true := by simp
        rw [this]
        refine q _ fun b o z => ?_
        by_cases c : b = e
        · subst c
          rw [upd_same, ← z, he]
        · rw [upd_ne c]
          exact s3 _ _ (by rw [upd_ne c]; exact hs2 _ _ z)
end

section
variable {P : Program} {w : World} {K : PySem.W.Frag} {mg : Str → Option Value} {base : Heap}
theorem ok_RecoveryTable___init__ {C f : Addr} (T : Txt mg) (TC : Cls K C) (TA : TabNames K C) (M : Mk K C f) (hm : mg "RecoveryTable" = some (.ref C)) {fd : FuncData} (F : C8.Fun K "__init__" "RecoveryTable.__init__" s_RecoveryTable___init__ f fd) (b : Binds K fd ["self", "start", "homes", "rates", "steps"] []) (c_causes_of : C8.Cal P w K mg base 1 "_causes_of" (sp__causes_of K) []) (c_homes_are_good : C8.Cal P w K mg base 4 "_homes_are_good" (sp__homes_are_good K) []) (c_is_known : C8.Cal P w K mg base 3 "_is_known" (sp__is_known K) []) (c_rates_are_good : C8.Cal P w K mg base 3 "_rates_are_good" (sp__rates_are_good K) []) (c_steps_are_good : C8.Cal P w K mg base 5 "_steps_are_good" (sp__steps_are_good K) []) : C8.Mak P w K mg base 6 "RecoveryTable" C (sp_RecoveryTable___init__ K C) [] := by
  refine C8.mak0 M hm F b .nil sc_RecoveryTable___init__ (fun vs H Q E h => ?_) (fun cdv A outer s H vs Q E hr h => ?_)
  · exact len_RecoveryTable___init__ h
  · refine ⟨_, (pss_cons (ps_if (pt_not (pt_val (C8.pe_c c_rates_are_good hr (by decide) (by rfl) (pa_cons (pv 3) pa_nil))))
  (pss_one ps_never)
  pss_nil)
  (pss_cons (ps_if (pt_not (pt_val (C8.pe_c c_homes_are_good hr (by decide) (by rfl) (pa_cons (pv 2) (pa_cons (pv 3) pa_nil)))))
  (pss_one ps_never)
  pss_nil)
  (pss_cons (ps_if (pt_not (pt_val (C8.pe_c c_is_known hr (by decide) (by rfl) (pa_cons (pv 1) (pa_cons (pv 2) pa_nil)))))
  (pss_one ps_never)
  pss_nil)
  (pss_cons (ps_if (pt_not (pt_val (C8.pe_c c_steps_are_good hr (by decide) (by rfl) (pa_cons (pv 4) (pa_cons (pv 2) pa_nil)))))
  (pss_one ps_never)
  pss_nil)
  (pss_cons (ps_fld (pv 0) (pv 1) rfl)
  (pss_cons (ps_fld (pv 0) (pe_callTy call_tuple_of (by rfl) T.n_tuple (by decide +kernel) (pa_cons (pe_callB cr_sortedS (by rfl) T.n_sorted (by decide +kernel) (pa_cons (pe_callTy (call_listD rfl) (by rfl) T.n_list (by decide +kernel) (pa_cons (pv 2) pa_nil)) pa_nil)) pa_nil)) rfl)
  (pss_cons (ps_fld (pv 0) (pe_callTy call_tuple_of (by rfl) T.n_tuple (by decide +kernel) (pa_cons (C8.pe_c c_causes_of hr (by decide) (by rfl) (pa_cons (pv 4) pa_nil)) pa_nil)) rfl)
  (pss_cons (ps_fld (pv 0) (pe_callTy call_tuple_of (by rfl) T.n_tuple (by decide +kernel) (pa_cons (pe_callB cr_sortedS (by rfl) T.n_sorted (by decide +kernel) (pa_cons (pe_callTy (call_listD rfl) (by rfl) T.n_list (by decide +kernel) (pa_cons (pv 3) pa_nil)) pa_nil)) pa_nil)) rfl)
  (pss_cons (ps_fld (pv 0) (pe_callTy call_dictD (by rfl) T.n_dict (by decide +kernel) (pa_cons (pv 2) pa_nil)) rfl)
  (pss_cons (ps_fld (pv 0) (pe_callTy call_dictD (by rfl) T.n_dict (by decide +kernel) (pa_cons (pv 3) pa_nil)) rfl)
  (pss_one (ps_fld (pv 0) (pe_lock (DcT.pe_dcT (own := [("pair", 5)]) (g := (gName 5)) (tt := _) hr.units0 rfl sc_RecoveryTable___init__.nd (pi_keys (pv 4)) (blkOk_by (own := [("pair", 5)]) (N := ["self", "start", "homes", "rates", "steps", "pair"]) (sc := (C8.fnScope s_RecoveryTable___init__)) (by decide +kernel)) (fun _ _ _ _ _ => (pg_name (i := 5) sc_RecoveryTable___init__.nd rfl (by first | exact Or.inl rfl | exact Or.inr rfl))) (fun _ _ _ _ _ => pts_nil) (fun _ _ _ _ _ => (pv 5)) (fun _ _ _ _ _ => (pe_dget (hu_of hr) (pv 4) (pv 5) (fun _ _ => rfl))))) rfl)))))))))))), ?_⟩
    obtain ⟨a, dx, T0, cs, d1, d2, d3, skv, rfl, ha, h1, h2, h3, hst, ok, q⟩ := h
    walk_at "go"
    refine ⟨d2, _, rfl, h2, ok.rates, ok.rnd, fun H1 s1 => ?_⟩
    walk_at "go"
    refine ⟨d1, _, d2, _, rfl, s1 _ _ h1, s1 _ _ h2, ok.homes, ok.hnd, fun H2 s2 => ?_⟩
    have t2 := s1.trans s2
    walk_at "go"
    refine ⟨T0.start, d1, _, rfl, ok.name ok.start, .inl (t2 _ _ h1), ?_, fun H3 s3 => ?_⟩
    · rw [kvM_get, Option.isSome_map]
      exact getA_isSome.mpr ok.start
    have t3 := t2.trans s3
    walk_at "go"
    refine ⟨d3, skv, d1, T0, cs, rfl, t3 _ _ h3, hst.mono fun p xs e => t3 _ _ e, t3 _ _ h1, ok, fun H4 s4 => ?_⟩
    have t4 := t3.trans s4
    have n1 : d1 ≠ a := ne_of h1 ha (fun z => nomatch z)
    have n2 : d2 ≠ a := ne_of h2 ha (fun z => nomatch z)
    have n3 : d3 ≠ a := ne_of h3 ha (fun z => nomatch z)
    have i0 : ISt C a dx H H4 [] [(d1, .dK (kvM V.str T0.homes)), (d2, .dK (kvM V.int T0.rates)), (d3, .dT skv)] :=
      ⟨t4 _ _ ha, fun b o _ e => t4 _ _ e, fun z hz => by
        rcases List.mem_cons.mp hz with e | hz
        · rw [e]; exact ⟨n1, t4 _ _ h1⟩
        · rcases List.mem_cons.mp hz with e | hz
          · rw [e]; exact ⟨n2, t4 _ _ h2⟩
          · rcases List.mem_cons.mp hz with e | hz
            · rw [e]; exact ⟨n3, t4 _ _ h3⟩
            · cases hz⟩
    have hh := ok.homes.2.1
    have hr2 := ok.rates.2.1
    walk_at "go"
    refine ⟨a, C, dx, _, rfl, i0.at_, TC, TA.start, (by simp), ?_⟩
    rw [tp1]
    have i1 := i0.put (gs := [("start", V.str T0.start)])
    generalize upd H4 a (.ins C dx [("start", V.str T0.start)]) = G1 at i1 ⊢
    walk_at "go"
    refine ⟨d1, kvM V.str T0.homes, rfl, .inl (i1.get (by simp)), fun l1 hl1 => ?_⟩
    rw [kvM_keys]
    have i2 := i1.new (o := .lst ((T0.homes.map (·.1)).map V.str)) hl1
    generalize upd G1 l1 (.lst ((T0.homes.map (·.1)).map V.str)) = G2 at i2 ⊢
    walk_at "go"
    refine ⟨l1, (T0.homes.map (·.1)), rfl, sq_of (i2.get (by simp)), by rw [List.length_map]; omega, fun ss l2 _ _ hl2 => ?_⟩
    have i3 := i2.new (o := .lst (ss.map V.str)) hl2
    generalize upd G2 l2 (.lst (ss.map V.str)) = G3 at i3 ⊢
    walk_at "go"
    refine ⟨l2, ss.map V.str, rfl, .inl ⟨sq_of (i3.get (by simp)), fun p1 hp1 => ?_⟩⟩
    have i4 := i3.new (o := .tup (ss.map V.str)) hp1
    generalize upd G3 p1 (.tup (ss.map V.str)) = G4 at i4 ⊢
    walk_at "go"
    refine ⟨a, C, dx, _, rfl, i4.at_, TC, TA.statuses, (by simp), ?_⟩
    rw [tp2]
    have i5 := i4.put (gs := [("start", V.str T0.start), ("statuses", .ref p1)])
    generalize upd G4 a (.ins C dx [("start", V.str T0.start), ("statuses", .ref p1)]) = G5 at i5 ⊢
    have st5 : ∀ {G : Hp} {fs os}, ISt C a dx H G fs os → StepsIs G skv T0.steps := fun i => hst.mono fun p xs e => i.fr p _ (ne_of e ha (fun z => nomatch z)) e
    walk_at "go"
    refine ⟨d3, skv, T0.steps, cs, rfl, i5.get (by simp), st5 i5, fun e he => (ok.srow e he).2.1, ok.few, fun G6 l3 tcs s6 hl3 hl3' hmem hsrt hlen => ?_⟩
    have i6 := (i5.call s6).add hl3' (ne_of_none i5.at_ hl3).symm
    walk_at "go"
    refine ⟨l3, _, rfl, .inl ⟨sq_of hl3', fun p2 hp2 => ?_⟩⟩
    have i7 := i6.new (o := .tup (tcs.map V.str)) hp2
    generalize upd G6 p2 (.tup (tcs.map V.str)) = G7 at i7 ⊢
    walk_at "go"
    refine ⟨a, C, dx, _, rfl, i7.at_, TC, TA.causes, (by simp), ?_⟩
    rw [tp3]
    have i8 := i7.put (gs := [("start", V.str T0.start), ("statuses", .ref p1), ("causes", .ref p2)])
    generalize upd G7 a (.ins C dx [("start", V.str T0.start), ("statuses", .ref p1), ("causes", .ref p2)]) = G8 at i8 ⊢
    walk_at "go"
    refine ⟨d2, kvM V.int T0.rates, rfl, .inl (i8.get (by simp)), fun l4 hl4 => ?_⟩
    rw [kvM_keys]
    have i9 := i8.new (o := .lst ((T0.rates.map (·.1)).map V.str)) hl4
    generalize upd G8 l4 (.lst ((T0.rates.map (·.1)).map V.str)) = G9 at i9 ⊢
    walk_at "go"
    refine ⟨l4, (T0.rates.map (·.1)), rfl, sq_of (i9.get (by simp)), by rw [List.length_map]; omega, fun cl l5 _ _ hl5 => ?_⟩
    have i10 := i9.new (o := .lst (cl.map V.str)) hl5
    generalize upd G9 l5 (.lst (cl.map V.str)) = G10 at i10 ⊢
    walk_at "go"
    refine ⟨l5, cl.map V.str, rfl, .inl ⟨sq_of (i10.get (by simp)), fun p3 hp3 => ?_⟩⟩
    have i11 := i10.new (o := .tup (cl.map V.str)) hp3
    generalize upd G10 p3 (.tup (cl.map V.str)) = G11 at i11 ⊢
    walk_at "go"
    refine ⟨a, C, dx, _, rfl, i11.at_, TC, TA.columns, (by simp), ?_⟩
    rw [tp4]
    have i12 := i11.put (gs := [("start", V.str T0.start), ("statuses", .ref p1), ("causes", .ref p2), ("columns", .ref p3)])
    generalize upd G11 a (.ins C dx [("start", V.str T0.start), ("statuses", .ref p1), ("causes", .ref p2), ("columns", .ref p3)]) = G12 at i12 ⊢
    walk_at "go"
    refine ⟨d1, kvM V.str T0.homes, rfl, .inl (i12.get (by simp)), fun e1 he1 => ?_⟩
    have i13 := i12.new (o := .dK (kvM V.str T0.homes)) he1
    generalize upd G12 e1 (.dK (kvM V.str T0.homes)) = G13 at i13 ⊢
    walk_at "go"
    refine ⟨a, C, dx, _, rfl, i13.at_, TC, TA.homes, (by simp), ?_⟩
    rw [tp5]
    have i14 := i13.put (gs := [("start", V.str T0.start), ("statuses", .ref p1), ("causes", .ref p2), ("columns", .ref p3), ("_homes", .ref e1)])
    generalize upd G13 a (.ins C dx [("start", V.str T0.start), ("statuses", .ref p1), ("causes", .ref p2), ("columns", .ref p3), ("_homes", .ref e1)]) = G14 at i14 ⊢
    walk_at "go"
    refine ⟨d2, kvM V.int T0.rates, rfl, .inl (i14.get (by simp)), fun e2 he2 => ?_⟩
    have i15 := i14.new (o := .dK (kvM V.int T0.rates)) he2
    generalize upd G14 e2 (.dK (kvM V.int T0.rates)) = G15 at i15 ⊢
    walk_at "go"
    refine ⟨a, C, dx, _, rfl, i15.at_, TC, TA.rates, (by simp), ?_⟩
    rw [tp6]
    have i16 := i15.put (gs := [("start", V.str T0.start), ("statuses", .ref p1), ("causes", .ref p2), ("columns", .ref p3), ("_homes", .ref e1), ("_rates", .ref e2)])
    generalize upd G15 a (.ins C dx [("start", V.str T0.start), ("statuses", .ref p1), ("causes", .ref p2), ("columns", .ref p3), ("_homes", .ref e1), ("_rates", .ref e2)]) = G16 at i16 ⊢
    have hd3 : G16 d3 = some (.dT skv) := i16.get (by simp)
    have stG := st5 i16
    have hsl := ok.steps_len
    walk_at "go"
    refine Lck.dcT hd3 (fun od Q q => ⟨_, rfl, q⟩) (fun od D i H' => G16 D = none ∧ Same (upd G16 d3 (.frz od (.dT skv))) H' ∧ ∃ kv2, H' D = some (.dT kv2) ∧ StepsIs H' kv2 (T0.steps.take i))
      (fun od D hD => ⟨hD, same_new (by rw [upd_ne (ne_of_none hd3 hD).symm]; exact hD), [], upd_same, .nil⟩) (fun od D i H' p => p.2.1 _ _ upd_same) ?_ ?_
    · rintro od D i k v pq H' hk hpq ⟨hD, s1, kv2, hD2, st2⟩
      have fz : H' d3 = some (.frz od (.dT skv)) := s1 _ _ upd_same
      obtain ⟨r, hr', z1, p, z2, z3⟩ := stG.at hk
      have z1 : k = [Sum.inr r.1.1, Sum.inr r.1.2] := z1
      have z2 : v = V.ref p := z2
      subst z1 z2
      have g1 := stG.get r.1
      rw [getA_of_mem ok.snd (show (r.1, r.2) ∈ T0.steps from List.mem_of_getElem? hr')] at g1
      obtain ⟨p5, g1, g2⟩ := g1
      walk_at "go"
      refine ⟨rfl, ?_⟩
      walk_at "go"
      refine ⟨d3, .ref p5, rfl, .inr ⟨skv, skey r.1, pq, .inr ⟨od, fz⟩, rfl, hpq, g1.symm⟩, ?_⟩
      have hp5 : H' p5 = some (.tup [.str r.2.1, .bl r.2.2]) := s1 _ _ (by rw [upd_ne (ne_of g2 hd3 (fun z => nomatch z))]; exact g2)
      have st3 := st2.put r.1 hp5
      rw [putA_take ok.snd hr'] at st3
      refine ⟨kv2, _, pq, rfl, hpq, hD2, ?_, hD, same_mut s1 (by rw [upd_ne (ne_of_none hd3 hD).symm]; exact hD), _, upd_same, ?_⟩
      · have := st2.len
        rw [List.length_take] at this
        exact Nat.lt_of_lt_of_le (show kv2.length < 49 by omega) (by decide)
      · exact st3.mono fun b xs e => by rw [upd_ne (ne_of e hD2 (fun z => nomatch z))]; exact e
    · rintro od D H' ⟨hD, s1, kv2, hD2, st2⟩
      have sm := lock_same hd3 s1
      have nD : D ≠ d3 := (ne_of_none hd3 hD).symm
      have hD3 : upd H' d3 (.dT skv) D = some (.dT kv2) := by rw [upd_ne nD]; exact hD2
      have i17 := (i16.call sm).add hD3 (ne_of_none i16.at_ hD).symm
      rw [show skv.length = T0.steps.length from hst.len, List.take_length] at st2
      have st4 : StepsIs (upd H' d3 (.dT skv)) kv2 T0.steps := st2.mono fun b xs e => by
        have : b ≠ d3 := ne_of e (s1 _ _ upd_same) (fun z => nomatch z)
        rw [upd_ne this]; exact e
      generalize upd H' d3 (.dT skv) = G17 at i17 st4 sm hD3 ⊢
      walk_at "go"
      refine ⟨a, C, dx, _, rfl, i17.at_, TC, TA.steps, (by simp), ?_⟩
      rw [tp7]
      have i18 := i17.put (gs := tabFs T0.start p1 p2 p3 e1 e2 D)
      refine q _ tcs i18.fr ⟨dx, p1, p2, p3, e1, e2, D, ss, cl, kv2, i18.at_, i18.get (by simp), i18.get (by simp), i18.get (by simp), i18.get (by simp), i18.get (by simp), i18.get (by simp), ?_⟩ ⟨fun c => ?_, hsrt⟩
      · exact st4.mono fun b xs e => by rw [upd_ne (ne_of e i17.at_ (fun z => nomatch z))]; exact e
      · rw [hmem c]
        constructor
        · intro z
          obtain ⟨e, he, rfl⟩ := List.mem_map.mp z
          exact (ok.srow e he).2.1
        · intro z
          obtain ⟨r, hr'⟩ := ok.full _ ok.start c z
          exact List.mem_map.mpr ⟨_, getA_mem hr', rfl⟩
end

section
variable {P : Program} {w : World} {K : PySem.W.Frag} {mg : Str → Option Value} {base : Heap}
theorem ok_law_table {C : Addr} (T : Txt mg) (TC : Cls K C) (TA : TabNames K C) {f : Addr} {fd : FuncData} (F : C8.Def K mg "_law_table" s__law_table f fd) (b : Binds K fd ["plan"] []) (c_RecoveryTable : C8.Mak P w K mg base 6 "RecoveryTable" C (sp_RecoveryTable___init__ K C) []) : C8.Cal P w K mg base 8 "_law_table" (sp__law_table K C) [] := by
  refine C8.cal0 F b .nil sc__law_table (fun vs H Q E h => ?_) (fun cdv A outer s H vs Q E hr h => ?_)
  · exact len__law_table h
  · refine ⟨_, (pss_cons (ps_set (i := 1) sc__law_table.nd rfl (by first | exact Or.inl rfl | exact Or.inr rfl) pe_dnewT)
  (pss_cons (ps_lock (ps_for PassesOwn.never rfl (pi_keys (pe_dget (hu_of hr) (pv 0) pe_str (fun _ _ => rfl))) (pg_name (i := 2) sc__law_table.nd rfl (by first | exact Or.inl rfl | exact Or.inr rfl))
  (pss_one (ps_dput (hu_of hr) (pv 1) (pv 2) (pe_dget (hu_of hr) (pe_dget (hu_of hr) (pv 0) pe_str (fun _ _ => rfl)) (pv 2) (fun _ _ => rfl)) rfl))))
  (pss_one (ps_ret (C8.pe_mk c_RecoveryTable hr (by decide) (by rfl) (pa_cons (pe_dget (hu_of hr) (pv 0) pe_str (fun _ _ => rfl)) (pa_cons (pe_callTy call_dictD (by rfl) T.n_dict (by decide +kernel) (pa_cons (pe_dget (hu_of hr) (pv 0) pe_str (fun _ _ => rfl)) pa_nil)) (pa_cons (pe_callTy call_dictD (by rfl) T.n_dict (by decide +kernel) (pa_cons (pe_dget (hu_of hr) (pv 0) pe_str (fun _ _ => rfl)) pa_nil)) (pa_cons (pv 1) pa_nil))))))))), ?_⟩
    obtain ⟨a, T0, cs, rfl, hP, ok, q⟩ := h
    obtain ⟨kvs, d1, d2, d3, l, skv, h0, v1, v2, v3, v4, v5, h1, h2, h3, h4, h5⟩ := hP.ex
    have hsl := ok.steps_len
    walk_at "go"
    refine fun ds hds => ?_
    have n3 : d3 ≠ ds := ne_of_none h3 hds
    have na : a ≠ d3 := ne_of h0 h3 (fun z => nomatch z)
    have nd : ds ≠ d3 := n3.symm
    walk_at "go"
    have hd3 : upd H ds (.dT []) d3 = some (.dT skv) := by rw [upd_ne n3]; exact h3
    refine lockT (d := d3) (kvs := skv) hd3 (fun od Q q => ⟨_, rfl, a, .ref d3, rfl, .inl ⟨kvs, .inr "steps", .inl ?_, rfl, v4.symm⟩, q⟩) (fun od i σ' H' => (∃ v, σ' = [some (.ref a), some (.ref ds), v]) ∧ Same (upd H d3 (.frz od (.dT skv))) H' ∧ ∃ kv2, H' ds = some (.dT kv2) ∧ StepsIs H' kv2 (T0.steps.take i))
      (fun od => ⟨⟨_, rfl⟩, lock_new h3 hds, [], by rw [upd_ne nd, upd_same], .nil⟩) (fun od i σ' H' p => p.2.1 _ _ upd_same) ?_ ?_
    · rw [upd_ne na, upd_ne (ne_of_none h0 hds)]
      exact h0
    · rintro od i k v pq σ' H' hk hpq ⟨⟨v0, rfl⟩, s1, kv2, hD2, st2⟩
      have fz : H' d3 = some (.frz od (.dT skv)) := s1 _ _ upd_same
      have ha' : H' a = some (.dK kvs) := s1 _ _ (by rw [upd_ne na]; exact h0)
      obtain ⟨r, hr', z1, p, z2, z3⟩ := h4.at hk
      have z1 : k = [Sum.inr r.1.1, Sum.inr r.1.2] := z1
      have z2 : v = V.ref p := z2
      subst z1 z2
      have g1 := h4.get r.1
      rw [getA_of_mem ok.snd (show (r.1, r.2) ∈ T0.steps from List.mem_of_getElem? hr')] at g1
      obtain ⟨p5, g1, g2⟩ := g1
      walk_at "go"
      refine ⟨a, .ref d3, rfl, .inl ⟨kvs, .inr "steps", .inl ha', rfl, v4.symm⟩, ?_⟩
      walk_at "go"
      refine ⟨d3, .ref p5, rfl, .inr ⟨skv, skey r.1, pq, .inr ⟨od, fz⟩, rfl, hpq, g1.symm⟩, ?_⟩
      walk_at "go"
      have hp5 : H' p5 = some (.tup [.str r.2.1, .bl r.2.2]) := s1 _ _ (by rw [upd_ne (ne_of g2 h3 (fun z => nomatch z))]; exact g2)
      have st3 := st2.put r.1 hp5
      rw [putA_take ok.snd hr'] at st3
      refine ⟨ds, _, rfl, .inr ⟨kv2, skey r.1, pq, hD2, rfl, hpq, ?_, rfl⟩, ⟨_, rfl⟩, same_mut s1 (by rw [upd_ne nd]; exact hds), _, upd_same, ?_⟩
      · have := st2.len
        rw [List.length_take] at this
        exact Nat.lt_of_lt_of_le (show kv2.length < 49 by omega) (by decide)
      · exact st3.mono fun b xs e => by rw [upd_ne (ne_of e hD2 (fun z => nomatch z))]; exact e
    · rintro od σ' H' ⟨⟨v0, rfl⟩, s1, kv2, hD2, st2⟩
      have sm := lock_same h3 s1
      have hD3 : upd H' d3 (.dT skv) ds = some (.dT kv2) := by rw [upd_ne nd]; exact hD2
      rw [show skv.length = T0.steps.length from h4.len, List.take_length] at st2
      have st4 : StepsIs (upd H' d3 (.dT skv)) kv2 T0.steps := st2.mono fun b xs e => by
        rw [upd_ne (ne_of e (s1 _ _ upd_same) (fun z => nomatch z))]; exact e
      generalize upd H' d3 (.dT skv) = G1 at st4 sm hD3 ⊢
      walk_at "go"
      refine ⟨a, .str T0.start, rfl, .inl ⟨kvs, .inr "first", .inl (sm _ _ h0), rfl, v1.symm⟩, ?_⟩
      walk_at "go"
      refine ⟨a, .ref d1, rfl, .inl ⟨kvs, .inr "homes", .inl (sm _ _ h0), rfl, v2.symm⟩, ?_⟩
      walk_at "go"
      refine ⟨d1, kvM V.str T0.homes, rfl, .inl (sm _ _ h1), fun e1 he1 => ?_⟩
      have s2 : Same G1 (upd G1 e1 (.dK (kvM V.str T0.homes))) := same_new he1
      have f2 : upd G1 e1 (.dK (kvM V.str T0.homes)) e1 = some (.dK (kvM V.str T0.homes)) := upd_same
      generalize upd G1 e1 (.dK (kvM V.str T0.homes)) = G2 at s2 f2 ⊢
      walk_at "go"
      refine ⟨a, .ref d2, rfl, .inl ⟨kvs, .inr "rates", .inl (s2 _ _ (sm _ _ h0)), rfl, v3.symm⟩, ?_⟩
      walk_at "go"
      refine ⟨d2, kvM V.int T0.rates, rfl, .inl (s2 _ _ (sm _ _ h2)), fun e2 he2 => ?_⟩
      have s3 : Same G2 (upd G2 e2 (.dK (kvM V.int T0.rates))) := same_new he2
      have f3 : upd G2 e2 (.dK (kvM V.int T0.rates)) e2 = some (.dK (kvM V.int T0.rates)) := upd_same
      generalize upd G2 e2 (.dK (kvM V.int T0.rates)) = G3 at s3 f3 ⊢
      walk_at "go"
      refine fun x dx hx hdx hne => ?_
      have s4 : Same G3 (upd (upd G3 dx (.own x)) x (.ins C dx [])) := (same_new hdx).trans (same_new (by rw [upd_ne hne.symm]; exact hx))
      refine ⟨x, dx, T0, cs, e1, e2, ds, kv2, rfl, upd_same, s4 _ _ (s3 _ _ f2), s4 _ _ f3, s4 _ _ (s3 _ _ (s2 _ _ hD3)), st4.mono fun b xs e => s4 _ _ (s3 _ _ (s2 _ _ e)), ok, fun H2 tcs fr hT hcs => ⟨rfl, ?_⟩⟩
      refine q H2 x tcs (fun b o e => ?_) hT hcs
      have e3 := s3 _ _ (s2 _ _ (sm _ _ e))
      exact fr b o (ne_of_none e3 hx) (s4 _ _ e3)
end

section
variable {P : Program} {w : World} {K : PySem.W.Frag} {mg : Str → Option Value} {base : Heap}
theorem ok_RecoveryTable_home {C f : Addr} (T : Txt mg) (TC : Cls K C) (TA : TabNames K C) (me : Meth K C "home" f) {fd : FuncData} (F : C8.Fun K "home" "RecoveryTable.home" s_RecoveryTable_home f fd) (b : Binds K fd ["self", "status"] [])  : C8.Met P w K mg base 1 C "home" (sp_RecoveryTable_home K C) [] := by
  refine C8.met0 TC me F b sc_RecoveryTable_home (fun vs H Q E h => ?_) (fun cdv A outer s H vs Q E hr h => ?_)
  · exact len_RecoveryTable_home h
  · refine ⟨_, (pss_cons (ps_if (pt_cmp (pc_dnotin (hu_of hr) (pv 1) (pe_fld (pv 0) rfl)))
  (pss_one ps_never)
  pss_nil)
  (pss_one (ps_ret (pe_dget (hu_of hr) (pe_fld (pv 0) rfl) (pv 1) (fun _ _ => rfl))))), ?_⟩
    obtain ⟨a, T0, cs, s0, hm, rfl, hT, hg, q⟩ := h
    obtain ⟨dx, p1, p2, p3, d1, d2, d3, ss, cl, skv, h0, h1, h2, h3, h4, h5, h6, h7⟩ := hT.ex
    walk_at "go"
    refine ⟨a, C, dx, _, _, rfl, h0, TC, TA.homes, tf_homes, ?_⟩
    refine ⟨d1, _, rfl, .inl ⟨_, .inr s0, .inl h4, rfl, rfl⟩, ?_⟩
    rw [kvM_get, hg]
    refine ⟨false, rfl, ?_⟩
    walk_at "go"
    refine ⟨a, C, dx, _, _, rfl, h0, TC, TA.homes, tf_homes, ?_⟩
    walk_at "go"
    exact ⟨d1, .str hm, rfl, .inl ⟨_, .inr s0, .inl h4, rfl, by rw [kvM_get, hg]; rfl⟩, q⟩
end

section
variable {P : Program} {w : World} {K : PySem.W.Frag} {mg : Str → Option Value} {base : Heap}
theorem ok_RecoveryTable_step {C f : Addr} (T : Txt mg) (TC : Cls K C) (TA : TabNames K C) (me : Meth K C "step" f) {fd : FuncData} (F : C8.Fun K "step" "RecoveryTable.step" s_RecoveryTable_step f fd) (b : Binds K fd ["self", "status", "cause"] [])  : C8.Met P w K mg base 1 C "step" (sp_RecoveryTable_step K C) [] := by
  refine C8.met0 TC me F b sc_RecoveryTable_step (fun vs H Q E h => ?_) (fun cdv A outer s H vs Q E hr h => ?_)
  · exact len_RecoveryTable_step h
  · refine ⟨_, (pss_cons (ps_if (pt_cmp (pc_dnotin (hu_of hr) (pv 1) (pe_fld (pv 0) rfl)))
  (pss_one ps_never)
  pss_nil)
  (pss_cons (ps_if (pt_cmpR op_eq (pv 2) pe_str (nomark _))
  (pss_one (ps_ret (pe_tup (pa_cons (pv 1) (pa_cons pe_bl pa_nil)))))
  pss_nil)
  (pss_cons (ps_if (pt_cmpR op_notIn_seq (pv 2) (pe_fld (pv 0) rfl) (by rfl))
  (pss_one ps_never)
  pss_nil)
  (pss_one (ps_ret (pe_dget (hu_of hr) (pe_fld (pv 0) rfl) (pe_tup (pa_cons (pv 1) (pa_cons (pv 2) pa_nil))) (fun _ _ => rfl))))))), ?_⟩
    obtain ⟨a, T0, cs, s0, c, t, b, rfl, hT, hs, hc, nc, hg, q⟩ := h
    obtain ⟨dx, p1, p2, p3, d1, d2, d3, ss, cl, skv, h0, h1, h2, h3, h4, h5, h6, h7⟩ := hT.ex
    obtain ⟨hm, ehm⟩ := Option.isSome_iff_exists.mp (getA_isSome.mpr hs)
    walk_at "go"
    refine ⟨a, C, dx, _, _, rfl, h0, TC, TA.homes, tf_homes, ?_⟩
    refine ⟨d1, _, rfl, .inl ⟨_, .inr s0, .inl h4, rfl, rfl⟩, ?_⟩
    rw [kvM_get, ehm]
    refine ⟨false, rfl, ?_⟩
    walk_at "go"
    refine Rd.eqF rfl (fun e => nc.ne (V.str.inj e)) ?_
    walk_at "go"
    refine ⟨a, C, dx, _, _, rfl, h0, TC, TA.causes, tf_causes, ?_⟩
    refine ⟨p2, _, rfl, .inr (st_of h2), rfl, flat_strs _, ?_⟩
    rw [inV_str, decide_eq_true hc]
    refine ⟨false, rfl, ?_⟩
    walk_at "go"
    refine ⟨a, C, dx, _, _, rfl, h0, TC, TA.steps, tf_steps, ?_⟩
    walk_at "go"
    refine ⟨(by show 2 ≤ sizeLine; decide), fun p hp => ?_⟩
    have g1 := h7.get (s0, c)
    rw [hg] at g1
    obtain ⟨p5, g1, g2⟩ := g1
    refine ⟨d3, .ref p5, rfl, .inr ⟨skv, skey (s0, c), p, .inl (by rw [upd_ne (ne_of_none h6 hp)]; exact h6), rfl, upd_same, g1.symm⟩, ?_⟩
    exact q _ p5 (same_new hp) (by rw [upd_ne (ne_of_none g2 hp)]; exact g2)
end

/-- the search's heap: pf the found, ds the seen -/
structure RHp (H0 H : Hp) (pf ds : Addr) (F : List (Str × List Str)) : Prop where
  sm : Same H0 H
  nf : H0 pf = none
  nd : H0 ds = none
  ne : pf ≠ ds
  fa : FoundAt H pf F
  se : H ds = some (.dK (kvM V.bl (F.map fun f => (f.1, true))))
def TupKeep (H H' : Hp) : Prop := ∀ p xs, H p = some (.tup xs) → H' p = some (.tup xs)
theorem TupKeep.same {H H' : Hp} (s : Same H H') : TupKeep H H' := fun p xs e => s _ _ e
theorem TupKeep.trans {H H' H2 : Hp} (a : TupKeep H H') (b : TupKeep H' H2) : TupKeep H H2 := fun p xs e => b _ _ (a _ _ e)
theorem TupKeep.mut {H : Hp} {p : Addr} {u o : HO} (h : H p = some u) (nt : ∀ xs, u ≠ .tup xs) : TupKeep H (upd H p o) := fun b xs e => by
  rw [upd_ne (fun q => by rw [q, h] at e; exact nt xs (Option.some.inj e))]
  exact e
theorem paired_keep {H H' : Hp} (k : TupKeep H H') {qs : List Addr} {F : List (Str × List Str)} (h : Paired (fun q (f : Str × List Str) => ∃ r, H q = some (.tup [.str f.1, .ref r]) ∧ H r = some (.tup (f.2.map V.str))) qs F) :
    Paired (fun q (f : Str × List Str) => ∃ r, H' q = some (.tup [.str f.1, .ref r]) ∧ H' r = some (.tup (f.2.map V.str))) qs F :=
  Paired.mapP h fun _ _ ⟨r, a, b⟩ => ⟨r, k _ _ a, k _ _ b⟩
theorem RHp.call {H0 H H' : Hp} {pf ds : Addr} {F : List (Str × List Str)} (h : RHp H0 H pf ds F) (s : Same H H') : RHp H0 H' pf ds F := by
  obtain ⟨qs, e, p⟩ := h.fa
  exact ⟨h.sm.trans s, h.nf, h.nd, h.ne, ⟨qs, s _ _ e, paired_keep (.same s) p⟩, s _ _ h.se⟩
/-- what the search's steps keep of the list -/
structure RI (T : Tab) (m : Nat) (F : List (Str × List Str)) : Prop where
  nd : (F.map (·.1)).Nodup
  sub : ∀ f ∈ F, f.1 ∈ T.homes.map (·.1)
  len : ∀ f ∈ F, f.2.length ≤ m
theorem RI.le {T : Tab} {m : Nat} {F : List (Str × List Str)} (r : RI T m F) (h : T.homes.length ≤ 8) : F.length ≤ 8 := by
  have := r.nd.length_le_of_subset (fun x hx => by
    obtain ⟨f, hf, rfl⟩ := List.mem_map.mp hx
    exact r.sub f hf)
  rw [List.length_map, List.length_map] at this
  omega
theorem RI.mono {T : Tab} {m n : Nat} {F : List (Str × List Str)} (r : RI T m F) (h : m ≤ n) : RI T n F := ⟨r.nd, r.sub, fun f hf => Nat.le_trans (r.len f hf) h⟩
theorem RI.add {T : Tab} {m : Nat} {F : List (Str × List Str)} (r : RI T m F) {t : Str} {u : List Str} (h1 : t ∉ F.map (·.1)) (h2 : t ∈ T.homes.map (·.1)) (h3 : u.length ≤ m) : RI T m (F ++ [(t, u)]) := by
  refine ⟨?_, fun f hf => ?_, fun f hf => ?_⟩
  · rw [List.map_append, List.nodup_append]
    refine ⟨r.nd, by simp, fun a ha b hb => ?_⟩
    have : b = t := by simpa using hb
    rw [this]
    exact fun e => h1 (e ▸ ha)
  · rcases List.mem_append.mp hf with q | q
    · exact r.sub f q
    · have : f = (t, u) := by simpa using q
      rw [this]; exact h2
  · rcases List.mem_append.mp hf with q | q
    · exact r.len f q
    · have : f = (t, u) := by simpa using q
      rw [this]; exact h3
theorem seen_get {F : List (Str × List Str)} {t : Str} : (getA (F.map fun f => (f.1, true)) t).isSome = decide (t ∈ F.map (·.1)) := by
  have e : (F.map fun f => (f.1, true)).map (·.1) = F.map (·.1) := by rw [List.map_map]; rfl
  by_cases h : t ∈ F.map (·.1)
  · rw [decide_eq_true h, getA_isSome, e]
    exact h
  · rw [decide_eq_false h]
    rw [getA_none.mpr (by rw [e]; exact h)]
    rfl
section
variable {P : Program} {w : World} {K : PySem.W.Frag} {mg : Str → Option Value} {base : Heap}
theorem ok_reach {C : Addr} (T : Txt mg) (TC : Cls K C) (TA : TabNames K C) {f : Addr} {fd : FuncData} (F : C8.Def K mg "reach" s_reach f fd) (b : Binds K fd ["table"] []) (c_step : C8.Met P w K mg base 1 C "step" (sp_RecoveryTable_step K C) []) : C8.Cal P w K mg base 2 "reach" (sp_reach K C) [] := by
  refine C8.cal0 F b .nil sc_reach (fun vs H Q E h => ?_) (fun cdv A outer s H vs Q E hr h => ?_)
  · exact len_reach h
  · refine ⟨_, (pss_cons (ps_set (i := 1) sc_reach.nd rfl (by first | exact Or.inl rfl | exact Or.inr rfl) (pe_lst (pa_cons (pe_tup (pa_cons (pe_fld (pv 0) rfl) (pa_cons (pe_tup pa_nil) pa_nil))) pa_nil)))
  (pss_cons (ps_set (i := 2) sc_reach.nd rfl (by first | exact Or.inl rfl | exact Or.inr rfl) (pe_disp (pps_cons (pe_fld (pv 0) rfl) pe_bl pps_nil) (by rfl) (by rfl) (fun z => by cases z) (by decide)))
  (pss_cons (ps_set (i := 3) sc_reach.nd rfl (by first | exact Or.inl rfl | exact Or.inr rfl) pe_int)
  (pss_cons (ps_while PassesOwn.never (pt_cmpR op_lt (pv 3) (pe_callB call_len_seq (by rfl) T.n_len (by decide +kernel) (pa_cons (pv 1) pa_nil)) (nomark _))
  (pss_cons (ps_asg (pe_ix ix_list (pv 1) (pv 3) (fun _ _ => rfl)) (pg_tup rfl (pgs_cons (pg_name (i := 4) sc_reach.nd rfl (by first | exact Or.inl rfl | exact Or.inr rfl)) (pgs_cons (pg_name (i := 5) sc_reach.nd rfl (by first | exact Or.inl rfl | exact Or.inr rfl)) pgs_nil))))
  (pss_cons (ps_for PassesOwn.never rfl (pi_tup (pe_fld (pv 0) rfl)) (pg_name (i := 6) sc_reach.nd rfl (by first | exact Or.inl rfl | exact Or.inr rfl))
  (pss_cons (ps_set (i := 7) sc_reach.nd rfl (by first | exact Or.inl rfl | exact Or.inr rfl) (pe_ix ix_tup (C8.pe_mt c_step hr (by decide) (pv 0) (pa_cons (pv 4) (pa_cons (pv 6) pa_nil))) pe_int (fun _ _ => rfl)))
  (pss_one (ps_if (pt_cmp (pc_dnotin (hu_of hr) (pv 7) (pv 2)))
  (pss_cons (ps_dput (hu_of hr) (pv 2) (pv 7) pe_bl rfl)
  (pss_one (ps_expr (pe_bm PySem.F.plainAttrs_list PySem.F.slot_list_append PySem.F.type_list_append mt_append (pv 1) (pa_cons (pe_tup (pa_cons (pv 7) (pa_cons (pe_tup (StX.pa_star (pv 5) (pa_cons (pv 6) pa_nil))) pa_nil))) pa_nil)))))
  pss_nil))))
  (pss_one (ps_aug (i := 3) sc_reach.nd rfl (by first | exact Or.inl rfl | exact Or.inr rfl) pe_int ip_add)))))
  (pss_one (ps_ret (pv 1))))))), ?_⟩
    obtain ⟨a, T0, cs, ps, rfl, hT, ok, hcs, q⟩ := h
    obtain ⟨dx, p1, p2, p3, d1, d2, d3, ss, cl, skv, h0, h1, h2, h3, h4, h5, h6, h7⟩ := hT.ex
    have hh := ok.homes.2.1
    have hcl : cs.length ≤ 1000 := by
      have : cs.Nodup := hcs.srt.imp (fun {x y} z e => by rw [e, ordS.irr] at z; cases z)
      have := this.length_le_of_subset (fun x hx => (hcs.mem x).mp hx)
      have := ok.few
      omega
    walk_at "go"
    refine ⟨a, C, dx, _, _, rfl, h0, TC, TA.start, tf_start, ?_⟩
    walk_at "go"
    refine ⟨(by show 0 ≤ sizeLine; decide), fun pe hpe => ?_⟩
    have s1 : Same H (upd H pe (.tup [])) := same_new hpe
    have f1 : upd H pe (.tup []) pe = some (.tup []) := upd_same
    generalize upd H pe (.tup []) = G1 at s1 f1 ⊢
    walk_at "go"
    refine ⟨(by show 2 ≤ sizeLine; decide), fun pt hpt => ?_⟩
    have s2 : Same G1 (upd G1 pt (.tup [.str T0.start, .ref pe])) := same_new hpt
    have f2 : upd G1 pt (.tup [.str T0.start, .ref pe]) pt = some (.tup [.str T0.start, .ref pe]) := upd_same
    generalize upd G1 pt (.tup [.str T0.start, .ref pe]) = G2 at s2 f2 ⊢
    walk_at "go"
    refine ⟨(by show 1 ≤ sizeLine; decide), fun pf hpf => ?_⟩
    have s3 : Same G2 (upd G2 pf (.lst [.ref pt])) := same_new hpf
    have f3 : upd G2 pf (.lst [.ref pt]) pf = some (.lst [.ref pt]) := upd_same
    generalize upd G2 pf (.lst [.ref pt]) = G3 at s3 f3 ⊢
    have t3 := (s1.trans s2).trans s3
    walk_at "go"
    refine fun ds hds => ?_
    walk_at "go"
    refine ⟨a, C, dx, _, _, rfl, (t3.trans (same_new hds)) _ _ h0, TC, TA.start, tf_start, ?_⟩
    walk_at "go"
    refine ⟨upd_same, [(.inr T0.start, .bl true)], rfl, (by simp), ?_⟩
    have s4 : Same G3 (upd (upd G3 ds (.dK [])) ds (.dK (mergeK [] [(.inr T0.start, .bl true)]))) := same_mut (same_new hds) hds
    have f4 : upd (upd G3 ds (.dK [])) ds (.dK (mergeK [] [(.inr T0.start, .bl true)])) ds = some (.dK (kvM V.bl ([(T0.start, ([] : List Str))].map fun f => (f.1, true)))) := upd_same
    generalize upd (upd G3 ds (.dK [])) ds (.dK (mergeK [] [(.inr T0.start, .bl true)])) = G4 at s4 f4 ⊢
    have i0 : RHp H G4 pf ds [(T0.start, [])] := ⟨t3.trans s4, (s1.trans s2).free hpf, t3.free hds, (ne_of_none f3 hds).symm.symm, ⟨[pt], s4 _ _ f3, .cons ⟨pe, (s3.trans s4) _ _ f2, ((s2.trans s3).trans s4) _ _ f1⟩ .nil⟩, f4⟩
    walk_at "go"
    refine ⟨fun m σ' H' => ∃ (at' : Nat) (F : List (Str × List Str)) (v4 v5 v6 v7 : Option V), m = 9 - at' ∧ σ' = [some (.ref a), some (.ref pf), some (.ref ds), some (.int (at' : Nat)), v4, v5, v6, v7] ∧ RHp H H' pf ds F ∧ RI T0 at' F ∧ Bfs.search T0.step cs (9 - at') at' F = found T0 cs,
      ⟨9, 0, _, none, none, none, none, rfl, rfl, i0, ⟨by simp, fun f hf => by rw [List.mem_singleton.mp hf]; exact ok.start, fun f hf => by rw [List.mem_singleton.mp hf]; exact Nat.le_refl _⟩, rfl⟩, ?_⟩
    rintro m σ' H' ⟨at', F, v4, v5, v6, v7, rfl, rfl, hH, hI, hfd⟩
    obtain ⟨qs, hqs, hP⟩ := hH.fa
    have hqlen : qs.length = F.length := Paired.length hP
    have hF8 := hI.le hh
    walk_at "go"
    refine ⟨pf, _, rfl, .inl (sq_of hqs), ?_⟩
    walk_at "go"
    rw [List.length_map, hqlen]
    refine Rd.itP (fun hlt => ?_) (fun hge => ?_)
    · have hat : at' < F.length := by omega
      refine ⟨fun σ2 H2 => ∃ (F : List (Str × List Str)) (v4 v5 v6 v7 : Option V), σ2 = [some (.ref a), some (.ref pf), some (.ref ds), some (.int ((at' + 1 : Nat) : Int)), v4, v5, v6, v7] ∧ RHp H H2 pf ds F ∧ RI T0 (at' + 1) F ∧ Bfs.search T0.step cs (9 - (at' + 1)) (at' + 1) F = found T0 cs,
        fun σ2 H2 ⟨F2, w4, w5, w6, w7, z1, z2, z3, z4⟩ => ⟨9 - (at' + 1), by omega, at' + 1, F2, w4, w5, w6, w7, rfl, z1, z2, z3, z4⟩, ?_⟩
      obtain ⟨⟨s0, u⟩, hfat⟩ : ∃ f, F[at']? = some f := ⟨F[at'], by simp [hat]⟩
      have hfm : (s0, u) ∈ F := List.mem_of_getElem? hfat
      obtain ⟨qa, hqa, r, hr1, hr2⟩ := paired_at hP hfat
      walk_at "go"
      refine Rd.ixL (sq_of hqs) (atI_nat (j := at') (by rw [List.getElem?_map, hqa]; rfl)) ?_
      walk_at "go"
      refine Rd.gtup (st_of hr1) rfl ?_
      walk_at "go"
      refine Rd.fld ?_
      walk_at "go"
      refine ⟨a, C, dx, _, _, rfl, hH.sm _ _ h0, TC, TA.causes, tf_causes, ?_⟩
      refine ⟨p2, rfl, ⟨_, st_of (hH.sm _ _ h2)⟩, ?_⟩
      refine for_tup (xs := cs.map V.str) (fun i σ3 H3 => ∃ (v6 v7 : Option V), σ3 = [some (.ref a), some (.ref pf), some (.ref ds), some (.int (at' : Nat)), some (.str s0), some (.ref r), v6, v7] ∧
        RHp H H3 pf ds ((cs.take i).foldl (Bfs.try1 T0.step s0 u) F) ∧ RI T0 (at' + 1) ((cs.take i).foldl (Bfs.try1 T0.step s0 u) F) ∧ H3 r = some (.tup (u.map V.str))) ⟨_, _, rfl, hH, hI.mono (Nat.le_succ _), hr2⟩ (fun i σ3 H3 _ p => by
          obtain ⟨_, _, _, z, _, _⟩ := p
          exact st_of (z.sm _ _ h2)) ?_ ?_
      · rintro i x σ3 H3 hx ⟨w6, w7, rfl, hH3, hI3, hr3⟩
        rw [List.getElem?_map] at hx
        obtain ⟨c, hc, rfl⟩ := Option.map_eq_some_iff.mp hx
        have hcm : c ∈ cs := List.mem_of_getElem? hc
        have hcp := (hcs.mem c).mp hcm
        have hsm : s0 ∈ T0.homes.map (·.1) := hI.sub _ hfm
        obtain ⟨⟨t, bb⟩, hg⟩ := ok.full s0 hsm c hcp
        have htm : t ∈ T0.homes.map (·.1) := (ok.srow _ (getA_mem hg)).2.2
        have hstep : T0.step s0 c = t := by unfold Tab.step; rw [hg]; rfl
        have htk : (cs.take (i + 1)).foldl (Bfs.try1 T0.step s0 u) F = Bfs.try1 T0.step s0 u ((cs.take i).foldl (Bfs.try1 T0.step s0 u) F) c := by
          rw [List.take_add_one, hc, List.foldl_append]
          rfl
        rw [htk]
        generalize (cs.take i).foldl (Bfs.try1 T0.step s0 u) F = F3 at hH3 hI3 ⊢
        walk_at "go"
        refine ⟨a, dx, _, rfl, hH3.sm _ _ h0, tf_step, ?_⟩
        walk_at "go"
        refine ⟨a, T0, cs, s0, c, t, bb, rfl, hT.mono hH3.sm, hsm, hcm, ok.causes c hcp, hg, fun H4 q4 s4 hq4 => ?_⟩
        walk_at "go"
        refine Rd.ixT (st_of hq4) (atI_nat (j := 0) rfl) ?_
        have hH4 := hH3.call s4
        have hr4 := s4 _ _ hr3
        walk_at "go"
        refine ⟨ds, _, rfl, .inl ⟨_, .inr t, .inl hH4.se, rfl, rfl⟩, ?_⟩
        rw [kvM_get, Option.isSome_map, seen_get]
        walk_at "go"
        refine Rd.itNP (fun hnin => ?_) (fun hin => ?_)
        · have hF3 := hI3.le hh
          obtain ⟨qs4, hqs4, hP4⟩ := hH4.fa
          have hq4l : qs4.length = F3.length := Paired.length hP4
          walk_at "go"
          have e5 : putK (kvM V.bl (F3.map fun f => (f.1, true))) (.inr t) (.bl true) = kvM V.bl ((F3 ++ [(t, u ++ [c])]).map fun f => (f.1, true)) := by
            rw [kvM_put, putA_new (by rw [List.map_map]; exact hnin), List.map_append]
            rfl
          refine ⟨ds, _, rfl, .inl ⟨_, .inr t, hH4.se, rfl, small1000 (by rw [kvM_len, List.length_map]; omega), rfl⟩, ?_⟩
          rw [e5]
          have k5 : TupKeep H4 (upd H4 ds (.dK (kvM V.bl ((F3 ++ [(t, u ++ [c])]).map fun f => (f.1, true))))) := .mut hH4.se (fun xs z => nomatch z)
          have f5 : upd H4 ds (.dK (kvM V.bl ((F3 ++ [(t, u ++ [c])]).map fun f => (f.1, true)))) ds = some (.dK (kvM V.bl ((F3 ++ [(t, u ++ [c])]).map fun f => (f.1, true)))) := upd_same
          have g5 : upd H4 ds (.dK (kvM V.bl ((F3 ++ [(t, u ++ [c])]).map fun f => (f.1, true)))) pf = some (.lst (qs4.map V.ref)) := by rw [upd_ne hH4.ne]; exact hqs4
          have m5 : Same H (upd H4 ds (.dK (kvM V.bl ((F3 ++ [(t, u ++ [c])]).map fun f => (f.1, true))))) := same_mut hH4.sm hH4.nd
          generalize upd H4 ds (.dK (kvM V.bl ((F3 ++ [(t, u ++ [c])]).map fun f => (f.1, true)))) = H5 at k5 f5 g5 m5 ⊢
          have hr5 := k5 _ _ hr4
          have hP5 := paired_keep k5 hP4
          walk_at "go"
          refine ⟨.inl ⟨rfl, _, sq_of g5⟩, ?_⟩
          walk_at "go"
          refine ⟨r, _, rfl, .inl (st_of hr5), ?_⟩
          walk_at "go"
          have hul0 : u.length ≤ at' := hI.len _ hfm
          have hul : u.length ≤ 9 := by omega
          refine ⟨(by rw [List.length_append, List.length_map]; exact Nat.le_trans (show u.length + 1 ≤ 10 by omega) (by decide)), fun w6 hw6 => ?_⟩
          walk_at "go"
          refine ⟨(by show 2 ≤ sizeLine; decide), fun w7 hw7 => ?_⟩
          have s6 : Same H5 (upd H5 w6 (.tup (u.map V.str ++ [V.str c]))) := same_new hw6
          have f6 : upd H5 w6 (.tup (u.map V.str ++ [V.str c])) w6 = some (.tup ((u ++ [c]).map V.str)) := by rw [upd_same, List.map_append]; rfl
          generalize upd H5 w6 (.tup (u.map V.str ++ [V.str c])) = H6 at s6 f6 hw7 ⊢
          have s7 : Same H6 (upd H6 w7 (.tup [.str t, .ref w6])) := same_new hw7
          have f7 : upd H6 w7 (.tup [.str t, .ref w6]) w7 = some (.tup [.str t, .ref w6]) := upd_same
          generalize upd H6 w7 (.tup [.str t, .ref w6]) = H7 at s7 f7 ⊢
          have s57 := s6.trans s7
          walk_at "go"
          refine ⟨pf, _, _, rfl, rfl, s57 _ _ g5, small1000 (by rw [List.length_map]; omega), ?_⟩
          walk_at "go"
          have k8 : TupKeep H7 (upd H7 pf (.lst (qs4.map V.ref ++ [V.ref w7]))) := .mut (s57 _ _ g5) (fun xs z => nomatch z)
          have etry : Bfs.try1 T0.step s0 u F3 c = F3 ++ [(t, u ++ [c])] := by
            unfold Bfs.try1
            rw [hstep, if_neg hnin]
          rw [etry]
          refine ⟨_, _, rfl, ⟨same_mut (m5.trans s57) hH4.nf, hH4.nf, hH4.nd, hH4.ne, ⟨qs4 ++ [w7], by rw [upd_same, List.map_append]; rfl, Paired.snoc (paired_keep ((TupKeep.same s57).trans k8) hP5) ⟨w6, k8 _ _ f7, k8 _ _ (s7 _ _ f6)⟩⟩, ?_⟩, hI3.add hnin htm ?_, ?_⟩
          · rw [upd_ne hH4.ne.symm]
            exact s57 _ _ f5
          · rw [List.length_append, List.length_singleton]
            omega
          · exact k8 _ _ (s57 _ _ hr5)
        · have etry : Bfs.try1 T0.step s0 u F3 c = F3 := by
            unfold Bfs.try1
            rw [hstep, if_pos hin]
          rw [etry]
          walk_at "go"
          exact ⟨_, _, rfl, hH4, hI3, hr4⟩
      · rintro σ3 H3 ⟨w6, w7, rfl, hH3, hI3, hr3⟩
        rw [List.length_map, List.take_length] at hH3 hI3
        walk_at "go"
        refine ⟨_, rfl, ?_⟩
        walk_at "go"
        refine ⟨_, _, rfl, rfl, ?_⟩
        refine ⟨_, _, _, _, _, rfl, hH3, hI3, ?_⟩
        rw [← hfd]
        have e9 : 9 - at' = (9 - (at' + 1)) + 1 := by omega
        rw [e9]
        rw [Bfs.search_some hfat]
        rfl
    · walk_at "go"
      have hnone : F[at']? = none := List.getElem?_eq_none (by omega)
      have efin : found T0 cs = F := by
        rw [← hfd]
        exact Bfs.search_none hnone _
      refine q _ pf hH.sm hH.nf ?_
      rw [efin]
      exact hH.fa
end

section
variable {P : Program} {w : World} {K : PySem.W.Frag} {mg : Str → Option Value} {base : Heap}
theorem ok_looked_at {C : Addr} (T : Txt mg) (TC : Cls K C) (TA : TabNames K C) {f : Addr} {fd : FuncData} (F : C8.Def K mg "_looked_at" s__looked_at f fd) (b : Binds K fd ["table", "statuses"] []) (c_reach : C8.Cal P w K mg base 2 "reach" (sp_reach K C) []) : C8.Cal P w K mg base 3 "_looked_at" (sp__looked_at K C) [] := by
  refine C8.cal0 F b .nil sc__looked_at (fun vs H Q E h => ?_) (fun cdv A outer s H vs Q E hr h => ?_)
  · exact len__looked_at h
  · refine ⟨_, (pss_cons (ps_if (pt_cmpR op_isN (pv 1) pe_non (nomark _))
  (pss_one (ps_ret (pe_lc (own := [("pair", 2)]) (g := (gName 2)) (tt := _) rfl sc__looked_at.nd (pi_list (C8.pe_c c_reach hr (by decide) (by rfl) (pa_cons (pv 0) pa_nil))) (blkOk_by (own := [("pair", 2)]) (N := ["table", "statuses", "pair"]) (sc := (C8.fnScope s__looked_at)) (by decide +kernel)) (fun _ _ _ _ _ => (pg_name (i := 2) sc__looked_at.nd rfl (by first | exact Or.inl rfl | exact Or.inr rfl))) (fun _ _ _ _ _ => pts_nil) (fun _ _ _ _ _ => (pe_ix (Rd.ixTupK (K := K) rfl) (pv 2) pe_int (fun _ _ => rfl))))))
  pss_nil)
  (pss_one (ps_ret (pe_callTy call_list_of (by rfl) T.n_list (by decide +kernel) (pa_cons (pv 1) pa_nil))))), ?_⟩
    obtain ⟨a, T0, tcs, ps, rfl, ⟨hT, ok, hcs⟩, q⟩ := h
    have hF8 := Found.le8 ok (found_facts ok hcs)
    walk_at "go"
    refine ⟨rfl, ?_⟩
    rw [decide_eq_true rfl]
    walk_at "go"
    refine ⟨a, T0, tcs, ps, rfl, hT, ok, hcs, fun H1 p s1 hp0 hF => ?_⟩
    obtain ⟨qs, hqs, hP⟩ := hF
    have hql : qs.length = (found T0 tcs).length := Paired.length hP
    generalize found T0 tcs = F at hF8 hP hql q ⊢
    refine ⟨p, rfl, ⟨_, sq_of hqs⟩, fun D hD => lc_list (K := K) (xs := qs.map V.ref) (fun i H' => Same H1 H' ∧ H' D = some (.lst (((F.map (·.1)).take i).map V.str)))
      ⟨same_new hD, upd_same⟩ (fun i H' _ z => sq_of (z.1 _ _ hqs)) ?_ ?_⟩
    · rintro i x H' hx ⟨s2, f2⟩
      rw [List.getElem?_map] at hx
      obtain ⟨qa, hqa, rfl⟩ := Option.map_eq_some_iff.mp hx
      obtain ⟨f, hf, r, hr1, hr2⟩ := paired_atL hP hqa
      walk_at "go"
      refine ⟨rfl, ?_⟩
      walk_at "go"
      refine Rd.ixT (st_of (s2 _ _ hr1)) (atI_nat (j := 0) rfl) ?_
      refine ⟨_, f2, small1000 (by rw [List.length_map, List.length_take, List.length_map]; omega), same_mut s2 hD, ?_⟩
      rw [upd_same, List.take_add_one, List.getElem?_map, hf, List.map_append]
      rfl
    · rintro H' ⟨s2, f2⟩
      walk_at "go"
      refine q H' D (s1.trans s2) (s1.free hD) ?_
      rw [f2, List.length_map, hql, List.take_of_length_le (by rw [List.length_map]; exact Nat.le_refl _)]
end

section
variable {P : Program} {w : World} {K : PySem.W.Frag} {mg : Str → Option Value} {base : Heap}
theorem ok_carry_failures {C : Addr} (T : Txt mg) (TC : Cls K C) (TA : TabNames K C) {f : Addr} {fd : FuncData} (F : C8.Def K mg "carry_failures" s_carry_failures f fd) (b : Binds K fd ["table", "statuses"] [Value.none]) (c_home : C8.Met P w K mg base 1 C "home" (sp_RecoveryTable_home K C) []) (c_step : C8.Met P w K mg base 1 C "step" (sp_RecoveryTable_step K C) []) (c_looked_at : C8.Cal P w K mg base 3 "_looked_at" (sp__looked_at K C) []) : C8.Cal P w K mg base 4 "carry_failures" (sp_carry_failures K C) [V.non] := by
  refine C8.cal0 F b (.cons rfl .nil) sc_carry_failures (fun vs H Q E h => ?_) (fun cdv A outer s H vs Q E hr h => ?_)
  · exact len_carry_failures h
  · refine ⟨_, (pss_cons (ps_set (i := 2) sc_carry_failures.nd rfl (by first | exact Or.inl rfl | exact Or.inr rfl) (pe_lst pa_nil))
  (pss_cons (ps_for PassesOwn.never rfl (pi_list (C8.pe_c c_looked_at hr (by decide) (by rfl) (pa_cons (pv 0) (pa_cons (pv 1) pa_nil)))) (pg_name (i := 3) sc_carry_failures.nd rfl (by first | exact Or.inl rfl | exact Or.inr rfl))
  (pss_one (ps_for PassesOwn.never rfl (pi_tup (pe_fld (pv 0) rfl)) (pg_name (i := 4) sc_carry_failures.nd rfl (by first | exact Or.inl rfl | exact Or.inr rfl))
  (pss_cons (ps_asg (C8.pe_mt c_step hr (by decide) (pv 0) (pa_cons (pv 3) (pa_cons (pv 4) pa_nil))) (pg_tup rfl (pgs_cons (pg_name (i := 5) sc_carry_failures.nd rfl (by first | exact Or.inl rfl | exact Or.inr rfl)) (pgs_cons (pg_name (i := 6) sc_carry_failures.nd rfl (by first | exact Or.inl rfl | exact Or.inr rfl)) pgs_nil))))
  (pss_one (ps_if (PW.pt (pw_and (pt_not (pt_val (pv 6))) (pw_and1 (pt_cmpR op_ne (C8.pe_mt c_home hr (by decide) (pv 0) (pa_cons (pv 5) pa_nil)) (C8.pe_mt c_home hr (by decide) (pv 0) (pa_cons (pv 3) pa_nil)) (nomark _)))))
  (pss_one (ps_expr (pe_bm PySem.F.plainAttrs_list PySem.F.slot_list_append PySem.F.type_list_append mt_append (pv 2) (pa_cons (pe_tup (pa_cons (pv 3) (pa_cons (pv 4) pa_nil))) pa_nil))))
  pss_nil))))))
  (pss_one (ps_ret (pv 2))))), ?_⟩
    obtain ⟨a, T0, tcs, ps, rfl, ⟨hT, ok, hcs⟩, q⟩ := h
    obtain ⟨dx, p1, p2, p3, d1, d2, d3, sz, cl, skv, h0, h1, h2, h3, h4, h5, h6, h7⟩ := hT.ex
    have FF := found_facts ok hcs
    have hF8 := Found.le8 ok FF
    have hc6 : tcs.length ≤ 6 := by
      have : tcs.Nodup := hcs.srt.imp (fun {x y} z e => by rw [e, ordS.irr] at z; cases z)
      have := this.length_le_of_subset (fun x hx => (hcs.mem x).mp hx)
      have := ok.few
      omega
    walk_at "go"
    refine ⟨(by show 0 ≤ sizeLine; decide), fun fl hfl => ?_⟩
    have s1 : Same H (upd H fl (.lst [])) := same_new hfl
    have f1 : upd H fl (.lst []) fl = some (.lst (([] : List Addr).map V.ref)) := upd_same
    generalize upd H fl (.lst []) = G1 at s1 f1 ⊢
    walk_at "go"
    refine (show tFor _ _ _ _ _ _ from ?_)
    refine Rd.call ?_
    walk_at "go"
    refine ⟨a, T0, tcs, ps, rfl, ⟨hT.mono s1, ok, hcs⟩, fun H1 p s2 hp0 hp => ?_⟩
    have hsub : ∀ s, s ∈ (found T0 tcs).map (·.1) → s ∈ T0.homes.map (·.1) := fun s hs => by
      obtain ⟨f, hf, rfl⟩ := List.mem_map.mp hs
      exact FF.sub f hf
    have hxl : ((found T0 tcs).map (·.1)).length ≤ 8 := by rw [List.length_map]; exact hF8
    generalize (found T0 tcs).map (·.1) = xs at hp hsub hxl q
    have fp := s2 _ _ f1
    have pfl : p ≠ fl := fun z => by rw [z, f1] at hp0; cases hp0
    refine ⟨p, rfl, ⟨_, sq_of hp⟩, ?_⟩
    refine for_list (xs := xs.map V.str) (fun i σ' H' => ∃ (v3 v4 v5 v6 : Option V) (qs : List Addr) (ss : List (Str × Str)), σ' = [some (.ref a), some .non, some (.ref fl), v3, v4, v5, v6] ∧ Same H H' ∧ H' p = some (.lst (xs.map V.str)) ∧ H' fl = some (.lst (qs.map V.ref)) ∧ Paired (Two H') qs ss ∧
        (∀ r ∈ ss, r.1 ∈ xs.take i ∧ Leaves T0 tcs r.1) ∧ (∀ s ∈ xs.take i, Leaves T0 tcs s → s ∈ ss.map (·.1)) ∧ ss.length ≤ 6 * i)
      ⟨_, _, _, _, [], [], rfl, s1.trans s2, hp, fp, .nil, (fun r hr => nomatch hr), (fun s hs => by rw [List.take_zero] at hs; nomatch hs), Nat.le_refl _⟩ (fun i σ' H' _ z => by
        obtain ⟨_, _, _, _, _, _, _, _, z, _⟩ := z
        exact sq_of z) ?_ ?_
    · rintro i x σ' H' hx ⟨v3, v4, v5, v6, qs, ss, rfl, sH, fp, ff, hP, hA, hB, hN⟩
      rw [List.getElem?_map] at hx
      obtain ⟨s0, hs0, rfl⟩ := Option.map_eq_some_iff.mp hx
      have hs0x := List.mem_of_getElem? hs0
      have hs0h := hsub s0 hs0x
      have hi8 := (List.getElem?_eq_some_iff.mp hs0).1
      have htk : xs.take (i + 1) = xs.take i ++ [s0] := by rw [List.take_add_one, hs0]; rfl
      walk_at "go"
      refine (show tFor _ _ _ _ _ _ from ?_)
      refine Rd.fld ?_
      walk_at "go"
      refine ⟨a, C, dx, _, _, rfl, sH _ _ h0, TC, TA.causes, tf_causes, ?_⟩
      refine ⟨p2, rfl, ⟨_, st_of (sH _ _ h2)⟩, ?_⟩
      refine for_tup (xs := tcs.map V.str) (fun k σ' H' => ∃ (v4 v5 v6 : Option V) (qs : List Addr) (ss : List (Str × Str)), σ' = [some (.ref a), some .non, some (.ref fl), some (.str s0), v4, v5, v6] ∧ Same H H' ∧ H' p = some (.lst (xs.map V.str)) ∧ H' fl = some (.lst (qs.map V.ref)) ∧ Paired (Two H') qs ss ∧
          (∀ r ∈ ss, r.1 ∈ xs.take (i + 1) ∧ Leaves T0 tcs r.1) ∧ (∀ s ∈ xs.take i, Leaves T0 tcs s → s ∈ ss.map (·.1)) ∧ ss.length ≤ 6 * i + k ∧ ∀ c ∈ tcs.take k, ∀ t, getA T0.steps (s0, c) = some (t, false) → T0.home t ≠ T0.home s0 → s0 ∈ ss.map (·.1))
        ⟨_, _, _, qs, ss, rfl, sH, fp, ff, hP, fun r hr => ⟨by rw [htk]; exact List.mem_append_left _ (hA r hr).1, (hA r hr).2⟩, hB, by omega, fun c hc => by rw [List.take_zero] at hc; nomatch hc⟩ (fun k σ' H' _ z => by
          obtain ⟨_, _, _, _, _, _, z, _⟩ := z
          exact st_of (z _ _ h2)) ?_ ?_
      · rintro k x σ3 H3 hx ⟨v4, v5, v6, qs, ss, rfl, sH, fp, ff, hP, hA, hB, hN, hC⟩
        rw [List.getElem?_map] at hx
        obtain ⟨c, hc, rfl⟩ := Option.map_eq_some_iff.mp hx
        have hcm := List.mem_of_getElem? hc
        have hkl := (List.getElem?_eq_some_iff.mp hc).1
        have htc : tcs.take (k + 1) = tcs.take k ++ [c] := by rw [List.take_add_one, hc]; rfl
        obtain ⟨b, hg, hmt, hnc⟩ := tab_step ok hcs hs0h hcm
        walk_at "go"
        refine ⟨a, dx, _, rfl, sH _ _ h0, tf_step, ?_⟩
        walk_at "go"
        refine ⟨a, T0, tcs, s0, c, _, b, rfl, hT.mono sH, hs0h, hcm, hnc, hg, fun H4 q4 s4 hq4 => ?_⟩
        walk_at "go"
        refine Rd.gtup (st_of hq4) rfl ?_
        have sH := sH.trans s4
        have fp := s4 _ _ fp
        have ff := s4 _ _ ff
        have hP : Paired (Two H4) qs ss := Paired.mapP hP fun _ _ z => s4 _ _ z
        have same : (∀ t, getA T0.steps (s0, c) = some (t, false) → T0.home t ≠ T0.home s0 → s0 ∈ ss.map (·.1)) → ∀ c' ∈ tcs.take (k + 1), ∀ t, getA T0.steps (s0, c') = some (t, false) → T0.home t ≠ T0.home s0 → s0 ∈ ss.map (·.1) := fun hh c' hc' => by
          rw [htc] at hc'
          rcases List.mem_append.mp hc' with z | z
          · exact hC c' z
          · have : c' = c := by simpa using z
            rw [this]
            exact hh
        walk_at "go"
        cases b with
        | true =>
          refine Rd.itF ?_
          walk_at "go"
          exact ⟨_, _, _, qs, ss, rfl, sH, fp, ff, hP, hA, hB, by omega, same fun t ht => by rw [hg] at ht; cases ht⟩
        | false =>
          refine Rd.itT ?_
          walk_at "go"
          refine ⟨a, dx, _, rfl, sH _ _ h0, tf_home, ?_⟩
          walk_at "go"
          refine ⟨a, T0, tcs, _, _, rfl, hT.mono sH, ok.home hmt, ?_⟩
          walk_at "go"
          refine ⟨a, dx, _, rfl, sH _ _ h0, tf_home, ?_⟩
          walk_at "go"
          refine ⟨a, T0, tcs, _, _, rfl, hT.mono sH, ok.home hs0h, ?_⟩
          refine Rd.ne rfl ?_
          walk_at "go"
          refine Rd.itNP (fun hne => ?_) (fun heq => ?_)
          · have hne : T0.home (T0.step s0 c) ≠ T0.home s0 := fun z => hne (by rw [z])
            have hlv : Leaves T0 tcs s0 := ⟨c, hcm, _, hg, hne⟩
            walk_at "go"
            refine ⟨.inl ⟨rfl, _, sq_of ff⟩, ?_⟩
            walk_at "go"
            refine ⟨(by show 2 ≤ sizeLine; decide), fun t ht => ?_⟩
            have s9 := same_new (o := .tup [.str s0, .str c]) ht
            have e9 : upd H4 t (.tup [.str s0, .str c]) t = some (.tup [.str s0, .str c]) := upd_same
            generalize upd H4 t (.tup [.str s0, .str c]) = H9 at s9 e9 ⊢
            walk_at "go"
            have ff9 := s9 _ _ ff
            have hql : qs.length = ss.length := Paired.length hP
            refine ⟨fl, _, _, rfl, rfl, ff9, small1000 (by rw [List.length_map]; omega), ?_⟩
            have kt : ∀ b xs, H9 b = some (.tup xs) → upd H9 fl (.lst (qs.map V.ref ++ [.ref t])) b = some (.tup xs) := fun b xs e => by rw [upd_ne (ne_of e ff9 (fun z => nomatch z))]; exact e
            refine ⟨_, _, _, qs ++ [t], ss ++ [(s0, c)], rfl, same_mut (sH.trans s9) hfl, by rw [upd_ne pfl]; exact s9 _ _ fp, by rw [upd_same, List.map_append]; rfl, Paired.snoc (Paired.mapP hP fun _ _ z => kt _ _ (s9 _ _ z)) (kt _ _ e9), fun r hr => ?_, fun s hs hc => ?_, by rw [List.length_append, List.length_singleton]; omega, fun _ _ _ _ _ => ?_⟩
            · rcases List.mem_append.mp hr with hr | hr
              · exact hA r hr
              · have : r = (s0, c) := by simpa using hr
                rw [this]
                exact ⟨by rw [htk]; exact List.mem_append_right _ (by simp), hlv⟩
            · rw [List.map_append]
              exact List.mem_append_left _ (hB s hs hc)
            · rw [List.map_append]
              exact List.mem_append_right _ (by simp)
          · have heq : T0.home (T0.step s0 c) = T0.home s0 := V.str.inj heq
            walk_at "go"
            exact ⟨_, _, _, qs, ss, rfl, sH, fp, ff, hP, hA, hB, by omega, same fun t ht hne => by
              rw [hg] at ht
              cases ht
              exact absurd heq hne⟩
      · rintro σ3 H3 ⟨v4, v5, v6, qs, ss, rfl, sH, fp, ff, hP, hA, hB, hN, hC⟩
        rw [List.length_map] at hN hC
        rw [List.take_length] at hC
        refine ⟨_, _, _, _, qs, ss, rfl, sH, fp, ff, hP, hA, fun s hs hl => ?_, by omega⟩
        rw [htk] at hs
        rcases List.mem_append.mp hs with hs | hs
        · exact hB s hs hl
        · have e : s = s0 := by simpa using hs
          rw [e] at hl ⊢
          obtain ⟨c, hc, t, h1, h2⟩ := hl
          exact hC c hc t h1 h2
    · rintro σ' H' ⟨v3, v4, v5, v6, qs, ss, rfl, sH, fp, ff, hP, hA, hB, hN⟩
      rw [List.length_map] at hA hB hN
      rw [List.take_length] at hA hB
      walk_at "go"
      refine q H' fl qs ss sH ff hP (fun s => ⟨fun hs => ?_, fun ⟨h1, h2⟩ => hB s h1 h2⟩) (by omega)
      obtain ⟨r, hr, rfl⟩ := List.mem_map.mp hs
      exact hA r hr
end

section
variable {P : Program} {w : World} {K : PySem.W.Frag} {mg : Str → Option Value} {base : Heap}
theorem ok_after_both {C : Addr} (T : Txt mg) (TC : Cls K C) (TA : TabNames K C) {f : Addr} {fd : FuncData} (F : C8.Def K mg "_after_both" s__after_both f fd) (b : Binds K fd ["table", "status", "one", "two"] []) (c_step : C8.Met P w K mg base 1 C "step" (sp_RecoveryTable_step K C) []) : C8.Cal P w K mg base 2 "_after_both" (sp__after_both K C) [] := by
  refine C8.cal0 F b .nil sc__after_both (fun vs H Q E h => ?_) (fun cdv A outer s H vs Q E hr h => ?_)
  · exact len__after_both h
  · refine ⟨_, (pss_cons (ps_set (i := 4) sc__after_both.nd rfl (by first | exact Or.inl rfl | exact Or.inr rfl) (pe_ix ix_tup (C8.pe_mt c_step hr (by decide) (pv 0) (pa_cons (pv 1) (pa_cons (pv 2) pa_nil))) pe_int (fun _ _ => rfl)))
  (pss_one (ps_ret (pe_ix ix_tup (C8.pe_mt c_step hr (by decide) (pv 0) (pa_cons (pv 4) (pa_cons (pv 3) pa_nil))) pe_int (fun _ _ => rfl))))), ?_⟩
    obtain ⟨a, s0, x, y, T0, tcs, ps, rfl, ⟨hT, ok, hcs⟩, hs, hx, hy, q⟩ := h
    obtain ⟨dx, p1, p2, p3, d1, d2, d3, ss, cl, skv, h0, h1, h2, h3, h4, h5, h6, h7⟩ := hT.ex
    obtain ⟨b1, g1, m1, n1⟩ := tab_step ok hcs hs hx
    obtain ⟨b2, g2, m2, n2⟩ := tab_step ok hcs m1 hy
    walk_at "go"
    refine ⟨a, dx, _, rfl, h0, tf_step, ?_⟩
    walk_at "go"
    refine ⟨a, T0, tcs, s0, x, _, b1, rfl, hT, hs, hx, n1, g1, fun H1 q1 s1 hq1 => ?_⟩
    walk_at "go"
    refine Rd.ixT (st_of hq1) (atI_nat (j := 0) rfl) ?_
    walk_at "go"
    refine ⟨a, dx, _, rfl, s1 _ _ h0, tf_step, ?_⟩
    walk_at "go"
    refine ⟨a, T0, tcs, _, y, _, b2, rfl, hT.mono s1, m1, hy, n2, g2, fun H2 q2 s2 hq2 => ?_⟩
    walk_at "go"
    refine Rd.ixT (st_of hq2) (atI_nat (j := 0) rfl) ?_
    exact q H2 (s1.trans s2)
end

theorem paired_map {α β : Type} {R R' : α → β → Prop} {xs : List α} {ys : List β} (h : Paired R xs ys) (f : ∀ a b, R a b → R' a b) : Paired R' xs ys := Paired.mapP h f
theorem clash_of {T : Tab} {cs : List Str} {s : Str} (h : Clash T cs s) : ∃ (k : Nat) (x y : Str), cs[k]? = some x ∧ y ∈ cs.drop (k + 1) ∧ T.step (T.step s x) y ≠ T.step (T.step s y) x := by
  obtain ⟨a, ha, b, hb, e⟩ := h
  obtain ⟨i, hi, ei⟩ := List.getElem_of_mem ha
  obtain ⟨j, hj, ej⟩ := List.getElem_of_mem hb
  rcases Nat.lt_trichotomy i j with q | q | q
  · exact ⟨i, a, b, by rw [List.getElem?_eq_getElem hi, ei], List.mem_drop_iff_getElem.mpr ⟨j - (i + 1), by omega, by rw [← ej]; congr 1; omega⟩, e⟩
  · subst q
    rw [ei] at ej
    rw [ej] at e
    exact absurd rfl e
  · exact ⟨j, b, a, by rw [List.getElem?_eq_getElem hj, ej], List.mem_drop_iff_getElem.mpr ⟨i - (j + 1), by omega, by rw [← ei]; congr 1; omega⟩, fun z => e z.symm⟩
section
variable {P : Program} {w : World} {K : PySem.W.Frag} {mg : Str → Option Value} {base : Heap}
theorem ok_commute_failures {C : Addr} (T : Txt mg) (TC : Cls K C) (TA : TabNames K C) {f : Addr} {fd : FuncData} (F : C8.Def K mg "commute_failures" s_commute_failures f fd) (b : Binds K fd ["table", "statuses"] [Value.none]) (c_after_both : C8.Cal P w K mg base 2 "_after_both" (sp__after_both K C) []) (c_looked_at : C8.Cal P w K mg base 3 "_looked_at" (sp__looked_at K C) []) : C8.Cal P w K mg base 4 "commute_failures" (sp_commute_failures K C) [V.non] := by
  refine C8.cal0 F b (.cons rfl .nil) sc_commute_failures (fun vs H Q E h => ?_) (fun cdv A outer s H vs Q E hr h => ?_)
  · exact len_commute_failures h
  · refine ⟨_, (pss_cons (ps_set (i := 2) sc_commute_failures.nd rfl (by first | exact Or.inl rfl | exact Or.inr rfl) (pe_lst pa_nil))
  (pss_cons (ps_for PassesOwn.never rfl (pi_list (C8.pe_c c_looked_at hr (by decide) (by rfl) (pa_cons (pv 0) (pa_cons (pv 1) pa_nil)))) (pg_name (i := 3) sc_commute_failures.nd rfl (by first | exact Or.inl rfl | exact Or.inr rfl))
  (pss_one (ps_for PassesOwn.never rfl (EnT.pi_enumT (by rfl) T.n_enumerate (pa_cons (pe_fld (pv 0) rfl) pa_nil)) (pg_tup rfl (pgs_cons (pg_name (i := 4) sc_commute_failures.nd rfl (by first | exact Or.inl rfl | exact Or.inr rfl)) (pgs_cons (pg_name (i := 5) sc_commute_failures.nd rfl (by first | exact Or.inl rfl | exact Or.inr rfl)) pgs_nil)))
  (pss_one (ps_for PassesOwn.never rfl (pi_tup (pe_slice sl_tupA (pe_fld (pv 0) rfl) (po_some (pe_op op_add (pv 4) pe_int)) po_none)) (pg_name (i := 6) sc_commute_failures.nd rfl (by first | exact Or.inl rfl | exact Or.inr rfl))
  (pss_one (ps_if (pt_cmpR op_ne (C8.pe_c c_after_both hr (by decide) (by rfl) (pa_cons (pv 0) (pa_cons (pv 3) (pa_cons (pv 5) (pa_cons (pv 6) pa_nil))))) (C8.pe_c c_after_both hr (by decide) (by rfl) (pa_cons (pv 0) (pa_cons (pv 3) (pa_cons (pv 6) (pa_cons (pv 5) pa_nil))))) (nomark _))
  (pss_one (ps_expr (pe_bm PySem.F.plainAttrs_list PySem.F.slot_list_append PySem.F.type_list_append mt_append (pv 2) (pa_cons (pe_tup (pa_cons (pv 3) (pa_cons (pv 5) (pa_cons (pv 6) pa_nil)))) pa_nil))))
  pss_nil)))))))
  (pss_one (ps_ret (pv 2))))), ?_⟩
    obtain ⟨a, T0, tcs, ps, rfl, ⟨hT, ok, hcs⟩, q⟩ := h
    obtain ⟨dx, p1, p2, p3, d1, d2, d3, sz, cl, skv, h0, h1, h2, h3, h4, h5, h6, h7⟩ := hT.ex
    have FF := found_facts ok hcs
    have hF8 := Found.le8 ok FF
    have hc6 : tcs.length ≤ 6 := by
      have : tcs.Nodup := hcs.srt.imp (fun {x y} z e => by rw [e, ordS.irr] at z; cases z)
      have := this.length_le_of_subset (fun x hx => (hcs.mem x).mp hx)
      have := ok.few
      omega
    walk_at "go"
    refine ⟨(by show 0 ≤ sizeLine; decide), fun fl hfl => ?_⟩
    have s1 : Same H (upd H fl (.lst [])) := same_new hfl
    have f1 : upd H fl (.lst []) fl = some (.lst (([] : List Addr).map V.ref)) := upd_same
    generalize upd H fl (.lst []) = G1 at s1 f1 ⊢
    walk_at "go"
    refine (show tFor _ _ _ _ _ _ from ?_)
    refine Rd.call ?_
    walk_at "go"
    refine ⟨a, T0, tcs, ps, rfl, ⟨hT.mono s1, ok, hcs⟩, fun H1 p s2 hp0 hp => ?_⟩
    have hsub : ∀ s, s ∈ (found T0 tcs).map (·.1) → s ∈ T0.homes.map (·.1) := fun s hs => by
      obtain ⟨f, hf, rfl⟩ := List.mem_map.mp hs
      exact FF.sub f hf
    have hxl : ((found T0 tcs).map (·.1)).length ≤ 8 := by rw [List.length_map]; exact hF8
    generalize (found T0 tcs).map (·.1) = xs at hp hsub hxl q
    have fp := s2 _ _ f1
    have pfl : p ≠ fl := fun z => by rw [z, f1] at hp0; cases hp0
    refine ⟨p, rfl, ⟨_, sq_of hp⟩, ?_⟩
    refine for_list (xs := xs.map V.str) (fun i σ' H' => ∃ (v3 v4 v5 v6 : Option V) (qs : List Addr) (ss : List (Str × Str × Str)), σ' = [some (.ref a), some .non, some (.ref fl), v3, v4, v5, v6] ∧ Same H H' ∧ H' p = some (.lst (xs.map V.str)) ∧ H' fl = some (.lst (qs.map V.ref)) ∧ Paired (Tri H') qs ss ∧
        (∀ r ∈ ss, r.1 ∈ xs.take i ∧ Clash T0 tcs r.1) ∧ (∀ s ∈ xs.take i, Clash T0 tcs s → s ∈ ss.map (·.1)) ∧ ss.length ≤ 36 * i)
      ⟨_, _, _, _, [], [], rfl, s1.trans s2, hp, fp, .nil, (fun r hr => nomatch hr), (fun s hs => by rw [List.take_zero] at hs; nomatch hs), Nat.le_refl _⟩ (fun i σ' H' _ z => by
        obtain ⟨_, _, _, _, _, _, _, _, z, _⟩ := z
        exact sq_of z) ?_ ?_
    · rintro i x σ' H' hx ⟨v3, v4, v5, v6, qs, ss, rfl, sH, fp, ff, hP, hA, hB, hN⟩
      rw [List.getElem?_map] at hx
      obtain ⟨s0, hs0, rfl⟩ := Option.map_eq_some_iff.mp hx
      have hs0x := List.mem_of_getElem? hs0
      have hs0h := hsub s0 hs0x
      have hi8 := (List.getElem?_eq_some_iff.mp hs0).1
      have htk : xs.take (i + 1) = xs.take i ++ [s0] := by rw [List.take_add_one, hs0]; rfl
      walk_at "go"
      refine EnT.forE ?_
      walk_at "go"
      refine ⟨a, C, dx, _, _, rfl, sH _ _ h0, TC, TA.causes, tf_causes, ?_⟩
      refine ⟨p2, _, rfl, st_of (sH _ _ h2), ?_⟩
      refine EnT.for_enumT (xs := tcs.map V.str) (fun k σ' H' => ∃ (v4 v5 v6 : Option V) (qs : List Addr) (ss : List (Str × Str × Str)), σ' = [some (.ref a), some .non, some (.ref fl), some (.str s0), v4, v5, v6] ∧ Same H H' ∧ H' p = some (.lst (xs.map V.str)) ∧ H' fl = some (.lst (qs.map V.ref)) ∧ Paired (Tri H') qs ss ∧
          (∀ r ∈ ss, r.1 ∈ xs.take (i + 1) ∧ Clash T0 tcs r.1) ∧ (∀ s ∈ xs.take i, Clash T0 tcs s → s ∈ ss.map (·.1)) ∧ ss.length ≤ 36 * i + 6 * k ∧ ∀ k' x y, k' < k → tcs[k']? = some x → y ∈ tcs.drop (k' + 1) → T0.step (T0.step s0 x) y ≠ T0.step (T0.step s0 y) x → s0 ∈ ss.map (·.1))
        ⟨_, _, _, qs, ss, rfl, sH, fp, ff, hP, fun r hr => ⟨by rw [htk]; exact List.mem_append_left _ (hA r hr).1, (hA r hr).2⟩, hB, by omega, fun k' x y hk => absurd hk (Nat.not_lt_zero _)⟩ (fun k σ' H' _ z => by
          obtain ⟨_, _, _, _, _, _, z, _⟩ := z
          exact st_of (z _ _ h2)) ?_ ?_
      · rintro k x pt σ3 H3 hx hpt ⟨v4, v5, v6, qs, ss, rfl, sH, fp, ff, hP, hA, hB, hN, hC⟩
        rw [List.getElem?_map] at hx
        obtain ⟨c1, hc1, rfl⟩ := Option.map_eq_some_iff.mp hx
        have hc1m := List.mem_of_getElem? hc1
        have hkl := (List.getElem?_eq_some_iff.mp hc1).1
        have sN := same_new (o := .tup [.int (k : Nat), .str c1]) hpt
        walk_at "go"
        refine Rd.gtup (st_of upd_same) rfl ?_
        have sH := sH.trans sN
        have fp := sN _ _ fp
        have ff := sN _ _ ff
        have hP : Paired (Tri _) qs ss := paired_map hP fun _ _ z => sN _ _ z
        generalize upd H3 pt (.tup [.int (k : Nat), .str c1]) = H4 at sH fp ff hP ⊢
        clear sN hpt
        walk_at "go"
        refine (show tFor _ _ _ _ _ _ from ?_)
        refine Rd.slice ?_
        walk_at "go"
        refine ⟨a, C, dx, _, _, rfl, sH _ _ h0, TC, TA.causes, tf_causes, ?_⟩
        walk_at "go"
        have ek : (k : Int) + 1 = ((k + 1 : Nat) : Int) := by omega
        rw [ek]
        refine ⟨p2, _, rfl, st_of (sH _ _ h2), fun hz => ?_, fun _ pc hpc => ?_⟩
        · exfalso
          rw [HT.sIx_nat, List.length_map] at hz
          omega
        rw [cut_strs, HT.sIx_nat, HT.sIx_none]
        have ecut : (tcs.drop (min (k + 1) tcs.length)).take (tcs.length - min (k + 1) tcs.length) = tcs.drop (k + 1) := by
          rw [Nat.min_eq_left (by omega)]
          exact List.take_of_length_le (by rw [List.length_drop]; exact Nat.le_refl _)
        rw [ecut]
        have sN := same_new (o := .tup ((tcs.drop (k + 1)).map V.str)) hpc
        have epc : upd H4 pc (.tup ((tcs.drop (k + 1)).map V.str)) pc = some (.tup ((tcs.drop (k + 1)).map V.str)) := upd_same
        have sH := sH.trans sN
        have fp := sN _ _ fp
        have ff := sN _ _ ff
        have hP : Paired (Tri _) qs ss := paired_map hP fun _ _ z => sN _ _ z
        generalize upd H4 pc (.tup ((tcs.drop (k + 1)).map V.str)) = H5 at sH fp ff hP epc ⊢
        clear sN hpc
        refine ⟨pc, rfl, ⟨_, st_of epc⟩, ?_⟩
        refine for_tup (xs := (tcs.drop (k + 1)).map V.str) (fun j σ' H' => ∃ (v6 : Option V) (qs : List Addr) (ss : List (Str × Str × Str)), σ' = [some (.ref a), some .non, some (.ref fl), some (.str s0), some (.int (k : Nat)), some (.str c1), v6] ∧ Same H H' ∧ H' p = some (.lst (xs.map V.str)) ∧ H' pc = some (.tup ((tcs.drop (k + 1)).map V.str)) ∧ H' fl = some (.lst (qs.map V.ref)) ∧ Paired (Tri H') qs ss ∧
            (∀ r ∈ ss, r.1 ∈ xs.take (i + 1) ∧ Clash T0 tcs r.1) ∧ (∀ s ∈ xs.take i, Clash T0 tcs s → s ∈ ss.map (·.1)) ∧ ss.length ≤ 36 * i + 6 * k + j ∧ (∀ k' x y, k' < k → tcs[k']? = some x → y ∈ tcs.drop (k' + 1) → T0.step (T0.step s0 x) y ≠ T0.step (T0.step s0 y) x → s0 ∈ ss.map (·.1)) ∧
            ∀ y ∈ (tcs.drop (k + 1)).take j, T0.step (T0.step s0 c1) y ≠ T0.step (T0.step s0 y) c1 → s0 ∈ ss.map (·.1))
          ⟨_, qs, ss, rfl, sH, fp, epc, ff, hP, hA, hB, by omega, hC, fun y hy => by rw [List.take_zero] at hy; nomatch hy⟩ (fun k σ' H' _ z => by
            obtain ⟨_, _, _, _, _, _, z, _⟩ := z
            exact st_of z) ?_ ?_
        · rintro j x σ6 H6 hx ⟨v6, qs, ss, rfl, sH, fp, epc, ff, hP, hA, hB, hN, hC, hD⟩
          rw [List.getElem?_map] at hx
          obtain ⟨c2, hc2, rfl⟩ := Option.map_eq_some_iff.mp hx
          have hc2m := List.mem_of_mem_drop (List.mem_of_getElem? hc2)
          have hjl := (List.getElem?_eq_some_iff.mp hc2).1
          rw [List.length_drop] at hjl
          have htj : (tcs.drop (k + 1)).take (j + 1) = (tcs.drop (k + 1)).take j ++ [c2] := by rw [List.take_add_one, hc2]; rfl
          walk_at "go"
          refine ⟨a, s0, c1, c2, T0, tcs, ps, rfl, ⟨hT.mono sH, ok, hcs⟩, hs0h, hc1m, hc2m, fun H7 s7 => ?_⟩
          walk_at "go"
          refine ⟨a, s0, c2, c1, T0, tcs, ps, rfl, ⟨hT.mono (sH.trans s7), ok, hcs⟩, hs0h, hc2m, hc1m, fun H8 s8 => ?_⟩
          have s78 := s7.trans s8
          have sH := sH.trans s78
          have fp := s78 _ _ fp
          have epc := s78 _ _ epc
          have ff := s78 _ _ ff
          have hP : Paired (Tri H8) qs ss := paired_map hP fun _ _ z => s78 _ _ z
          refine Rd.ne rfl ?_
          walk_at "go"
          refine Rd.itNP (fun hne => ?_) (fun heq => ?_)
          · have hne : T0.step (T0.step s0 c1) c2 ≠ T0.step (T0.step s0 c2) c1 := fun z => hne (by rw [z])
            have hcl : Clash T0 tcs s0 := ⟨c1, hc1m, c2, hc2m, hne⟩
            walk_at "go"
            refine ⟨.inl ⟨rfl, _, sq_of ff⟩, ?_⟩
            walk_at "go"
            refine ⟨(by show 3 ≤ sizeLine; decide), fun t ht => ?_⟩
            have s9 := same_new (o := .tup [.str s0, .str c1, .str c2]) ht
            have e9 : upd H8 t (.tup [.str s0, .str c1, .str c2]) t = some (.tup [.str s0, .str c1, .str c2]) := upd_same
            generalize upd H8 t (.tup [.str s0, .str c1, .str c2]) = H9 at s9 e9 ⊢
            walk_at "go"
            have ff9 := s9 _ _ ff
            have hql : qs.length = ss.length := Paired.length hP
            refine ⟨fl, _, _, rfl, rfl, ff9, small1000 (by rw [List.length_map]; omega), ?_⟩
            have kt : ∀ b xs, H9 b = some (.tup xs) → upd H9 fl (.lst (qs.map V.ref ++ [.ref t])) b = some (.tup xs) := fun b xs e => by rw [upd_ne (ne_of e ff9 (fun z => nomatch z))]; exact e
            refine ⟨_, qs ++ [t], ss ++ [(s0, c1, c2)], rfl, same_mut (sH.trans s9) hfl, by rw [upd_ne pfl]; exact s9 _ _ fp, kt _ _ (s9 _ _ epc), by rw [upd_same, List.map_append]; rfl, Paired.snoc (paired_map hP fun _ _ z => kt _ _ (s9 _ _ z)) (kt _ _ e9), fun r hr => ?_, fun s hs hc => ?_, by rw [List.length_append, List.length_singleton]; omega, fun _ _ _ _ _ _ _ => ?_, fun _ _ _ => ?_⟩
            · rcases List.mem_append.mp hr with hr | hr
              · exact hA r hr
              · have : r = (s0, c1, c2) := by simpa using hr
                rw [this]
                exact ⟨by rw [htk]; exact List.mem_append_right _ (by simp), hcl⟩
            · rw [List.map_append]
              exact List.mem_append_left _ (hB s hs hc)
            · rw [List.map_append]
              exact List.mem_append_right _ (by simp)
            · rw [List.map_append]
              exact List.mem_append_right _ (by simp)
          · have heq : T0.step (T0.step s0 c1) c2 = T0.step (T0.step s0 c2) c1 := V.str.inj heq
            walk_at "go"
            refine ⟨_, qs, ss, rfl, sH, fp, epc, ff, hP, hA, hB, by omega, hC, fun y hy hne => ?_⟩
            rw [htj] at hy
            rcases List.mem_append.mp hy with hy | hy
            · exact hD y hy hne
            · have : y = c2 := by simpa using hy
              rw [this] at hne
              exact absurd heq hne
        · rintro σ6 H6 ⟨v6, qs, ss, rfl, sH, fp, epc, ff, hP, hA, hB, hN, hC, hD⟩
          rw [List.length_map] at hN hD
          rw [List.take_length] at hD
          rw [List.length_drop] at hN
          refine ⟨_, _, _, qs, ss, rfl, sH, fp, ff, hP, hA, hB, by omega, fun k' x y hk hx hy hne => ?_⟩
          rcases Nat.lt_or_ge k' k with hlt | hge
          · exact hC k' x y hlt hx hy hne
          · have : k' = k := by omega
            rw [this, hc1] at hx
            have ex := Option.some.inj hx
            rw [this] at hy
            rw [← ex] at hne
            exact hD y hy hne
      · rintro σ3 H3 ⟨v4, v5, v6, qs, ss, rfl, sH, fp, ff, hP, hA, hB, hN, hC⟩
        rw [List.length_map] at hN hC
        refine ⟨_, _, _, _, qs, ss, rfl, sH, fp, ff, hP, hA, fun s hs hc => ?_, by omega⟩
        rw [htk] at hs
        rcases List.mem_append.mp hs with hs | hs
        · exact hB s hs hc
        · have e : s = s0 := by simpa using hs
          rw [e] at hc ⊢
          obtain ⟨k, x, y, hx, hy, hne⟩ := clash_of hc
          exact hC k x y (List.getElem?_eq_some_iff.mp hx).1 hx hy hne
    · rintro σ' H' ⟨v3, v4, v5, v6, qs, ss, rfl, sH, fp, ff, hP, hA, hB, hN⟩
      rw [List.length_map] at hA hB hN
      rw [List.take_length] at hA hB
      walk_at "go"
      refine q H' fl qs ss sH ff hP (fun s => ⟨fun hs => ?_, fun ⟨h1, h2⟩ => hB s h1 h2⟩) (by omega)
      obtain ⟨r, hr, rfl⟩ := List.mem_map.mp hs
      exact hA r hr
end

section
variable {P : Program} {w : World} {K : PySem.W.Frag} {mg : Str → Option Value} {base : Heap}
theorem ok_RecoveryTable_rate {C f : Addr} (T : Txt mg) (TC : Cls K C) (TA : TabNames K C) (me : Meth K C "rate" f) {fd : FuncData} (F : C8.Fun K "rate" "RecoveryTable.rate" s_RecoveryTable_rate f fd) (b : Binds K fd ["self", "column"] [])  : C8.Met P w K mg base 1 C "rate" (sp_RecoveryTable_rate K C) [] := by
  refine C8.met0 TC me F b sc_RecoveryTable_rate (fun vs H Q E h => ?_) (fun cdv A outer s H vs Q E hr h => ?_)
  · exact len_RecoveryTable_rate h
  · refine ⟨_, (pss_cons (ps_if (pt_cmp (pc_dnotin (hu_of hr) (pv 1) (pe_fld (pv 0) rfl)))
  (pss_one ps_never)
  pss_nil)
  (pss_one (ps_ret (pe_dget (hu_of hr) (pe_fld (pv 0) rfl) (pv 1) (fun _ _ => rfl))))), ?_⟩
    obtain ⟨a, T0, cs, s0, rt, rfl, hT, hg, q⟩ := h
    obtain ⟨dx, p1, p2, p3, d1, d2, d3, ss, cl, skv, h0, h1, h2, h3, h4, h5, h6, h7⟩ := hT.ex
    walk_at "go"
    refine ⟨a, C, dx, _, _, rfl, h0, TC, TA.rates, tf_rates, ?_⟩
    refine ⟨d2, _, rfl, .inl ⟨_, .inr s0, .inl h5, rfl, rfl⟩, ?_⟩
    rw [kvM_get, hg]
    refine ⟨false, rfl, ?_⟩
    walk_at "go"
    refine ⟨a, C, dx, _, _, rfl, h0, TC, TA.rates, tf_rates, ?_⟩
    walk_at "go"
    exact ⟨d2, .int rt, rfl, .inl ⟨_, .inr s0, .inl h5, rfl, by rw [kvM_get, hg]; rfl⟩, q⟩
end

section
variable {P : Program} {w : World} {K : PySem.W.Frag} {mg : Str → Option Value} {base : Heap}
theorem ok_rate_failures {C : Addr} (T : Txt mg) (TC : Cls K C) (TA : TabNames K C) {f : Addr} {fd : FuncData} (F : C8.Def K mg "rate_failures" s_rate_failures f fd) (b : Binds K fd ["table", "statuses"] [Value.none]) (c_home : C8.Met P w K mg base 1 C "home" (sp_RecoveryTable_home K C) []) (c_rate : C8.Met P w K mg base 1 C "rate" (sp_RecoveryTable_rate K C) []) (c_looked_at : C8.Cal P w K mg base 3 "_looked_at" (sp__looked_at K C) []) : C8.Cal P w K mg base 4 "rate_failures" (sp_rate_failures K C) [V.non] := by
  refine C8.cal0 F b (.cons rfl .nil) sc_rate_failures (fun vs H Q E h => ?_) (fun cdv A outer s H vs Q E hr h => ?_)
  · exact len_rate_failures h
  · refine ⟨_, (pss_one (ps_ret (pe_lc (own := [("status", 2)]) (g := (gName 2)) (tt := _) rfl sc_rate_failures.nd (pi_list (C8.pe_c c_looked_at hr (by decide) (by rfl) (pa_cons (pv 0) (pa_cons (pv 1) pa_nil)))) (blkOk_by (own := [("status", 2)]) (N := ["table", "statuses", "status"]) (sc := (C8.fnScope s_rate_failures)) (by decide +kernel)) (fun _ _ _ _ _ => (pg_name (i := 2) sc_rate_failures.nd rfl (by first | exact Or.inl rfl | exact Or.inr rfl))) (fun _ _ _ _ _ => (pts_one (pt_cmpR op_eq (C8.pe_mt c_rate hr (by decide) (pv 0) (pa_cons (C8.pe_mt c_home hr (by decide) (pv 0) (pa_cons (pv 2) pa_nil)) pa_nil)) pe_int (nomark _)))) (fun _ _ _ _ _ => (pv 2))))), ?_⟩
    obtain ⟨a, T0, tcs, ps, rfl, ⟨hT, ok, hcs⟩, q⟩ := h
    obtain ⟨dx, p1, p2, p3, d1, d2, d3, sz, cl, skv, h0, h1, h2, h3, h4, h5, h6, h7⟩ := hT.ex
    have FF := found_facts ok hcs
    have hF8 := Found.le8 ok FF
    walk_at "go"
    refine Rd.call ?_
    walk_at "go"
    refine ⟨a, T0, tcs, ps, rfl, ⟨hT, ok, hcs⟩, fun H1 p s1 hp0 hp => ?_⟩
    have hsub : ∀ s, s ∈ (found T0 tcs).map (·.1) → s ∈ T0.homes.map (·.1) := fun s hs => by
      obtain ⟨f, hf, rfl⟩ := List.mem_map.mp hs
      exact FF.sub f hf
    have hxl : ((found T0 tcs).map (·.1)).length ≤ 8 := by rw [List.length_map]; exact hF8
    generalize (found T0 tcs).map (·.1) = xs at hp hsub hxl q
    refine ⟨p, rfl, ⟨_, sq_of hp⟩, fun D hD => lc_list (K := K) (xs := xs.map V.str) (fun i H' => Same H1 H' ∧ ∃ ss : List Str, H' D = some (.lst (ss.map V.str)) ∧ (∀ s, s ∈ ss ↔ s ∈ xs.take i ∧ Rate0 T0 s) ∧ ss.length ≤ i)
      ⟨same_new hD, [], upd_same, fun s => by simp, Nat.le_refl _⟩ (fun i H' _ z => sq_of (z.1 _ _ hp)) ?_ ?_⟩
    · rintro i x H' hx ⟨s2, ss, f2, hm, hl⟩
      rw [List.getElem?_map] at hx
      obtain ⟨s0, hs0, rfl⟩ := Option.map_eq_some_iff.mp hx
      have hs0h := hsub s0 (List.mem_of_getElem? hs0)
      have hil := (List.getElem?_eq_some_iff.mp hs0).1
      have htk : xs.take (i + 1) = xs.take i ++ [s0] := by rw [List.take_add_one, hs0]; rfl
      obtain ⟨r, hr⟩ := ok.rate hs0h
      have s12 := s1.trans s2
      walk_at "go"
      refine ⟨rfl, ?_⟩
      walk_at "go"
      refine ⟨a, dx, _, rfl, s12 _ _ h0, tf_rate, ?_⟩
      walk_at "go"
      refine ⟨a, dx, _, rfl, s12 _ _ h0, tf_home, ?_⟩
      walk_at "go"
      refine ⟨a, T0, tcs, _, _, rfl, hT.mono s12, ok.home hs0h, ?_⟩
      walk_at "go"
      refine ⟨a, T0, tcs, _, _, rfl, hT.mono s12, hr, ?_⟩
      walk_at "go"
      refine Rd.eq rfl ?_
      walk_at "go"
      refine Rd.itP (fun he => ?_) (fun hne => ?_)
      · have he : r = 0 := V.int.inj he
        walk_at "go"
        refine ⟨_, f2, small1000 (by rw [List.length_map]; omega), same_mut s2 hD, ss ++ [s0], by rw [upd_same, List.map_append]; rfl, fun s => ?_, by rw [List.length_append, List.length_singleton]; omega⟩
        rw [htk, List.mem_append, List.mem_append, hm s]
        constructor
        · rintro (⟨h1, h2⟩ | h1)
          · exact ⟨.inl h1, h2⟩
          · refine ⟨.inr h1, ?_⟩
            have : s = s0 := by simpa using h1
            rw [this]
            show getA T0.rates (T0.home s0) = some 0
            rw [hr, he]
        · rintro ⟨h1 | h1, h2⟩
          · exact .inl ⟨h1, h2⟩
          · exact .inr h1
      · refine ⟨s2, ss, f2, fun s => ?_, by omega⟩
        rw [htk, List.mem_append, hm s]
        constructor
        · rintro ⟨h1, h2⟩
          exact ⟨.inl h1, h2⟩
        · rintro ⟨h1 | h1, h2⟩
          · exact ⟨h1, h2⟩
          · have : s = s0 := by simpa using h1
            rw [this] at h2
            have h2 : getA T0.rates (T0.home s0) = some 0 := h2
            rw [hr] at h2
            exact absurd (by rw [Option.some.inj h2]) hne
    · rintro H' ⟨s2, ss, f2, hm, hl⟩
      rw [List.length_map, List.take_length] at hm
      rw [List.length_map] at hl
      walk_at "go"
      exact q H' D ss (s1.trans s2) f2 hm (by omega)
end

section
variable {P : Program} {w : World} {K : PySem.W.Frag} {mg : Str → Option Value} {base : Heap}
theorem ok_fewest_notes {C : Addr} (T : Txt mg) (TC : Cls K C) (TA : TabNames K C) {f : Addr} {fd : FuncData} (F : C8.Def K mg "fewest_notes" s_fewest_notes f fd) (b : Binds K fd ["table", "over"] []) (c_carry_failures : C8.Cal P w K mg base 4 "carry_failures" (sp_carry_failures K C) [V.non]) (c_commute_failures : C8.Cal P w K mg base 4 "commute_failures" (sp_commute_failures K C) [V.non]) (c_rate_failures : C8.Cal P w K mg base 4 "rate_failures" (sp_rate_failures K C) [V.non]) (c_reach : C8.Cal P w K mg base 2 "reach" (sp_reach K C) []) : C8.Cal P w K mg base 5 "fewest_notes" (sp_fewest_notes K C) [] := by
  refine C8.cal0 F b .nil sc_fewest_notes (fun vs H Q E h => ?_) (fun cdv A outer s H vs Q E hr h => ?_)
  · exact len_fewest_notes h
  · refine ⟨_, (pss_cons (ps_set (i := 2) sc_fewest_notes.nd rfl (by first | exact Or.inl rfl | exact Or.inr rfl) pe_dnewK)
  (pss_cons (ps_for PassesOwn.never rfl (pi_list (C8.pe_c c_reach hr (by decide) (by rfl) (pa_cons (pv 0) pa_nil))) (pg_tup rfl (pgs_cons (pg_name (i := 3) sc_fewest_notes.nd rfl (by first | exact Or.inl rfl | exact Or.inr rfl)) (pgs_cons (pg_name (i := 4) sc_fewest_notes.nd rfl (by first | exact Or.inl rfl | exact Or.inr rfl)) pgs_nil)))
  (pss_one (ps_dput (hu_of hr) (pv 2) (pv 3) (pe_callB call_len_seq (by rfl) T.n_len (by decide +kernel) (pa_cons (pv 4) pa_nil)) rfl)))
  (pss_cons (ps_setLc (i := 5) (own := [("status", 3), ("_", 6)]) (g := (gTup K 3 (gCons (gName 3) (gCons (gName 6) (gCons (gName 6) gNil))))) (tt := _) rfl sc_fewest_notes.nd rfl rfl (sw_true rfl rfl rfl (by decide +kernel)) (pi_list (C8.pe_c c_commute_failures hr (by decide) (by rfl) (pa_cons (pv 0) pa_nil))) (blkOk_by (own := [("status", 3), ("_", 6)]) (N := ["table", "over", "distances", "status", "word", "numbers", "_", "others"]) (sc := (C8.fnScope s_fewest_notes)) (by decide +kernel)) (fun _ _ _ _ _ => (pg_tup rfl (pgs_cons (pg_name (i := 3) sc_fewest_notes.nd rfl (by first | exact Or.inl rfl | exact Or.inr rfl)) (pgs_cons (pg_name (i := 6) sc_fewest_notes.nd rfl (by first | exact Or.inl rfl | exact Or.inr rfl)) (pgs_cons (pg_name (i := 6) sc_fewest_notes.nd rfl (by first | exact Or.inl rfl | exact Or.inr rfl)) pgs_nil))))) (fun _ _ _ _ _ => pts_nil) (fun _ _ _ _ _ => (pe_op op_add (pe_dget (hu_of hr) (pv 2) (pv 3) (fun _ _ => rfl)) pe_int)))
  (pss_cons (ps_if (pt_cmpR op_eq (pv 1) pe_str (nomark _))
  (pss_one (ps_setLc (i := 7) (own := [("status", 3), ("_", 6)]) (g := (gTup K 2 (gCons (gName 3) (gCons (gName 6) gNil)))) (tt := _) rfl sc_fewest_notes.nd rfl rfl (sw_true rfl rfl rfl (by decide +kernel)) (pi_list (C8.pe_c c_carry_failures hr (by decide) (by rfl) (pa_cons (pv 0) pa_nil))) (blkOk_by (own := [("status", 3), ("_", 6)]) (N := ["table", "over", "distances", "status", "word", "numbers", "_", "others"]) (sc := (C8.fnScope s_fewest_notes)) (by decide +kernel)) (fun _ _ _ _ _ => (pg_tup rfl (pgs_cons (pg_name (i := 3) sc_fewest_notes.nd rfl (by first | exact Or.inl rfl | exact Or.inr rfl)) (pgs_cons (pg_name (i := 6) sc_fewest_notes.nd rfl (by first | exact Or.inl rfl | exact Or.inr rfl)) pgs_nil)))) (fun _ _ _ _ _ => pts_nil) (fun _ _ _ _ _ => (pe_op op_add (pe_callB (call_max2 rfl) (by rfl) T.n_max (by decide +kernel) (pa_cons pe_int (pa_cons (pe_dget (hu_of hr) (pv 2) (pv 3) (fun _ _ => rfl)) pa_nil))) pe_int))))
  (pss_one (ps_setLc (i := 7) (own := [("status", 3)]) (g := (gName 3)) (tt := _) rfl sc_fewest_notes.nd rfl rfl (sw_true rfl rfl rfl (by decide +kernel)) (pi_list (C8.pe_c c_rate_failures hr (by decide) (by rfl) (pa_cons (pv 0) pa_nil))) (blkOk_by (own := [("status", 3)]) (N := ["table", "over", "distances", "status", "word", "numbers", "_", "others"]) (sc := (C8.fnScope s_fewest_notes)) (by decide +kernel)) (fun _ _ _ _ _ => (pg_name (i := 3) sc_fewest_notes.nd rfl (by first | exact Or.inl rfl | exact Or.inr rfl))) (fun _ _ _ _ _ => pts_nil) (fun _ _ _ _ _ => (pe_callB (call_max2 rfl) (by rfl) T.n_max (by decide +kernel) (pa_cons pe_int (pa_cons (pe_dget (hu_of hr) (pv 2) (pv 3) (fun _ _ => rfl)) pa_nil)))))))
  (pss_one (ps_ret (pe_callBK (MnD.cr_minD rfl) (by rfl) T.n_min (by decide +kernel) (pa_cons (pe_op op_cat (pv 5) (pv 7)) pa_nil) (pk_cons pe_non pk_nil)))))))), ?_⟩
    obtain ⟨a, over, T0, tcs, ps, rfl, ⟨hT, ok, hcs⟩, hov, q⟩ := h
    have FF := found_facts ok hcs
    have hF8 := Found.le8 ok FF
    walk_at "go"
    refine fun ds hds => ?_
    have s1 : Same H (upd H ds (.dK [])) := same_new hds
    have f1 : upd H ds (.dK []) ds = some (.dK (kvM V.int [])) := upd_same
    generalize upd H ds (.dK []) = G1 at s1 f1 ⊢
    walk_at "go"
    refine ⟨a, T0, tcs, ps, rfl, hT.mono s1, ok, hcs, fun H1 p s2 hp0 hF => ?_⟩
    generalize hFe : found T0 tcs = F at FF hF8 hF
    obtain ⟨qs, hqs, hP⟩ := hF
    have hql : qs.length = F.length := Paired.length hP
    have fds := s2 _ _ f1
    have npd : p ≠ ds := ne_of hqs fds (fun z => nomatch z)
    refine ⟨p, rfl, ⟨_, sq_of hqs⟩, ?_⟩
    refine for_list (xs := qs.map V.ref) (fun i σ' H' => ∃ (v3 v4 : Option V), σ' = [some (.ref a), some (.str over), some (.ref ds), v3, v4, none, none, none] ∧ Same H H' ∧ (∀ b o, b ≠ ds → H1 b = some o → H' b = some o) ∧ H' ds = some (.dK (kvM V.int ((lensOf F).take i))))
      ⟨_, _, rfl, s1.trans s2, fun _ _ _ e => e, fds⟩ (fun i σ' H' _ z => by
        obtain ⟨_, _, _, _, z, _⟩ := z
        exact sq_of (z _ _ npd hqs)) ?_ ?_
    · rintro i x σ' H' hx ⟨v3, v4, rfl, sH, fr, fd⟩
      rw [List.getElem?_map] at hx
      obtain ⟨qa, hqa, rfl⟩ := Option.map_eq_some_iff.mp hx
      obtain ⟨⟨s0, u⟩, hf, r, hr1, hr2⟩ := paired_atL hP hqa
      have hr1 : H1 qa = some (.tup [.str s0, .ref r]) := hr1
      have hr2 : H1 r = some (.tup (u.map V.str)) := hr2
      have hr1' := fr _ _ (ne_of hr1 fds (fun z => nomatch z)) hr1
      have hr2' := fr _ _ (ne_of hr2 fds (fun z => nomatch z)) hr2
      have hil := (List.getElem?_eq_some_iff.mp hf).1
      walk_at "go"
      refine Rd.gtup (st_of hr1') rfl ?_
      walk_at "go"
      refine ⟨r, _, rfl, .inr (st_of hr2'), ?_⟩
      rw [List.length_map]
      walk_at "go"
      refine ⟨ds, _, rfl, .inl ⟨_, .inr s0, fd, rfl, small1000 (by rw [kvM_len, List.length_take]; omega), rfl⟩, ?_⟩
      have hL : (lensOf F)[i]? = some (s0, ((u.length : Nat) : Int)) := by
        unfold lensOf
        rw [List.getElem?_map, hf]
        rfl
      have ep := putA_take (by rw [lensOf_keys]; exact FF.nodup) hL
      rw [kvM_put, show putA ((lensOf F).take i) s0 ((u.length : Nat) : Int) = (lensOf F).take (i + 1) from ep]
      exact ⟨_, _, rfl, same_mut sH hds, fun b o hb e => by rw [upd_ne hb]; exact fr b o hb e, upd_same⟩
    rintro σ' H' ⟨v3, v4, rfl, sH, fr, fd⟩
    rw [List.length_map, hql, List.take_of_length_le (by unfold lensOf; rw [List.length_map]; exact Nat.le_refl _)] at fd
    have rd : ∀ {G : Hp} {s : Str}, Same H' G → s ∈ F.map (·.1) → ∃ kvs k, Rd G ds (.dK kvs) ∧ V.str s = kV k ∧ some (V.int (dstF F s)) = valV kvs k := fun {G s} sG hs =>
      ⟨kvM V.int (lensOf F), .inr s, .inl (sG _ _ fd), rfl, by rw [kvM_get, lensOf_get hs]; rfl⟩
    clear fr hP hqs hql npd fds
    walk_at "go"
    refine ⟨a, T0, tcs, ps, rfl, ⟨hT.mono sH, ok, hcs⟩, fun H2 p2 qs2 ssA s3 hp2 hP2 hmA hlA => ?_⟩
    rw [hFe] at hmA
    have hql2 : qs2.length = ssA.length := Paired.length hP2
    refine ⟨p2, rfl, ⟨_, sq_of hp2⟩, fun DA hDA => lc_list (K := K) (xs := qs2.map V.ref) (fun i H' => Same H2 H' ∧ H' DA = some (.lst (((ssA.take i).map (fun r => dstF F r.1 + 2)).map V.int)))
      ⟨same_new hDA, upd_same⟩ (fun i H' _ z => sq_of (z.1 _ _ hp2)) ?_ ?_⟩
    · rintro i x G hx ⟨s4, f4⟩
      rw [List.getElem?_map] at hx
      obtain ⟨qa, hqa, rfl⟩ := Option.map_eq_some_iff.mp hx
      obtain ⟨⟨r1, r2, r3⟩, hr, ht⟩ := paired_atL hP2 hqa
      have ht : H2 qa = some (.tup [.str r1, .str r2, .str r3]) := ht
      have hil := (List.getElem?_eq_some_iff.mp hr).1
      have hk : r1 ∈ F.map (·.1) := ((hmA r1).mp (List.mem_map.mpr ⟨_, List.mem_of_getElem? hr, rfl⟩)).1
      walk_at "go"
      refine Rd.gtup (st_of (s4 _ _ ht)) rfl ?_
      walk_at "go"
      refine ⟨rfl, ?_⟩
      walk_at "go"
      obtain ⟨kvs, k, z1, z2, z3⟩ := rd (s3.trans s4) hk
      refine ⟨ds, .int (dstF F r1), rfl, .inl ⟨kvs, k, z1, z2, z3⟩, ?_⟩
      walk_at "go"
      refine ⟨_, f4, small1000 (by rw [List.length_map, List.length_map, List.length_take]; omega), same_mut s4 hDA, ?_⟩
      rw [upd_same, List.take_add_one, hr, List.map_append, List.map_append]
      rfl
    rintro G ⟨s4, fA⟩
    rw [List.length_map, hql2, List.take_length] at fA
    have s34 := s3.trans s4
    walk_at "go"
    refine Rd.eq rfl ?_
    walk_at "go"
    refine Rd.itP (fun ho => ?_) (fun ho => ?_)
    · have ho : over = "stretch" := V.str.inj ho
      walk_at "go"
      refine ⟨a, T0, tcs, ps, rfl, ⟨hT.mono (sH.trans s34), ok, hcs⟩, fun H3 p3 qs3 ssB s5 hp3 hP3 hmB hlB => ?_⟩
      rw [hFe] at hmB
      have hql3 : qs3.length = ssB.length := Paired.length hP3
      have fA := s5 _ _ fA
      refine ⟨p3, rfl, ⟨_, sq_of hp3⟩, fun DB hDB => lc_list (K := K) (xs := qs3.map V.ref) (fun i H' => Same H3 H' ∧ H' DB = some (.lst (((ssB.take i).map (fun r => mx 1 (dstF F r.1) + 1)).map V.int)))
        ⟨same_new hDB, upd_same⟩ (fun i H' _ z => sq_of (z.1 _ _ hp3)) ?_ ?_⟩
      · rintro i x G2 hx ⟨s6, f6⟩
        rw [List.getElem?_map] at hx
        obtain ⟨qa, hqa, rfl⟩ := Option.map_eq_some_iff.mp hx
        obtain ⟨⟨r1, r2⟩, hr, ht⟩ := paired_atL hP3 hqa
        have ht : H3 qa = some (.tup [.str r1, .str r2]) := ht
        have hil := (List.getElem?_eq_some_iff.mp hr).1
        have hk : r1 ∈ F.map (·.1) := ((hmB r1).mp (List.mem_map.mpr ⟨_, List.mem_of_getElem? hr, rfl⟩)).1
        walk_at "go"
        refine Rd.gtup (st_of (s6 _ _ ht)) rfl ?_
        walk_at "go"
        refine ⟨rfl, ?_⟩
        walk_at "go"
        obtain ⟨kvs, k, z1, z2, z3⟩ := rd ((s34.trans s5).trans s6) hk
        refine ⟨ds, .int (dstF F r1), rfl, .inl ⟨kvs, k, z1, z2, z3⟩, ?_⟩
        walk_at "go"
        refine ⟨_, _, rfl, ?_⟩
        walk_at "go"
        refine ⟨_, f6, small1000 (by rw [List.length_map, List.length_map, List.length_take]; omega), same_mut s6 hDB, ?_⟩
        rw [upd_same, List.take_add_one, hr, List.map_append, List.map_append]
        rfl
      rintro G2 ⟨s6, fB⟩
      rw [List.length_map, hql3, List.take_length] at fB
      have fA := s6 _ _ fA
      have sZ := (sH.trans s34).trans (s5.trans s6)
      walk_at "go"
      refine ⟨DA, DB, _, _, rfl, rfl, fA, fB, ?_, fun pm hpm => ?_⟩
      · rw [List.length_map, List.length_map, List.length_map, List.length_map]
        exact Nat.le_trans (show ssA.length + ssB.length ≤ 600 by omega) (by decide)
      rw [← List.map_append]
      have sM := same_new (o := .lst ((ssA.map (fun r => dstF F r.1 + 2) ++ ssB.map (fun r => mx 1 (dstF F r.1) + 1)).map V.int)) hpm
      walk_at "go"
      have mn := isMin_list (N := Num T0 ps over) (ns := ssA.map (fun r => dstF F r.1 + 2) ++ ssB.map (fun r => mx 1 (dstF F r.1) + 1)) fun n => ?_
      refine ⟨pm, _, rfl, rfl, sq_of upd_same, fun e => q _ _ (sZ.trans sM) (mn.1 e), fun m hm hle => q _ _ (sZ.trans sM) (mn.2 m hm hle)⟩
      rw [List.mem_append, num_mem FF hmA (fun d => d + 2), num_mem FF hmB (fun d => mx 1 d + 1)]
      constructor
      · rintro (⟨s, d, h1, h2, h3⟩ | ⟨s, d, h1, h2, h3⟩)
        · exact ⟨s, d, h1.congr hcs.mem, .inl ⟨h2.congr hcs.mem, h3⟩⟩
        · exact ⟨s, d, h1.congr hcs.mem, .inr (.inl ⟨ho, h2.congr hcs.mem, h3⟩)⟩
      · rintro ⟨s, d, h1, ⟨h2, h3⟩ | ⟨_, h2, h3⟩ | ⟨h2, _, _⟩⟩
        · exact .inl ⟨s, d, h1.congr fun c => (hcs.mem c).symm, h2.congr fun c => (hcs.mem c).symm, h3⟩
        · exact .inr ⟨s, d, h1.congr fun c => (hcs.mem c).symm, h2.congr fun c => (hcs.mem c).symm, h3⟩
        · exact absurd (h2.symm.trans ho) runs_ne
    · have ho2 : over = "runs" := hov.resolve_left fun e => ho (by rw [e])
      walk_at "go"
      refine ⟨a, T0, tcs, ps, rfl, ⟨hT.mono (sH.trans s34), ok, hcs⟩, fun H3 p3 ssB s5 hp3 hmB hlB => ?_⟩
      rw [hFe] at hmB
      have fA := s5 _ _ fA
      refine ⟨p3, rfl, ⟨_, sq_of hp3⟩, fun DB hDB => lc_list (K := K) (xs := ssB.map V.str) (fun i H' => Same H3 H' ∧ H' DB = some (.lst (((ssB.take i).map (fun r => mx 2 (dstF F r))).map V.int)))
        ⟨same_new hDB, upd_same⟩ (fun i H' _ z => sq_of (z.1 _ _ hp3)) ?_ ?_⟩
      · rintro i x G2 hx ⟨s6, f6⟩
        rw [List.getElem?_map] at hx
        obtain ⟨r1, hr, rfl⟩ := Option.map_eq_some_iff.mp hx
        have hil := (List.getElem?_eq_some_iff.mp hr).1
        have hk : r1 ∈ F.map (·.1) := ((hmB r1).mp (List.mem_of_getElem? hr)).1
        walk_at "go"
        refine ⟨rfl, ?_⟩
        walk_at "go"
        obtain ⟨kvs, k, z1, z2, z3⟩ := rd ((s34.trans s5).trans s6) hk
        refine ⟨ds, .int (dstF F r1), rfl, .inl ⟨kvs, k, z1, z2, z3⟩, ?_⟩
        walk_at "go"
        refine ⟨_, _, rfl, ?_⟩
        refine ⟨_, f6, small1000 (by rw [List.length_map, List.length_map, List.length_take]; omega), same_mut s6 hDB, ?_⟩
        rw [upd_same, List.take_add_one, hr, List.map_append, List.map_append]
        rfl
      rintro G2 ⟨s6, fB⟩
      rw [List.length_map, List.take_length] at fB
      have fA := s6 _ _ fA
      have sZ := (sH.trans s34).trans (s5.trans s6)
      have hmB2 : ∀ s, s ∈ ssB.map id ↔ s ∈ F.map (·.1) ∧ Rate0 T0 s := fun s => by rw [List.map_id]; exact hmB s
      walk_at "go"
      refine ⟨DA, DB, _, _, rfl, rfl, fA, fB, ?_, fun pm hpm => ?_⟩
      · rw [List.length_map, List.length_map, List.length_map, List.length_map]
        exact Nat.le_trans (show ssA.length + ssB.length ≤ 600 by omega) (by decide)
      rw [← List.map_append]
      have sM := same_new (o := .lst ((ssA.map (fun r => dstF F r.1 + 2) ++ ssB.map (fun r => mx 2 (dstF F r))).map V.int)) hpm
      walk_at "go"
      have mn := isMin_list (N := Num T0 ps over) (ns := ssA.map (fun r => dstF F r.1 + 2) ++ ssB.map (fun r => mx 2 (dstF F r))) fun n => ?_
      refine ⟨pm, _, rfl, rfl, sq_of upd_same, fun e => q _ _ (sZ.trans sM) (mn.1 e), fun m hm hle => q _ _ (sZ.trans sM) (mn.2 m hm hle)⟩
      rw [List.mem_append, num_mem FF hmA (fun d => d + 2), show ssB.map (fun r => mx 2 (dstF F r)) = ssB.map (fun r => mx 2 (dstF F (id r))) from rfl, num_mem (k := id) FF hmB2 (fun d => mx 2 d)]
      constructor
      · rintro (⟨s, d, h1, h2, h3⟩ | ⟨s, d, h1, h2, h3⟩)
        · exact ⟨s, d, h1.congr hcs.mem, .inl ⟨h2.congr hcs.mem, h3⟩⟩
        · exact ⟨s, d, h1.congr hcs.mem, .inr (.inr ⟨ho2, h2, h3⟩)⟩
      · rintro ⟨s, d, h1, ⟨h2, h3⟩ | ⟨h2, _, _⟩ | ⟨_, h2, h3⟩⟩
        · exact .inl ⟨s, d, h1.congr fun c => (hcs.mem c).symm, h2.congr fun c => (hcs.mem c).symm, h3⟩
        · exact absurd (ho2.symm.trans h2) runs_ne
        · exact .inr ⟨s, d, h1.congr fun c => (hcs.mem c).symm, h2, h3⟩
end

section
variable {P : Program} {w : World} {K : PySem.W.Frag} {mg : Str → Option Value} {base : Heap}
theorem ok_law_told {C : Addr} (T : Txt mg) (TC : Cls K C) (TA : TabNames K C) {f : Addr} {fd : FuncData} (F : C8.Def K mg "_law_told" s__law_told f fd) (b : Binds K fd ["table", "word", "due"] []) (c_fewest_notes : C8.Cal P w K mg base 5 "fewest_notes" (sp_fewest_notes K C) []) : C8.Cal P w K mg base 6 "_law_told" (sp__law_told K C) [] := by
  refine C8.cal0 F b .nil sc__law_told (fun vs H Q E h => ?_) (fun cdv A outer s H vs Q E hr h => ?_)
  · exact len__law_told h
  · refine ⟨_, (pss_cons (ps_set (i := 3) sc__law_told.nd rfl (by first | exact Or.inl rfl | exact Or.inr rfl) (C8.pe_c c_fewest_notes hr (by decide) (by rfl) (pa_cons (pv 0) (pa_cons (pv 1) pa_nil))))
  (pss_cons (ps_if (pt_cmpR op_isN (pv 2) pe_non (nomark _))
  (pss_one (ps_ret (pe_cmpR op_isN (pv 3) pe_non (nomark _))))
  pss_nil)
  (pss_one (ps_ret (pe_and (pe_callB call_isi (by rfl) T.n_isinstance (by decide +kernel) (pa_cons (pv 3) (pa_cons (pe_bltn (v := .ty "int") (by rfl) T.n_int (by decide +kernel) rfl) pa_nil))) (pe_and (pe_not (pe_callB call_isi (by rfl) T.n_isinstance (by decide +kernel) (pa_cons (pv 3) (pa_cons (pe_bltn (v := .ty "bool") (by rfl) T.n_bool (by decide +kernel) rfl) pa_nil)))) (pe_one (pe_cmpR op_eq (pv 3) (pv 2) (nomark _))))))))), ?_⟩
    obtain ⟨a, over, v, T0, tcs, ps, rfl, ⟨hT, ok, hcs⟩, hov, hv, q⟩ := h
    walk_at "go"
    refine ⟨a, over, T0, tcs, ps, rfl, ⟨hT, ok, hcs⟩, hov, fun H1 u s1 hu => ?_⟩
    have e := hu.uniq hv
    subst e
    walk_at "go"
    refine ⟨rfl, ?_⟩
    rcases hv with ⟨rfl, _⟩ | ⟨n, rfl, _, _⟩
    · walk_at "go"
      refine Rd.itTd rfl ?_
      walk_at "go"
      refine ⟨rfl, ?_⟩
      rw [decide_eq_true rfl]
      exact q _ s1
    · walk_at "go"
      refine Rd.eqT rfl rfl ?_
      walk_at "go"
      exact q _ s1
end

section
variable {P : Program} {w : World} {K : PySem.W.Frag} {mg : Str → Option Value} {base : Heap}
theorem fn_law {C : Addr} (T : Txt mg) (TC : Cls K C) (TA : TabNames K C) {f : Addr} {fd : FuncData} (F : C8.Def K mg "law" s_law f fd) (c_law_changed : C8.Cal P w K mg base 2 "_law_changed" (sp__law_changed K) []) (c_law_draw : C8.Cal P w K mg base 1 "_law_draw" (sp__law_draw K) []) (c_law_due : C8.Cal P w K mg base 2 "_law_due" (sp__law_due K) []) (c_law_plan : C8.Cal P w K mg base 4 "_law_plan" (sp__law_plan K) []) (c_law_pot : C8.Cal P w K mg base 1 "_law_pot" (sp__law_pot K) []) (c_law_table : C8.Cal P w K mg base 8 "_law_table" (sp__law_table K C) []) (c_law_told : C8.Cal P w K mg base 6 "_law_told" (sp__law_told K C) []) : FnOk P w K mg base C8.CX0 9 f fd ["script"] (sp_law K C) := by
  refine C8.fn0 F.fn sc_law (fun vs H Q E h => ?_) (fun cdv A outer s H vs Q E hr h => ?_)
  · exact len_law h
  · refine ⟨_, (pss_cons (ps_set (i := 1) sc_law.nd rfl (by first | exact Or.inl rfl | exact Or.inr rfl) (C8.pe_c c_law_plan hr (by decide) (by rfl) (pa_cons (pv 0) pa_nil)))
  (pss_cons (ps_set (i := 2) sc_law.nd rfl (by first | exact Or.inl rfl | exact Or.inr rfl) (C8.pe_c c_law_changed hr (by decide) (by rfl) (pa_cons (pv 0) (pa_cons (pv 1) pa_nil))))
  (pss_cons (ps_set (i := 3) sc_law.nd rfl (by first | exact Or.inl rfl | exact Or.inr rfl) (C8.pe_c c_law_table hr (by decide) (by rfl) (pa_cons (pv 1) pa_nil)))
  (pss_cons (ps_set (i := 4) sc_law.nd rfl (by first | exact Or.inl rfl | exact Or.inr rfl) (C8.pe_c c_law_table hr (by decide) (by rfl) (pa_cons (pv 2) pa_nil)))
  (pss_cons (ps_set (i := 5) sc_law.nd rfl (by first | exact Or.inl rfl | exact Or.inr rfl) (pe_lst (pa_cons pe_str (pa_cons pe_str pa_nil))))
  (pss_cons (ps_if (pt_cmpR op_eq (C8.pe_c c_law_draw hr (by decide) (by rfl) (pa_cons (C8.pe_c c_law_pot hr (by decide) (by rfl) (pa_cons (pv 0) (pa_cons pe_int pa_nil))) (pa_cons pe_int pa_nil))) pe_int (nomark _))
  (pss_one (ps_set (i := 5) sc_law.nd rfl (by first | exact Or.inl rfl | exact Or.inr rfl) (pe_lst (pa_cons pe_str (pa_cons pe_str pa_nil)))))
  pss_nil)
  (pss_cons (ps_for PassesOwn.never rfl (pi_list (pv 5)) (pg_name (i := 6) sc_law.nd rfl (by first | exact Or.inl rfl | exact Or.inr rfl))
  (pss_cons (ps_if (pt_not (pt_val (C8.pe_c c_law_told hr (by decide) (by rfl) (pa_cons (pv 3) (pa_cons (pv 6) (pa_cons (C8.pe_c c_law_due hr (by decide) (by rfl) (pa_cons (pv 1) (pa_cons (pv 6) pa_nil))) pa_nil))))))
  (pss_one (ps_ret pe_bl))
  pss_nil)
  (pss_one (ps_if (pt_not (pt_val (C8.pe_c c_law_told hr (by decide) (by rfl) (pa_cons (pv 4) (pa_cons (pv 6) (pa_cons (C8.pe_c c_law_due hr (by decide) (by rfl) (pa_cons (pv 2) (pa_cons (pv 6) pa_nil))) pa_nil))))))
  (pss_one (ps_ret pe_bl))
  pss_nil))))
  (pss_one (ps_ret (C8.pe_c c_law_told hr (by decide) (by rfl) (pa_cons (pv 3) (pa_cons (pe_ix ix_list (pv 5) pe_int (fun _ _ => rfl)) (pa_cons (C8.pe_c c_law_due hr (by decide) (by rfl) (pa_cons (pv 1) (pa_cons (pe_ix ix_list (pv 5) pe_int (fun _ _ => rfl)) pa_nil))) pa_nil))))))))))))), ?_⟩
    obtain ⟨a, ns, rfl, hs, hn, q⟩ := h
    walk_at "go"
    refine ⟨a, ns, rfl, hs, hn, fun H1 pl T0 cs s1 hP ok => ?_⟩
    walk_at "go"
    refine ⟨a, ns, pl, T0, cs, rfl, SqL_mono hs s1, hn, hP, ok, fun H2 pn T1 cs1 s2 hPn okn => ?_⟩
    have hP := hP.mono s2
    have s12 := s1.trans s2
    walk_at "go"
    refine ⟨pl, T0, cs, rfl, hP, ok, fun H3 tb tcs s3 hT hcs => ?_⟩
    have hP := hP.mono s3
    have hPn := hPn.mono s3
    have s13 := s12.trans s3
    walk_at "go"
    refine ⟨pn, T1, cs1, rfl, hPn, okn, fun H4 tn tcs1 s4 hTn hcsn => ?_⟩
    have hP := hP.mono s4
    have hPn := hPn.mono s4
    have hT := hT.mono s4
    have s14 := s13.trans s4
    walk_at "go"
    refine ⟨(by show 2 ≤ sizeLine; decide), fun wl hwl => ?_⟩
    have sN := same_new (o := .lst [.str "stretch", .str "runs"]) hwl
    have hP := hP.mono sN
    have hPn := hPn.mono sN
    have hT := hT.mono sN
    have hTn := hTn.mono sN
    have s15 := s14.trans sN
    have fw : upd H4 wl (.lst [.str "stretch", .str "runs"]) wl = some (.lst ([("stretch" : Str), "runs"].map V.str)) := upd_same
    generalize upd H4 wl (.lst [.str "stretch", .str "runs"]) = H5 at hP hPn hT hTn s15 fw ⊢
    refine Rd.gname ?_
    dsimp only
    refine Rd.seqR (fun σ' H' => ∃ (wl : Addr) (x y : Str), σ' = [some (.ref a), some (.ref pl), some (.ref pn), some (.ref tb), some (.ref tn), some (.ref wl), none] ∧ Same H5 H' ∧ H' wl = some (.lst ([x, y].map V.str)) ∧ Over x ∧ Over y) (fun NX kk => ?_) ?_
    · walk_at "go"
      refine ⟨fun _ => none, a, ns, 8, rfl, hty0 _, .of (SqL_mono hs s15), hn, by decide, by decide, fun τ H6 p P tp _ => ?_⟩
      walk_at "go"
      refine ⟨τ, p, 2, rfl, P.ok, tp, by decide, by decide, fun v H7 P7 _ _ => ?_⟩
      have P := P.trans P7
      walk_at "go"
      refine Rd.eq rfl ?_
      walk_at "go"
      refine Rd.itB (fun _ => ?_) (fun _ => ?_)
      · walk_at "go"
        refine ⟨(by show 2 ≤ sizeLine; decide), fun w2 hw2 => ?_⟩
        exact kk _ _ ⟨w2, "runs", "stretch", rfl, P.same.trans (same_new hw2), upd_same, .inr rfl, .inl rfl⟩
      · walk_at "go"
        exact kk _ _ ⟨wl, "stretch", "runs", rfl, P.same, P.same _ _ fw, .inl rfl, .inr rfl⟩
    rintro σ' H' ⟨w2, x, y, rfl, s6, fw2, hx, hy⟩
    walk_at "go"
    refine ⟨_, rfl, w2, rfl, ⟨_, sq_of fw2⟩, ?_⟩
    refine for_list (xs := [x, y].map V.str) (fun i σ' G => ∃ (v : Option V), σ' = [some (.ref a), some (.ref pl), some (.ref pn), some (.ref tb), some (.ref tn), some (.ref w2), v] ∧ Same H' G) ⟨_, rfl, Same.refl _⟩ (fun i σ' G _ z => by
        obtain ⟨_, _, z⟩ := z
        exact sq_of (z _ _ fw2)) ?_ ?_
    · rintro i z σ' G hz ⟨v, rfl, sG⟩
      rw [List.getElem?_map] at hz
      obtain ⟨o, ho, rfl⟩ := Option.map_eq_some_iff.mp hz
      have hov : Over o := by
        have := List.mem_of_getElem? ho
        rcases List.mem_cons.mp this with e | this
        · rw [e]; exact hx
        · rw [List.mem_singleton.mp this]; exact hy
      have s5G := s6.trans sG
      walk_at "go"
      refine ⟨pl, o, T0, cs, tcs, rfl, hP.mono s5G, ok, hcs, hov, fun G2 v2 sG2 hv2 => ?_⟩
      walk_at "go"
      refine ⟨tb, o, v2, T0, tcs, cs, rfl, ⟨hT.mono (s5G.trans sG2), ok, hcs⟩, hov, hv2, fun G3 sG3 => ?_⟩
      have s5G3 := (s5G.trans sG2).trans sG3
      walk_at "go"
      refine ⟨pn, o, T1, cs1, tcs1, rfl, hPn.mono s5G3, okn, hcsn, hov, fun G4 v4 sG4 hv4 => ?_⟩
      walk_at "go"
      refine ⟨tn, o, v4, T1, tcs1, cs1, rfl, ⟨hTn.mono (s5G3.trans sG4), okn, hcsn⟩, hov, hv4, fun G5 sG5 => ?_⟩
      walk_at "go"
      exact ⟨_, rfl, ((sG.trans sG2).trans sG3).trans (sG4.trans sG5)⟩
    · rintro σ' G ⟨v, rfl, sG⟩
      have s5G := s6.trans sG
      walk_at "go"
      refine Rd.ixL (sq_of (sG _ _ fw2)) (atI_nat (j := 0) rfl) ?_
      walk_at "go"
      refine Rd.ixL (sq_of (sG _ _ fw2)) (atI_nat (j := 0) rfl) ?_
      walk_at "go"
      refine ⟨pl, x, T0, cs, tcs, rfl, hP.mono s5G, ok, hcs, hx, fun G2 v2 sG2 hv2 => ?_⟩
      refine ⟨tb, x, v2, T0, tcs, cs, rfl, ⟨hT.mono (s5G.trans sG2), ok, hcs⟩, hx, hv2, fun G3 sG3 => ?_⟩
      exact q _
end

structure DefF (K : PySem.W.Frag) (mg : Str → Option Value) (x : Str) (st : Stmt) : Prop where
  ex : ∃ (f : Addr) (fd : FuncData), C8.Def K mg x st f fd ∧ fd.defaults = .none
structure MethF (K : PySem.W.Frag) (C : Addr) (m qual : Str) (st : Stmt) : Prop where
  ex : ∃ (f : Addr) (fd : FuncData), C8.Fun K m qual st f fd ∧ fd.defaults = .none ∧ Meth K C m f
structure InitF (K : PySem.W.Frag) (C : Addr) (qual : Str) (st : Stmt) : Prop where
  ex : ∃ (f : Addr) (fd : FuncData), C8.Fun K "__init__" qual st f fd ∧ fd.defaults = .none ∧ Mk K C f
section
variable {K : PySem.W.Frag} {h : Heap} {mg : Str → Option Value} {x m qual : Str} {st : Stmt} {f C : Addr} {oc kV doc pm cdv ct : Value} {od an : Option Addr} {osl : Array (Option Value)}
theorem defF (X : K.In h) (G : h.Ns mainGlobals mg) (a : PySem.W.nsIn K mainGlobals x = some (some (.ref f))) (l : K.lookup f = some ⟨oc, od, .func (PySem.W.fnOf x x (C8.fnArgs st) (C8.fnBody st) (C8.fnScope st) .none kV doc pm an cdv ct), osl⟩) (c : PySem.W.codeIn K cdv x = true) (k : PySem.W.keepIn K (.ref f) = true) : DefF K mg x st :=
  ⟨f, _, ⟨⟨oc, od, _, kV, doc, pm, an, cdv, ct, osl, rfl, l, c⟩, PySem.W.mg_of X G a, k⟩, rfl⟩
theorem methF (a : PySem.W.findIn K (.ref C) m = some (some (.ref f))) (i : PySem.W.isFn K (.ref f) = true) (l : K.lookup f = some ⟨oc, od, .func (PySem.W.fnOf m qual (C8.fnArgs st) (C8.fnBody st) (C8.fnScope st) .none kV doc pm an cdv ct), osl⟩) (c : PySem.W.codeIn K cdv qual = true) (k : PySem.W.keepIn K (.ref f) = true) : MethF K C m qual st :=
  ⟨f, _, ⟨oc, od, _, kV, doc, pm, an, cdv, ct, osl, rfl, l, c⟩, rfl, a, i, k⟩
theorem initF (mk : PySem.W.makesIn K C = true) (a : PySem.W.findIn K (.ref C) "__init__" = some (some (.ref f))) (i : PySem.W.isFn K (.ref f) = true) (l : K.lookup f = some ⟨oc, od, .func (PySem.W.fnOf "__init__" qual (C8.fnArgs st) (C8.fnBody st) (C8.fnScope st) .none kV doc pm an cdv ct), osl⟩) (c : PySem.W.codeIn K cdv qual = true) (k : PySem.W.keepIn K (.ref C) = true) : InitF K C qual st :=
  ⟨f, _, ⟨oc, od, _, kV, doc, pm, an, cdv, ct, osl, rfl, l, c⟩, rfl, mk, a, i, k⟩
theorem int_c {t : Tok} {i : Int} (X : K.In h) (G : h.Ns mainGlobals mg) (a : PySem.W.nsIn K mainGlobals x = some (some (.int i t))) : ∃ u, mg x = some u ∧ RelV (.int i) u := ⟨_, PySem.W.mg_of X G a, t, rfl⟩
end
structure DefD (K : PySem.W.Frag) (mg : Str → Option Value) (x : Str) (st : Stmt) : Prop where
  ex : ∃ (f : Addr) (fd : FuncData), C8.Def K mg x st f fd ∧ FunD K x x (C8.fnArgs st) (C8.fnBody st) (C8.fnScope st) [V.non] [] f fd
section
variable {K : PySem.W.Frag} {h : Heap} {mg : Str → Option Value} {x : Str} {st : Stmt} {f : Addr} {oc kV doc pm cdv ct : Value} {od an : Option Addr} {osl : Array (Option Value)}
theorem defD {T n : Nat} {cT : Value} {dT : Option Addr} {slT : Array (Option Value)} (X : K.In h) (G : h.Ns mainGlobals mg) (a : PySem.W.nsIn K mainGlobals x = some (some (.ref f))) (l : K.lookup f = some ⟨oc, od, .func (PySem.W.fnOf x x (C8.fnArgs st) (C8.fnBody st) (C8.fnScope st) (.ref T) kV doc pm an cdv ct), osl⟩) (c : PySem.W.codeIn K cdv x = true) (k : PySem.W.keepIn K (.ref f) = true)
    (t : K.lookup T = some ⟨cT, dT, .seq #[Value.none] n, slT⟩) : DefD K mg x st :=
  ⟨f, _, ⟨⟨oc, od, _, kV, doc, pm, an, cdv, ct, osl, rfl, l, c⟩, PySem.W.mg_of X G a, k⟩, ⟨oc, od, _, kV, doc, pm, an, cdv, ct, osl, rfl, l, c, .inr ⟨by simp, T, _, [Value.none], n, rfl, t, rfl, .cons rfl .nil⟩, .inl rfl⟩, k⟩
end
theorem all_defs {P : Program} {w : World} {K : PySem.W.Frag} {mg : Str → Option Value} {C : Addr} (T : Txt mg) (TC : Cls K C) (TA : TabNames K C) (hm : mg "RecoveryTable" = some (.ref C)) (D__law_draw : DefF K mg "_law_draw" s__law_draw) (D__law_pot : DefF K mg "_law_pot" s__law_pot) (D__law_changed : DefF K mg "_law_changed" s__law_changed) (D__law_clashes : DefF K mg "_law_clashes" s__law_clashes) (D__law_leaves : DefF K mg "_law_leaves" s__law_leaves) (D__law_levels : DefF K mg "_law_levels" s__law_levels) (D__law_due : DefF K mg "_law_due" s__law_due) (D__law_fill : DefF K mg "_law_fill" s__law_fill) (D__law_flags : DefF K mg "_law_flags" s__law_flags) (D__law_homes : DefF K mg "_law_homes" s__law_homes) (D__law_bumped : DefF K mg "_law_bumped" s__law_bumped) (D__law_word : DefF K mg "_law_word" s__law_word) (D__law_names : DefF K mg "_law_names" s__law_names) (D__law_rate : DefF K mg "_law_rate" s__law_rate) (D__law_sizes : DefF K mg "_law_sizes" s__law_sizes) (D__law_spoilt : DefF K mg "_law_spoilt" s__law_spoilt) (D__law_target : DefF K mg "_law_target" s__law_target) (D__law_targets : DefF K mg "_law_targets" s__law_targets) (D__law_plan : DefF K mg "_law_plan" s__law_plan) (D__causes_of : DefF K mg "_causes_of" s__causes_of) (D__is_letter : DefF K mg "_is_letter" s__is_letter) (D_is_name : DefF K mg "is_name" s_is_name) (D__is_known : DefF K mg "_is_known" s__is_known) (D__homes_are_good : DefF K mg "_homes_are_good" s__homes_are_good) (D_is_integer : DefF K mg "is_integer" s_is_integer) (D_within : DefF K mg "within" s_within) (D__rates_are_good : DefF K mg "_rates_are_good" s__rates_are_good) (D__is_pair : DefF K mg "_is_pair" s__is_pair) (D__step_is_good : DefF K mg "_step_is_good" s__step_is_good) (D__steps_are_good : DefF K mg "_steps_are_good" s__steps_are_good) (D__law_table : DefF K mg "_law_table" s__law_table) (D_reach : DefF K mg "reach" s_reach) (D__looked_at : DefF K mg "_looked_at" s__looked_at) (D_carry_failures : DefD K mg "carry_failures" s_carry_failures) (D__after_both : DefF K mg "_after_both" s__after_both) (D_commute_failures : DefD K mg "commute_failures" s_commute_failures) (D_rate_failures : DefD K mg "rate_failures" s_rate_failures) (D_fewest_notes : DefF K mg "fewest_notes" s_fewest_notes) (D__law_told : DefF K mg "_law_told" s__law_told) (D_law : DefF K mg "law" s_law) (D_RecoveryTable_home : MethF K C "home" "RecoveryTable.home" s_RecoveryTable_home) (D_RecoveryTable_step : MethF K C "step" "RecoveryTable.step" s_RecoveryTable_step) (D_RecoveryTable_rate : MethF K C "rate" "RecoveryTable.rate" s_RecoveryTable_rate) (D_RecoveryTable___init__ : InitF K C "RecoveryTable.__init__" s_RecoveryTable___init__) {fa : Addr} (hfa : mg "law" = some (.ref fa)) :
    ∃ fd : FuncData, (∀ (s : Shared) (u : Value), BindsTo s fd ⟨[u], []⟩ [("script", u)]) ∧ ∀ base : Heap, K.In base → base.Ns mainGlobals mg → FnOk P w K mg base C8.CX0 9 fa fd ["script"] (sp_law K C) := by
  obtain ⟨f__law_draw, fd__law_draw, F__law_draw, df__law_draw⟩ := D__law_draw.ex
  have b__law_draw := C8.Fun.binds F__law_draw.fn df__law_draw (ps := ["pot", "size"]) fun _ _ _ _ _ _ us hl => match us, hl with | [_, _], _ => rfl
  obtain ⟨f__law_pot, fd__law_pot, F__law_pot, df__law_pot⟩ := D__law_pot.ex
  have b__law_pot := C8.Fun.binds F__law_pot.fn df__law_pot (ps := ["script", "place"]) fun _ _ _ _ _ _ us hl => match us, hl with | [_, _], _ => rfl
  obtain ⟨f__law_changed, fd__law_changed, F__law_changed, df__law_changed⟩ := D__law_changed.ex
  have b__law_changed := C8.Fun.binds F__law_changed.fn df__law_changed (ps := ["script", "plan"]) fun _ _ _ _ _ _ us hl => match us, hl with | [_, _], _ => rfl
  obtain ⟨f__law_clashes, fd__law_clashes, F__law_clashes, df__law_clashes⟩ := D__law_clashes.ex
  have b__law_clashes := C8.Fun.binds F__law_clashes.fn df__law_clashes (ps := ["plan", "status"]) fun _ _ _ _ _ _ us hl => match us, hl with | [_, _], _ => rfl
  obtain ⟨f__law_leaves, fd__law_leaves, F__law_leaves, df__law_leaves⟩ := D__law_leaves.ex
  have b__law_leaves := C8.Fun.binds F__law_leaves.fn df__law_leaves (ps := ["plan", "status"]) fun _ _ _ _ _ _ us hl => match us, hl with | [_, _], _ => rfl
  obtain ⟨f__law_levels, fd__law_levels, F__law_levels, df__law_levels⟩ := D__law_levels.ex
  have b__law_levels := C8.Fun.binds F__law_levels.fn df__law_levels (ps := ["plan"]) fun _ _ _ _ _ _ us hl => match us, hl with | [_], _ => rfl
  obtain ⟨f__law_due, fd__law_due, F__law_due, df__law_due⟩ := D__law_due.ex
  have b__law_due := C8.Fun.binds F__law_due.fn df__law_due (ps := ["plan", "word"]) fun _ _ _ _ _ _ us hl => match us, hl with | [_, _], _ => rfl
  obtain ⟨f__law_fill, fd__law_fill, F__law_fill, df__law_fill⟩ := D__law_fill.ex
  have b__law_fill := C8.Fun.binds F__law_fill.fn df__law_fill (ps := ["plan", "names", "causes", "at", "given"]) fun _ _ _ _ _ _ us hl => match us, hl with | [_, _, _, _, _], _ => rfl
  obtain ⟨f__law_flags, fd__law_flags, F__law_flags, df__law_flags⟩ := D__law_flags.ex
  have b__law_flags := C8.Fun.binds F__law_flags.fn df__law_flags (ps := ["pot", "many", "kinds"]) fun _ _ _ _ _ _ us hl => match us, hl with | [_, _, _], _ => rfl
  obtain ⟨f__law_homes, fd__law_homes, F__law_homes, df__law_homes⟩ := D__law_homes.ex
  have b__law_homes := C8.Fun.binds F__law_homes.fn df__law_homes (ps := ["pot", "many", "columns"]) fun _ _ _ _ _ _ us hl => match us, hl with | [_, _, _], _ => rfl
  obtain ⟨f__law_bumped, fd__law_bumped, F__law_bumped, df__law_bumped⟩ := D__law_bumped.ex
  have b__law_bumped := C8.Fun.binds F__law_bumped.fn df__law_bumped (ps := ["word", "names"]) fun _ _ _ _ _ _ us hl => match us, hl with | [_, _], _ => rfl
  obtain ⟨f__law_word, fd__law_word, F__law_word, df__law_word⟩ := D__law_word.ex
  have b__law_word := C8.Fun.binds F__law_word.fn df__law_word (ps := ["pot", "size"]) fun _ _ _ _ _ _ us hl => match us, hl with | [_, _], _ => rfl
  obtain ⟨f__law_names, fd__law_names, F__law_names, df__law_names⟩ := D__law_names.ex
  have b__law_names := C8.Fun.binds F__law_names.fn df__law_names (ps := ["pot", "count"]) fun _ _ _ _ _ _ us hl => match us, hl with | [_, _], _ => rfl
  obtain ⟨f__law_rate, fd__law_rate, F__law_rate, df__law_rate⟩ := D__law_rate.ex
  have b__law_rate := C8.Fun.binds F__law_rate.fn df__law_rate (ps := ["pot", "least"]) fun _ _ _ _ _ _ us hl => match us, hl with | [_, _], _ => rfl
  obtain ⟨f__law_sizes, fd__law_sizes, F__law_sizes, df__law_sizes⟩ := D__law_sizes.ex
  have b__law_sizes := C8.Fun.binds F__law_sizes.fn df__law_sizes (ps := ["pot"]) fun _ _ _ _ _ _ us hl => match us, hl with | [_], _ => rfl
  obtain ⟨f__law_spoilt, fd__law_spoilt, F__law_spoilt, df__law_spoilt⟩ := D__law_spoilt.ex
  have b__law_spoilt := C8.Fun.binds F__law_spoilt.fn df__law_spoilt (ps := ["pot", "core", "rows", "flags", "homes", "rates"]) fun _ _ _ _ _ _ us hl => match us, hl with | [_, _, _, _, _, _], _ => rfl
  obtain ⟨f__law_target, fd__law_target, F__law_target, df__law_target⟩ := D__law_target.ex
  have b__law_target := C8.Fun.binds F__law_target.fn df__law_target (ps := ["pot", "style", "sizes", "at", "shift"]) fun _ _ _ _ _ _ us hl => match us, hl with | [_, _, _, _, _], _ => rfl
  obtain ⟨f__law_targets, fd__law_targets, F__law_targets, df__law_targets⟩ := D__law_targets.ex
  have b__law_targets := C8.Fun.binds F__law_targets.fn df__law_targets (ps := ["pot", "many", "kinds"]) fun _ _ _ _ _ _ us hl => match us, hl with | [_, _, _], _ => rfl
  obtain ⟨f__law_plan, fd__law_plan, F__law_plan, df__law_plan⟩ := D__law_plan.ex
  have b__law_plan := C8.Fun.binds F__law_plan.fn df__law_plan (ps := ["script"]) fun _ _ _ _ _ _ us hl => match us, hl with | [_], _ => rfl
  obtain ⟨f__causes_of, fd__causes_of, F__causes_of, df__causes_of⟩ := D__causes_of.ex
  have b__causes_of := C8.Fun.binds F__causes_of.fn df__causes_of (ps := ["steps"]) fun _ _ _ _ _ _ us hl => match us, hl with | [_], _ => rfl
  obtain ⟨f__is_letter, fd__is_letter, F__is_letter, df__is_letter⟩ := D__is_letter.ex
  have b__is_letter := C8.Fun.binds F__is_letter.fn df__is_letter (ps := ["sign"]) fun _ _ _ _ _ _ us hl => match us, hl with | [_], _ => rfl
  obtain ⟨f_is_name, fd_is_name, F_is_name, df_is_name⟩ := D_is_name.ex
  have b_is_name := C8.Fun.binds F_is_name.fn df_is_name (ps := ["value"]) fun _ _ _ _ _ _ us hl => match us, hl with | [_], _ => rfl
  obtain ⟨f__is_known, fd__is_known, F__is_known, df__is_known⟩ := D__is_known.ex
  have b__is_known := C8.Fun.binds F__is_known.fn df__is_known (ps := ["value", "table"]) fun _ _ _ _ _ _ us hl => match us, hl with | [_, _], _ => rfl
  obtain ⟨f__homes_are_good, fd__homes_are_good, F__homes_are_good, df__homes_are_good⟩ := D__homes_are_good.ex
  have b__homes_are_good := C8.Fun.binds F__homes_are_good.fn df__homes_are_good (ps := ["homes", "rates"]) fun _ _ _ _ _ _ us hl => match us, hl with | [_, _], _ => rfl
  obtain ⟨f_is_integer, fd_is_integer, F_is_integer, df_is_integer⟩ := D_is_integer.ex
  have b_is_integer := C8.Fun.binds F_is_integer.fn df_is_integer (ps := ["value"]) fun _ _ _ _ _ _ us hl => match us, hl with | [_], _ => rfl
  obtain ⟨f_within, fd_within, F_within, df_within⟩ := D_within.ex
  have b_within := C8.Fun.binds F_within.fn df_within (ps := ["value", "low", "high"]) fun _ _ _ _ _ _ us hl => match us, hl with | [_, _, _], _ => rfl
  obtain ⟨f__rates_are_good, fd__rates_are_good, F__rates_are_good, df__rates_are_good⟩ := D__rates_are_good.ex
  have b__rates_are_good := C8.Fun.binds F__rates_are_good.fn df__rates_are_good (ps := ["rates"]) fun _ _ _ _ _ _ us hl => match us, hl with | [_], _ => rfl
  obtain ⟨f__is_pair, fd__is_pair, F__is_pair, df__is_pair⟩ := D__is_pair.ex
  have b__is_pair := C8.Fun.binds F__is_pair.fn df__is_pair (ps := ["value"]) fun _ _ _ _ _ _ us hl => match us, hl with | [_], _ => rfl
  obtain ⟨f__step_is_good, fd__step_is_good, F__step_is_good, df__step_is_good⟩ := D__step_is_good.ex
  have b__step_is_good := C8.Fun.binds F__step_is_good.fn df__step_is_good (ps := ["pair", "step", "homes"]) fun _ _ _ _ _ _ us hl => match us, hl with | [_, _, _], _ => rfl
  obtain ⟨f__steps_are_good, fd__steps_are_good, F__steps_are_good, df__steps_are_good⟩ := D__steps_are_good.ex
  have b__steps_are_good := C8.Fun.binds F__steps_are_good.fn df__steps_are_good (ps := ["steps", "homes"]) fun _ _ _ _ _ _ us hl => match us, hl with | [_, _], _ => rfl
  obtain ⟨f_RecoveryTable___init__, fd_RecoveryTable___init__, F_RecoveryTable___init__, df_RecoveryTable___init__, M_RecoveryTable___init__⟩ := D_RecoveryTable___init__.ex
  have b_RecoveryTable___init__ := C8.Fun.binds F_RecoveryTable___init__ df_RecoveryTable___init__ (ps := ["self", "start", "homes", "rates", "steps"]) fun _ _ _ _ _ _ us hl => match us, hl with | [_, _, _, _, _], _ => rfl
  obtain ⟨f__law_table, fd__law_table, F__law_table, df__law_table⟩ := D__law_table.ex
  have b__law_table := C8.Fun.binds F__law_table.fn df__law_table (ps := ["plan"]) fun _ _ _ _ _ _ us hl => match us, hl with | [_], _ => rfl
  obtain ⟨f_RecoveryTable_home, fd_RecoveryTable_home, F_RecoveryTable_home, df_RecoveryTable_home, M_RecoveryTable_home⟩ := D_RecoveryTable_home.ex
  have b_RecoveryTable_home := C8.Fun.binds F_RecoveryTable_home df_RecoveryTable_home (ps := ["self", "status"]) fun _ _ _ _ _ _ us hl => match us, hl with | [_, _], _ => rfl
  obtain ⟨f_RecoveryTable_step, fd_RecoveryTable_step, F_RecoveryTable_step, df_RecoveryTable_step, M_RecoveryTable_step⟩ := D_RecoveryTable_step.ex
  have b_RecoveryTable_step := C8.Fun.binds F_RecoveryTable_step df_RecoveryTable_step (ps := ["self", "status", "cause"]) fun _ _ _ _ _ _ us hl => match us, hl with | [_, _, _], _ => rfl
  obtain ⟨f_reach, fd_reach, F_reach, df_reach⟩ := D_reach.ex
  have b_reach := C8.Fun.binds F_reach.fn df_reach (ps := ["table"]) fun _ _ _ _ _ _ us hl => match us, hl with | [_], _ => rfl
  obtain ⟨f__looked_at, fd__looked_at, F__looked_at, df__looked_at⟩ := D__looked_at.ex
  have b__looked_at := C8.Fun.binds F__looked_at.fn df__looked_at (ps := ["table", "statuses"]) fun _ _ _ _ _ _ us hl => match us, hl with | [_, _], _ => rfl
  obtain ⟨f_carry_failures, fd_carry_failures, F_carry_failures, df_carry_failures⟩ := D_carry_failures.ex
  obtain ⟨ds_carry_failures, vs_carry_failures, b_carry_failures⟩ := FunD.binds1 df_carry_failures (ps := ["table", "statuses"]) 1 0 (by simp) rfl fun _ _ _ _ _ _ _ us its hu hi => match us, its, hu, hi with | [_], [_], _, _ => ⟨_, rfl, rfl⟩
  obtain ⟨w_carry_failures, e_carry_failures, r_carry_failures⟩ := vals1 vs_carry_failures
  have r_carry_failures : w_carry_failures = Value.none := r_carry_failures
  subst r_carry_failures e_carry_failures
  obtain ⟨f__after_both, fd__after_both, F__after_both, df__after_both⟩ := D__after_both.ex
  have b__after_both := C8.Fun.binds F__after_both.fn df__after_both (ps := ["table", "status", "one", "two"]) fun _ _ _ _ _ _ us hl => match us, hl with | [_, _, _, _], _ => rfl
  obtain ⟨f_commute_failures, fd_commute_failures, F_commute_failures, df_commute_failures⟩ := D_commute_failures.ex
  obtain ⟨ds_commute_failures, vs_commute_failures, b_commute_failures⟩ := FunD.binds1 df_commute_failures (ps := ["table", "statuses"]) 1 0 (by simp) rfl fun _ _ _ _ _ _ _ us its hu hi => match us, its, hu, hi with | [_], [_], _, _ => ⟨_, rfl, rfl⟩
  obtain ⟨w_commute_failures, e_commute_failures, r_commute_failures⟩ := vals1 vs_commute_failures
  have r_commute_failures : w_commute_failures = Value.none := r_commute_failures
  subst r_commute_failures e_commute_failures
  obtain ⟨f_RecoveryTable_rate, fd_RecoveryTable_rate, F_RecoveryTable_rate, df_RecoveryTable_rate, M_RecoveryTable_rate⟩ := D_RecoveryTable_rate.ex
  have b_RecoveryTable_rate := C8.Fun.binds F_RecoveryTable_rate df_RecoveryTable_rate (ps := ["self", "column"]) fun _ _ _ _ _ _ us hl => match us, hl with | [_, _], _ => rfl
  obtain ⟨f_rate_failures, fd_rate_failures, F_rate_failures, df_rate_failures⟩ := D_rate_failures.ex
  obtain ⟨ds_rate_failures, vs_rate_failures, b_rate_failures⟩ := FunD.binds1 df_rate_failures (ps := ["table", "statuses"]) 1 0 (by simp) rfl fun _ _ _ _ _ _ _ us its hu hi => match us, its, hu, hi with | [_], [_], _, _ => ⟨_, rfl, rfl⟩
  obtain ⟨w_rate_failures, e_rate_failures, r_rate_failures⟩ := vals1 vs_rate_failures
  have r_rate_failures : w_rate_failures = Value.none := r_rate_failures
  subst r_rate_failures e_rate_failures
  obtain ⟨f_fewest_notes, fd_fewest_notes, F_fewest_notes, df_fewest_notes⟩ := D_fewest_notes.ex
  have b_fewest_notes := C8.Fun.binds F_fewest_notes.fn df_fewest_notes (ps := ["table", "over"]) fun _ _ _ _ _ _ us hl => match us, hl with | [_, _], _ => rfl
  obtain ⟨f__law_told, fd__law_told, F__law_told, df__law_told⟩ := D__law_told.ex
  have b__law_told := C8.Fun.binds F__law_told.fn df__law_told (ps := ["table", "word", "due"]) fun _ _ _ _ _ _ us hl => match us, hl with | [_, _, _], _ => rfl
  obtain ⟨f_law, fd_law, F_law, df_law⟩ := D_law.ex
  have b_law := C8.Fun.binds F_law.fn df_law (ps := ["script"]) fun _ _ _ _ _ _ us hl => match us, hl with | [_], _ => rfl
  have e := hfa.symm.trans F_law.mgf
  cases e
  refine ⟨fd_law, fun s u => ?_, fun base _ _ => ?_⟩
  · obtain ⟨oc, od, dV, kV, doc, pm, an, cdv, ct, osl, rfl, lk, hcd⟩ := F_law.fn.ex
    have e : dV = .none := df_law
    subst e
    exact .of_eq rfl
  have k__law_draw := ok_law_draw (P := P) (w := w) (base := base) T F__law_draw b__law_draw 
  have k__law_pot := ok_law_pot (P := P) (w := w) (base := base) T F__law_pot b__law_pot 
  have k__law_changed := ok_law_changed (P := P) (w := w) (base := base) T TC TA F__law_changed b__law_changed k__law_draw k__law_pot
  have k__law_clashes := ok_law_clashes (P := P) (w := w) (base := base) T F__law_clashes b__law_clashes 
  have k__law_leaves := ok_law_leaves (P := P) (w := w) (base := base) T F__law_leaves b__law_leaves 
  have k__law_levels := ok_law_levels (P := P) (w := w) (base := base) T F__law_levels b__law_levels 
  have k__law_due := ok_law_due (P := P) (w := w) (base := base) T TC TA F__law_due b__law_due k__law_clashes k__law_leaves k__law_levels
  have k__law_fill := ok_law_fill (P := P) (w := w) (base := base) T F__law_fill b__law_fill 
  have k__law_flags := ok_law_flags (P := P) (w := w) (base := base) T TC TA F__law_flags b__law_flags k__law_draw
  have k__law_homes := ok_law_homes (P := P) (w := w) (base := base) T TC TA F__law_homes b__law_homes k__law_draw
  have k__law_bumped := ok_law_bumped (P := P) (w := w) (base := base) T F__law_bumped b__law_bumped 
  have k__law_word := ok_law_word (P := P) (w := w) (base := base) T TC TA F__law_word b__law_word k__law_draw
  have k__law_names := ok_law_names (P := P) (w := w) (base := base) T TC TA F__law_names b__law_names k__law_bumped k__law_draw k__law_word
  have k__law_rate := ok_law_rate (P := P) (w := w) (base := base) T TC TA F__law_rate b__law_rate k__law_draw
  have k__law_sizes := ok_law_sizes (P := P) (w := w) (base := base) T TC TA F__law_sizes b__law_sizes k__law_draw
  have k__law_spoilt := ok_law_spoilt (P := P) (w := w) (base := base) T TC TA F__law_spoilt b__law_spoilt k__law_draw
  have k__law_target := ok_law_target (P := P) (w := w) (base := base) T TC TA F__law_target b__law_target k__law_draw
  have k__law_targets := ok_law_targets (P := P) (w := w) (base := base) T TC TA F__law_targets b__law_targets k__law_draw k__law_target
  have k__law_plan := ok_law_plan (P := P) (w := w) (base := base) T TC TA F__law_plan b__law_plan k__law_draw k__law_fill k__law_flags k__law_homes k__law_names k__law_pot k__law_rate k__law_sizes k__law_spoilt k__law_targets
  have k__causes_of := ok_causes_of (P := P) (w := w) (base := base) T F__causes_of b__causes_of 
  have k__is_letter := ok_is_letter (P := P) (w := w) (base := base) T F__is_letter b__is_letter 
  have k_is_name := ok_is_name (P := P) (w := w) (base := base) T TC TA F_is_name b_is_name k__is_letter
  have k__is_known := ok_is_known (P := P) (w := w) (base := base) T TC TA F__is_known b__is_known k_is_name
  have k__homes_are_good := ok_homes_are_good (P := P) (w := w) (base := base) T TC TA F__homes_are_good b__homes_are_good k__is_known k_is_name
  have k_is_integer := ok_is_integer (P := P) (w := w) (base := base) T F_is_integer b_is_integer 
  have k_within := ok_within (P := P) (w := w) (base := base) T TC TA F_within b_within k_is_integer
  have k__rates_are_good := ok_rates_are_good (P := P) (w := w) (base := base) T TC TA F__rates_are_good b__rates_are_good k_is_name k_within
  have k__is_pair := ok_is_pair (P := P) (w := w) (base := base) T F__is_pair b__is_pair 
  have k__step_is_good := ok_step_is_good (P := P) (w := w) (base := base) T TC TA F__step_is_good b__step_is_good k__is_known k__is_pair k_is_name
  have k__steps_are_good := ok_steps_are_good (P := P) (w := w) (base := base) T TC TA F__steps_are_good b__steps_are_good k__causes_of k__step_is_good
  have k_RecoveryTable___init__ := ok_RecoveryTable___init__ (P := P) (w := w) (base := base) T TC TA M_RecoveryTable___init__ hm F_RecoveryTable___init__ b_RecoveryTable___init__ k__causes_of k__homes_are_good k__is_known k__rates_are_good k__steps_are_good
  have k__law_table := ok_law_table (P := P) (w := w) (base := base) T TC TA F__law_table b__law_table k_RecoveryTable___init__
  have k_RecoveryTable_home := ok_RecoveryTable_home (P := P) (w := w) (base := base) T TC TA M_RecoveryTable_home F_RecoveryTable_home b_RecoveryTable_home 
  have k_RecoveryTable_step := ok_RecoveryTable_step (P := P) (w := w) (base := base) T TC TA M_RecoveryTable_step F_RecoveryTable_step b_RecoveryTable_step 
  have k_reach := ok_reach (P := P) (w := w) (base := base) T TC TA F_reach b_reach k_RecoveryTable_step
  have k__looked_at := ok_looked_at (P := P) (w := w) (base := base) T TC TA F__looked_at b__looked_at k_reach
  have k_carry_failures := ok_carry_failures (P := P) (w := w) (base := base) T TC TA F_carry_failures b_carry_failures k_RecoveryTable_home k_RecoveryTable_step k__looked_at
  have k__after_both := ok_after_both (P := P) (w := w) (base := base) T TC TA F__after_both b__after_both k_RecoveryTable_step
  have k_commute_failures := ok_commute_failures (P := P) (w := w) (base := base) T TC TA F_commute_failures b_commute_failures k__after_both k__looked_at
  have k_RecoveryTable_rate := ok_RecoveryTable_rate (P := P) (w := w) (base := base) T TC TA M_RecoveryTable_rate F_RecoveryTable_rate b_RecoveryTable_rate 
  have k_rate_failures := ok_rate_failures (P := P) (w := w) (base := base) T TC TA F_rate_failures b_rate_failures k_RecoveryTable_home k_RecoveryTable_rate k__looked_at
  have k_fewest_notes := ok_fewest_notes (P := P) (w := w) (base := base) T TC TA F_fewest_notes b_fewest_notes k_carry_failures k_commute_failures k_rate_failures k_reach
  have k__law_told := ok_law_told (P := P) (w := w) (base := base) T TC TA F__law_told b__law_told k_fewest_notes
  exact fn_law T TC TA F_law k__law_changed k__law_draw k__law_due k__law_plan k__law_pot k__law_table k__law_told
theorem all_end {P : Program} {w : World} {K : PySem.W.Frag} {h : Heap} {mg : Str → Option Value} {C : Addr} (X : K.In h) (G : h.Ns mainGlobals mg) (aC : PySem.W.nsIn K mainGlobals "RecoveryTable" = some (some (.ref C))) (T : Txt mg) (TC : Cls K C) (TA : TabNames K C) (D__law_draw : DefF K mg "_law_draw" s__law_draw) (D__law_pot : DefF K mg "_law_pot" s__law_pot) (D__law_changed : DefF K mg "_law_changed" s__law_changed) (D__law_clashes : DefF K mg "_law_clashes" s__law_clashes) (D__law_leaves : DefF K mg "_law_leaves" s__law_leaves) (D__law_levels : DefF K mg "_law_levels" s__law_levels) (D__law_due : DefF K mg "_law_due" s__law_due) (D__law_fill : DefF K mg "_law_fill" s__law_fill) (D__law_flags : DefF K mg "_law_flags" s__law_flags) (D__law_homes : DefF K mg "_law_homes" s__law_homes) (D__law_bumped : DefF K mg "_law_bumped" s__law_bumped) (D__law_word : DefF K mg "_law_word" s__law_word) (D__law_names : DefF K mg "_law_names" s__law_names) (D__law_rate : DefF K mg "_law_rate" s__law_rate) (D__law_sizes : DefF K mg "_law_sizes" s__law_sizes) (D__law_spoilt : DefF K mg "_law_spoilt" s__law_spoilt) (D__law_target : DefF K mg "_law_target" s__law_target) (D__law_targets : DefF K mg "_law_targets" s__law_targets) (D__law_plan : DefF K mg "_law_plan" s__law_plan) (D__causes_of : DefF K mg "_causes_of" s__causes_of) (D__is_letter : DefF K mg "_is_letter" s__is_letter) (D_is_name : DefF K mg "is_name" s_is_name) (D__is_known : DefF K mg "_is_known" s__is_known) (D__homes_are_good : DefF K mg "_homes_are_good" s__homes_are_good) (D_is_integer : DefF K mg "is_integer" s_is_integer) (D_within : DefF K mg "within" s_within) (D__rates_are_good : DefF K mg "_rates_are_good" s__rates_are_good) (D__is_pair : DefF K mg "_is_pair" s__is_pair) (D__step_is_good : DefF K mg "_step_is_good" s__step_is_good) (D__steps_are_good : DefF K mg "_steps_are_good" s__steps_are_good) (D__law_table : DefF K mg "_law_table" s__law_table) (D_reach : DefF K mg "reach" s_reach) (D__looked_at : DefF K mg "_looked_at" s__looked_at) (D_carry_failures : DefD K mg "carry_failures" s_carry_failures) (D__after_both : DefF K mg "_after_both" s__after_both) (D_commute_failures : DefD K mg "commute_failures" s_commute_failures) (D_rate_failures : DefD K mg "rate_failures" s_rate_failures) (D_fewest_notes : DefF K mg "fewest_notes" s_fewest_notes) (D__law_told : DefF K mg "_law_told" s__law_told) (D_law : DefF K mg "law" s_law) (D_RecoveryTable_home : MethF K C "home" "RecoveryTable.home" s_RecoveryTable_home) (D_RecoveryTable_step : MethF K C "step" "RecoveryTable.step" s_RecoveryTable_step) (D_RecoveryTable_rate : MethF K C "rate" "RecoveryTable.rate" s_RecoveryTable_rate) (D_RecoveryTable___init__ : InitF K C "RecoveryTable.__init__" s_RecoveryTable___init__) {fa : Addr} (hfa : mg "law" = some (.ref fa)) :
    ∃ fd : FuncData, (∀ (s : Shared) (u : Value), BindsTo s fd ⟨[u], []⟩ [("script", u)]) ∧ ∀ base : Heap, K.In base → base.Ns mainGlobals mg → FnOk P w K mg base C8.CX0 9 fa fd ["script"] (sp_law K C) :=
  all_defs T TC TA (PySem.W.mg_of X G aC) D__law_draw D__law_pot D__law_changed D__law_clashes D__law_leaves D__law_levels D__law_due D__law_fill D__law_flags D__law_homes D__law_bumped D__law_word D__law_names D__law_rate D__law_sizes D__law_spoilt D__law_target D__law_targets D__law_plan D__causes_of D__is_letter D_is_name D__is_known D__homes_are_good D_is_integer D_within D__rates_are_good D__is_pair D__step_is_good D__steps_are_good D__law_table D_reach D__looked_at D_carry_failures D__after_both D_commute_failures D_rate_failures D_fewest_notes D__law_told D_law D_RecoveryTable_home D_RecoveryTable_step D_RecoveryTable_rate D_RecoveryTable___init__ hfa
theorem walk {l : PySem.W.OpenLaw} {q : Program} {loose : List Str} {XP : (Str → Option Value) → Heap → Prop} {YP : World → Heap → Prop} {d : DefRec} {K : Params → PySem.W.Frag} {C : Addr} (hn : l.most = some 63) (hdf : d.params.defaults = [])
    (hY : ∀ (w : World) (h : Heap), YP w h → (K w.params).In h)
    (F : ∀ (w : World) (mg : Str → Option Value) (fa : Addr) (h : Heap), (K w.params).In h → h.Ns mainGlobals mg → mg d.name = some (.ref fa) →
      ∃ fd : FuncData, (∀ (s : Shared) (u : Value), BindsTo s fd ⟨[u], []⟩ [("script", u)]) ∧ ∀ base : Heap, (K w.params).In base → base.Ns mainGlobals mg → FnOk l.prog w (K w.params) mg base C8.CX0 9 fa fd ["script"] (sp_law (K w.params) C)) :
    PySem.W.WalkO q loose XP YP l.row.toRowW d [] (fun f vs => PySem.call f vs) :=
  L2.walk_of (n := 63) (k := 9) (x := "script") (CX := fun _ => C8.CX0) (sp := fun w => sp_law (K w.params) C) hn (by decide) hdf ⟨rfl, by decide, by decide⟩ hY F (fun _ _ a ns hl _ hS => ⟨a, ns, rfl, hS, hl, fun _ => rfl⟩) fun _ _ _ _ _ z => z

end Lk35

open PySem PySem.W PyProof.Rows in
set_option maxRecDepth 100000 in
set_option maxHeartbeats 0 in
theorem PySem.Challenge.cw_hearthdue_k35_fewest_notes_holds : PySem.Challenge.rw_hearthdue_k35_fewest_notes.Holds := by
  w_on; o_law; k_head; (case hw => w_witness2)
  k_fill
  refine' Lk35.walk (l := PySem.Challenge.rw_hearthdue_k35_fewest_notes) rfl rfl (fun w h Y => PySem.W.kIn_of Y) ?F
  case F =>
    intro w mg fa h KX G hmg
    refine' Lk35.all_end KX G ?aC ?T ?TC ?TA ?d__law_draw ?d__law_pot ?d__law_changed ?d__law_clashes ?d__law_leaves ?d__law_levels ?d__law_due ?d__law_fill ?d__law_flags ?d__law_homes ?d__law_bumped ?d__law_word ?d__law_names ?d__law_rate ?d__law_sizes ?d__law_spoilt ?d__law_target ?d__law_targets ?d__law_plan ?d__causes_of ?d__is_letter ?d_is_name ?d__is_known ?d__homes_are_good ?d_is_integer ?d_within ?d__rates_are_good ?d__is_pair ?d__step_is_good ?d__steps_are_good ?d__law_table ?d_reach ?d__looked_at ?d_carry_failures ?d__after_both ?d_commute_failures ?d_rate_failures ?d_fewest_notes ?d__law_told ?d_law ?d_RecoveryTable_home ?d_RecoveryTable_step ?d_RecoveryTable_rate ?d_RecoveryTable___init__ hmg
    (case aC => k_is)
    case T =>
      refine' ⟨PySem.W.mg_none_of KX G ?n_len, PySem.W.mg_none_of KX G ?n_int, PySem.W.mg_none_of KX G ?n_sum, PySem.W.mg_none_of KX G ?n_range, PySem.W.mg_none_of KX G ?n_isinstance, PySem.W.mg_none_of KX G ?n_bool, PySem.W.mg_none_of KX G ?n_str, PySem.W.mg_none_of KX G ?n_list, PySem.W.mg_none_of KX G ?n_tuple, PySem.W.mg_none_of KX G ?n_dict, PySem.W.mg_none_of KX G ?n_all, PySem.W.mg_none_of KX G ?n_sorted, PySem.W.mg_none_of KX G ?n_max, PySem.W.mg_none_of KX G ?n_min, PySem.W.mg_none_of KX G ?n_enumerate, Lk35.int_c KX G ?c_MOST_COLUMNS, Lk35.int_c KX G ?c_MOST_STATUSES, Lk35.int_c KX G ?c_MOST_CAUSES, Lk35.int_c KX G ?c_MOST_RATE⟩
      (case n_len => k_is)
      (case n_int => k_is)
      (case n_sum => k_is)
      (case n_range => k_is)
      (case n_isinstance => k_is)
      (case n_bool => k_is)
      (case n_str => k_is)
      (case n_list => k_is)
      (case n_tuple => k_is)
      (case n_dict => k_is)
      (case n_all => k_is)
      (case n_sorted => k_is)
      (case n_max => k_is)
      (case n_min => k_is)
      (case n_enumerate => k_is)
      (case c_MOST_COLUMNS => k_is)
      (case c_MOST_STATUSES => k_is)
      (case c_MOST_CAUSES => k_is)
      (case c_MOST_RATE => k_is)
    case TC =>
      refine' ⟨?pg, ?hd, ?po, ?sa⟩
      (case pg => k_is)
      (case hd => k_is)
      (case po => k_is)
      (case sa => k_is)
    case TA =>
      refine' ⟨?x_start, ?x_statuses, ?x_causes, ?x_columns, ?x_homes, ?x_rates, ?x_steps⟩
      (case x_start => (show PySem.W.findIn _ _ _ = _); k_is)
      (case x_statuses => (show PySem.W.findIn _ _ _ = _); k_is)
      (case x_causes => (show PySem.W.findIn _ _ _ = _); k_is)
      (case x_columns => (show PySem.W.findIn _ _ _ = _); k_is)
      (case x_homes => (show PySem.W.findIn _ _ _ = _); k_is)
      (case x_rates => (show PySem.W.findIn _ _ _ = _); k_is)
      (case x_steps => (show PySem.W.findIn _ _ _ = _); k_is)
    case d__law_draw =>
      refine' Lk35.defF KX G ?a ?l ?c ?k
      (case a => k_is)
      (case l => k_is)
      (case c => k_is)
      (case k => k_is)
    case d__law_pot =>
      refine' Lk35.defF KX G ?a ?l ?c ?k
      (case a => k_is)
      (case l => k_is)
      (case c => k_is)
      (case k => k_is)
    case d__law_changed =>
      refine' Lk35.defF KX G ?a ?l ?c ?k
      (case a => k_is)
      (case l => k_is)
      (case c => k_is)
      (case k => k_is)
    case d__law_clashes =>
      refine' Lk35.defF KX G ?a ?l ?c ?k
      (case a => k_is)
      (case l => k_is)
      (case c => k_is)
      (case k => k_is)
    case d__law_leaves =>
      refine' Lk35.defF KX G ?a ?l ?c ?k
      (case a => k_is)
      (case l => k_is)
      (case c => k_is)
      (case k => k_is)
    case d__law_levels =>
      refine' Lk35.defF KX G ?a ?l ?c ?k
      (case a => k_is)
      (case l => k_is)
      (case c => k_is)
      (case k => k_is)
    case d__law_due =>
      refine' Lk35.defF KX G ?a ?l ?c ?k
      (case a => k_is)
      (case l => k_is)
      (case c => k_is)
      (case k => k_is)
    case d__law_fill =>
      refine' Lk35.defF KX G ?a ?l ?c ?k
      (case a => k_is)
      (case l => k_is)
      (case c => k_is)
      (case k => k_is)
    case d__law_flags =>
      refine' Lk35.defF KX G ?a ?l ?c ?k
      (case a => k_is)
      (case l => k_is)
      (case c => k_is)
      (case k => k_is)
    case d__law_homes =>
      refine' Lk35.defF KX G ?a ?l ?c ?k
      (case a => k_is)
      (case l => k_is)
      (case c => k_is)
      (case k => k_is)
    case d__law_bumped =>
      refine' Lk35.defF KX G ?a ?l ?c ?k
      (case a => k_is)
      (case l => k_is)
      (case c => k_is)
      (case k => k_is)
    case d__law_word =>
      refine' Lk35.defF KX G ?a ?l ?c ?k
      (case a => k_is)
      (case l => k_is)
      (case c => k_is)
      (case k => k_is)
    case d__law_names =>
      refine' Lk35.defF KX G ?a ?l ?c ?k
      (case a => k_is)
      (case l => k_is)
      (case c => k_is)
      (case k => k_is)
    case d__law_rate =>
      refine' Lk35.defF KX G ?a ?l ?c ?k
      (case a => k_is)
      (case l => k_is)
      (case c => k_is)
      (case k => k_is)
    case d__law_sizes =>
      refine' Lk35.defF KX G ?a ?l ?c ?k
      (case a => k_is)
      (case l => k_is)
      (case c => k_is)
      (case k => k_is)
    case d__law_spoilt =>
      refine' Lk35.defF KX G ?a ?l ?c ?k
      (case a => k_is)
      (case l => k_is)
      (case c => k_is)
      (case k => k_is)
    case d__law_target =>
      refine' Lk35.defF KX G ?a ?l ?c ?k
      (case a => k_is)
      (case l => k_is)
      (case c => k_is)
      (case k => k_is)
    case d__law_targets =>
      refine' Lk35.defF KX G ?a ?l ?c ?k
      (case a => k_is)
      (case l => k_is)
      (case c => k_is)
      (case k => k_is)
    case d__law_plan =>
      refine' Lk35.defF KX G ?a ?l ?c ?k
      (case a => k_is)
      (case l => k_is)
      (case c => k_is)
      (case k => k_is)
    case d__causes_of =>
      refine' Lk35.defF KX G ?a ?l ?c ?k
      (case a => k_is)
      (case l => k_is)
      (case c => k_is)
      (case k => k_is)
    case d__is_letter =>
      refine' Lk35.defF KX G ?a ?l ?c ?k
      (case a => k_is)
      (case l => k_is)
      (case c => k_is)
      (case k => k_is)
    case d_is_name =>
      refine' Lk35.defF KX G ?a ?l ?c ?k
      (case a => k_is)
      (case l => k_is)
      (case c => k_is)
      (case k => k_is)
    case d__is_known =>
      refine' Lk35.defF KX G ?a ?l ?c ?k
      (case a => k_is)
      (case l => k_is)
      (case c => k_is)
      (case k => k_is)
    case d__homes_are_good =>
      refine' Lk35.defF KX G ?a ?l ?c ?k
      (case a => k_is)
      (case l => k_is)
      (case c => k_is)
      (case k => k_is)
    case d_is_integer =>
      refine' Lk35.defF KX G ?a ?l ?c ?k
      (case a => k_is)
      (case l => k_is)
      (case c => k_is)
      (case k => k_is)
    case d_within =>
      refine' Lk35.defF KX G ?a ?l ?c ?k
      (case a => k_is)
      (case l => k_is)
      (case c => k_is)
      (case k => k_is)
    case d__rates_are_good =>
      refine' Lk35.defF KX G ?a ?l ?c ?k
      (case a => k_is)
      (case l => k_is)
      (case c => k_is)
      (case k => k_is)
    case d__is_pair =>
      refine' Lk35.defF KX G ?a ?l ?c ?k
      (case a => k_is)
      (case l => k_is)
      (case c => k_is)
      (case k => k_is)
    case d__step_is_good =>
      refine' Lk35.defF KX G ?a ?l ?c ?k
      (case a => k_is)
      (case l => k_is)
      (case c => k_is)
      (case k => k_is)
    case d__steps_are_good =>
      refine' Lk35.defF KX G ?a ?l ?c ?k
      (case a => k_is)
      (case l => k_is)
      (case c => k_is)
      (case k => k_is)
    case d__law_table =>
      refine' Lk35.defF KX G ?a ?l ?c ?k
      (case a => k_is)
      (case l => k_is)
      (case c => k_is)
      (case k => k_is)
    case d_reach =>
      refine' Lk35.defF KX G ?a ?l ?c ?k
      (case a => k_is)
      (case l => k_is)
      (case c => k_is)
      (case k => k_is)
    case d__looked_at =>
      refine' Lk35.defF KX G ?a ?l ?c ?k
      (case a => k_is)
      (case l => k_is)
      (case c => k_is)
      (case k => k_is)
    case d_carry_failures =>
      refine' Lk35.defD KX G ?a ?l ?c ?k ?t
      (case a => k_is)
      (case l => k_is)
      (case c => k_is)
      (case k => k_is)
      (case t => k_is)
    case d__after_both =>
      refine' Lk35.defF KX G ?a ?l ?c ?k
      (case a => k_is)
      (case l => k_is)
      (case c => k_is)
      (case k => k_is)
    case d_commute_failures =>
      refine' Lk35.defD KX G ?a ?l ?c ?k ?t
      (case a => k_is)
      (case l => k_is)
      (case c => k_is)
      (case k => k_is)
      (case t => k_is)
    case d_rate_failures =>
      refine' Lk35.defD KX G ?a ?l ?c ?k ?t
      (case a => k_is)
      (case l => k_is)
      (case c => k_is)
      (case k => k_is)
      (case t => k_is)
    case d_fewest_notes =>
      refine' Lk35.defF KX G ?a ?l ?c ?k
      (case a => k_is)
      (case l => k_is)
      (case c => k_is)
      (case k => k_is)
    case d__law_told =>
      refine' Lk35.defF KX G ?a ?l ?c ?k
      (case a => k_is)
      (case l => k_is)
      (case c => k_is)
      (case k => k_is)
    case d_law =>
      refine' Lk35.defF KX G ?a ?l ?c ?k
      (case a => k_is)
      (case l => k_is)
      (case c => k_is)
      (case k => k_is)
    case d_RecoveryTable_home =>
      refine' Lk35.methF ?a ?i ?l ?c ?k
      (case a => k_is)
      (case i => k_is)
      (case l => k_is)
      (case c => k_is)
      (case k => k_is)
    case d_RecoveryTable_step =>
      refine' Lk35.methF ?a ?i ?l ?c ?k
      (case a => k_is)
      (case i => k_is)
      (case l => k_is)
      (case c => k_is)
      (case k => k_is)
    case d_RecoveryTable_rate =>
      refine' Lk35.methF ?a ?i ?l ?c ?k
      (case a => k_is)
      (case i => k_is)
      (case l => k_is)
      (case c => k_is)
      (case k => k_is)
    case d_RecoveryTable___init__ =>
      refine' Lk35.initF ?m ?a ?i ?l ?c ?k
      (case m => k_is)
      (case a => k_is)
      (case i => k_is)
      (case l => k_is)
      (case c => k_is)
      (case k => k_is)
