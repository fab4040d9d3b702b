import PyProof.Rows.All
import Wide.All
import OpenK.AllK
import Wide.FinOn
import PyProof.EqAt
import PyProof.EqKinds
import PyProof.TupleCall
import KE.KExcSuper
import HandS.ForMost
import HandS.ForExc
import HandS.ExcInit
import HandS.ExcField
import HandS.TryMany
import KE.GoesEnum
import KE.GoesMore
import KE.KDictDisplayH
import HandS.Star
import HandS.Walk
import HandS.IsInst
import HandS.TupAny
import HandS.TupLe
import HandS.CallSlots
import PySem.Challenge.RW_widestparcels_k70_whole_house_papers_of
set_option Elab.async false
set_option linter.all false
set_option maxRecDepth 100000
set_option maxHeartbeats 4000000
namespace K70
/-! ## The game in plain Lean: states (number of widths, houses left) -/

/-- where a probe with b widths below it leads: the answered state first -/
def led (n l b : Nat) : List (Nat × Nat) := (n - b, l) :: (if l = 1 then [(1, 0)] else (List.range b).map fun k => (k + 1, l - 1))
/-- a state that can be met -/
def Good (c : Nat × Nat) : Prop := 1 ≤ c.1 ∧ (c.1 = 1 ∨ 1 ≤ c.2)
theorem led_good {n l b : Nat} (hb : 1 ≤ b) (hn : b < n) (hl : 1 ≤ l) : ∀ c ∈ led n l b, Good c ∧ c.1 < n ∧ c.2 ≤ l := by
  intro c hc
  unfold led at hc
  rcases List.mem_cons.mp hc with e | hc
  · subst e; exact ⟨⟨by simp only; omega, .inr hl⟩, by simp only; omega, Nat.le_refl _⟩
  · by_cases h1 : l = 1
    · rw [if_pos h1] at hc
      obtain rfl := List.mem_singleton.mp hc
      exact ⟨⟨Nat.le_refl _, .inl rfl⟩, by simp only; omega, by simp only; omega⟩
    · rw [if_neg h1] at hc
      obtain ⟨k, hk, rfl⟩ := List.mem_map.mp hc
      have hk' := List.mem_range.mp hk
      exact ⟨⟨by simp only; omega, .inr (by simp only; omega)⟩, by simp only; omega, by simp only; omega⟩

def worst (L : Nat × Nat → Nat) (cs : List (Nat × Nat)) : Nat := cs.foldl (fun w c => max w (L c)) 0
theorem foldl_max (L : Nat × Nat → Nat) : ∀ (cs : List (Nat × Nat)) (w : Nat), w ≤ cs.foldl (fun w c => max w (L c)) w ∧ ∀ c ∈ cs, L c ≤ cs.foldl (fun w c => max w (L c)) w
  | [], w => ⟨Nat.le_refl _, fun c h => nomatch h⟩
  | a :: r, w => by
    have ih := foldl_max L r (max w (L a))
    refine ⟨Nat.le_trans (Nat.le_max_left _ _) ih.1, fun c hc => ?_⟩
    rcases List.mem_cons.mp hc with e | hc
    · subst e; exact Nat.le_trans (Nat.le_max_right _ _) ih.1
    · exact ih.2 c hc
theorem worst_ge (L : Nat × Nat → Nat) {cs : List (Nat × Nat)} {c : Nat × Nat} (h : c ∈ cs) : L c ≤ worst L cs := (foldl_max L cs 0).2 c h
theorem worst_congr {L L' : Nat × Nat → Nat} : ∀ {cs : List (Nat × Nat)}, (∀ c ∈ cs, L c = L' c) → worst L cs = worst L' cs := by
  intro cs h
  unfold worst
  have go : ∀ (cs : List (Nat × Nat)) (w : Nat), (∀ c ∈ cs, L c = L' c) → cs.foldl (fun w c => max w (L c)) w = cs.foldl (fun w c => max w (L' c)) w := by
    intro cs
    induction cs with
    | nil => intro w _; rfl
    | cons a r ih =>
      intro w h
      rw [List.foldl_cons, List.foldl_cons, h a (List.mem_cons_self ..)]
      exact ih _ fun c hc => h c (List.mem_cons_of_mem _ hc)
  exact go cs 0 h
theorem worst_snoc (L : Nat × Nat → Nat) (cs : List (Nat × Nat)) (c : Nat × Nat) : worst L (cs ++ [c]) = max (worst L cs) (L c) := by
  unfold worst; rw [List.foldl_append]; rfl

/-- one more number below -/
def better (v : Nat) : Option Nat → Nat
  | none => v
  | some m => if v < m then v else m
/-- the best of the numbers below 1 .. b -/
def bestTo (L : Nat × Nat → Nat) (n l : Nat) : Nat → Option Nat
  | 0 => none
  | b + 1 => some (better (worst L (led n l (b + 1)) + 1) (bestTo L n l b))
theorem bestTo_congr {L L' : Nat × Nat → Nat} {n l : Nat} (hl : 1 ≤ l) (h : ∀ c, c.1 < n → L c = L' c) : ∀ b, b < n → bestTo L n l b = bestTo L' n l b
  | 0, _ => rfl
  | b + 1, hb => by
    show some _ = some _
    rw [bestTo_congr hl h b (by omega), worst_congr fun c hc => h c (led_good (Nat.succ_pos b) hb hl c hc).2.1]

/-- with fuel -/
def leastF : Nat → Nat × Nat → Nat
  | 0, _ => 0
  | f + 1, c => if c.1 ≤ 1 then 0 else (bestTo (leastF f) c.1 c.2 (c.1 - 1)).getD 0
theorem leastF_one (f : Nat) {c : Nat × Nat} (h : c.1 ≤ 1) : leastF f c = 0 := by
  cases f with
  | zero => rfl
  | succ f => exact if_pos h
theorem leastF_same : ∀ (f g : Nat) (c : Nat × Nat), 1 ≤ c.2 → c.1 ≤ f → c.1 ≤ g → leastF f c = leastF g c := by
  intro f
  induction f with
  | zero =>
    intro g c _ hf hg
    rw [leastF_one g (by omega)]; rfl
  | succ f ih =>
    intro g c hl hf hg
    cases g with
    | zero => rw [leastF_one (f + 1) (by omega)]; rfl
    | succ g =>
      by_cases h1 : c.1 ≤ 1
      · rw [leastF_one _ h1, leastF_one _ h1]
      · show (if c.1 ≤ 1 then 0 else _) = (if c.1 ≤ 1 then 0 else _)
        rw [if_neg h1, if_neg h1]
        have e : bestTo (leastF f) c.1 c.2 (c.1 - 1) = bestTo (leastF g) c.1 c.2 (c.1 - 1) := by
          have go : ∀ b, b < c.1 → bestTo (leastF f) c.1 c.2 b = bestTo (leastF g) c.1 c.2 b := by
            intro b
            induction b with
            | zero => intro _; rfl
            | succ b ihb =>
              intro hb
              show some _ = some _
              rw [ihb (by omega), worst_congr fun d hd => ?_]
              have q := led_good (n := c.1) (Nat.succ_pos b) hb hl d hd
              rcases q.1.2 with z | z
              · rw [leastF_one f (by omega), leastF_one g (by omega)]
              · exact ih g d z (by omega) (by omega)
          exact go _ (by omega)
        rw [e]
/-- the least number of probes of the game -/
def least (c : Nat × Nat) : Nat := leastF c.1 c
theorem least_one {c : Nat × Nat} (h : c.1 ≤ 1) : least c = 0 := leastF_one _ h
theorem bestTo_some (L : Nat × Nat → Nat) (n l b : Nat) : ∃ m, bestTo L n l (b + 1) = some m := ⟨_, rfl⟩
theorem least_eq {n l : Nat} (hn : 2 ≤ n) (hl : 1 ≤ l) : bestTo least n l (n - 1) = some (least (n, l)) := by
  obtain ⟨f, rfl⟩ : ∃ f, n = f + 1 := ⟨n - 1, by omega⟩
  have e : bestTo (leastF f) (f + 1) l f = bestTo least (f + 1) l f := by
    have go : ∀ b, b < f + 1 → bestTo (leastF f) (f + 1) l b = bestTo least (f + 1) l b := by
      intro b
      induction b with
      | zero => intro _; rfl
      | succ b ihb =>
        intro hb
        show some _ = some _
        rw [ihb (by omega), worst_congr fun d hd => ?_]
        have q := led_good (n := f + 1) (Nat.succ_pos b) hb hl d hd
        rcases q.1.2 with z | z
        · rw [leastF_one f (by omega), least_one (by omega)]
        · exact leastF_same f d.1 d z (by omega) (Nat.le_refl _)
    exact go _ (by omega)
  have q : least (f + 1, l) = (bestTo (leastF f) (f + 1) l f).getD 0 := by
    show (if f + 1 ≤ 1 then 0 else _) = _
    rw [if_neg (by omega)]; rfl
  show bestTo least (f + 1) l f = _
  rw [← e, q]
  cases h : bestTo (leastF f) (f + 1) l f with
  | none =>
    obtain ⟨g, rfl⟩ : ∃ g, f = g + 1 := ⟨f - 1, by omega⟩
    cases h
  | some m => rfl
theorem bestTo_ge {L : Nat × Nat → Nat} {n l k : Nat} : ∀ (b m : Nat), (∀ j, 1 ≤ j → j ≤ b → k ≤ worst L (led n l j) + 1) → bestTo L n l b = some m → k ≤ m
  | 0, _, _, h => nomatch h
  | b + 1, m, hw, h => by
    have e : better (worst L (led n l (b + 1)) + 1) (bestTo L n l b) = m := Option.some.inj h
    have h1 := hw (b + 1) (Nat.succ_pos b) (Nat.le_refl _)
    cases q : bestTo L n l b with
    | none =>
      rw [q] at e
      have e' : worst L (led n l (b + 1)) + 1 = m := e
      omega
    | some p =>
      have h2 := bestTo_ge b p (fun j a c => hw j a (by omega)) q
      rw [q] at e
      have e' : (if worst L (led n l (b + 1)) + 1 < p then worst L (led n l (b + 1)) + 1 else p) = m := e
      split at e' <;> omega
/-- if whatever is asked some answer leaves k more probes, then k + 1 are needed -/
theorem least_ge {n l k : Nat} (hn : 2 ≤ n) (hl : 1 ≤ l) (h : ∀ b, 1 ≤ b → b < n → ∃ c ∈ led n l b, k ≤ least c) : k + 1 ≤ least (n, l) := by
  refine bestTo_ge (n - 1) _ (fun j h1 h2 => ?_) (least_eq hn hl)
  obtain ⟨c, hc, hk⟩ := h j h1 (by omega)
  have := worst_ge least hc
  omega

/-- what a right certificate says of its greatest counts -/
theorem sound {top : Nat × Nat → Option Int}
    (hg : ∀ c i, top c = some i → Good c) (h1 : ∀ c i, top c = some i → 0 < i → c.1 ≠ 1)
    (h2 : ∀ c i, top c = some i → 1 < i → ∀ b, 1 ≤ b → b < c.1 → ∃ d ∈ led c.1 c.2 b, ∃ j, top d = some j ∧ i - 1 ≤ j) :
    ∀ (k : Nat) (c : Nat × Nat) (i : Int), top c = some i → (k : Int) ≤ i → k ≤ least c
  | 0, _, _, _, _ => Nat.zero_le _
  | k + 1, c, i, ht, hi => by
    obtain ⟨n, l⟩ := c
    have g := hg _ _ ht
    have g1 := h1 _ _ ht (by omega)
    have hn : 2 ≤ n := by
      have a : 1 ≤ n := g.1
      have b : n ≠ 1 := g1
      omega
    have hl : 1 ≤ l := by
      rcases g.2 with z | z
      · exact absurd z g1
      · exact z
    refine least_ge hn hl fun b hb hbn => ?_
    cases k with
    | zero => exact ⟨(n - b, l), List.mem_cons_self .., Nat.zero_le _⟩
    | succ k =>
      obtain ⟨d, hd, j, hj, hij⟩ := h2 _ _ ht (by omega) b hb hbn
      exact ⟨d, hd, sound hg h1 h2 (k + 1) d j hj (by omega)⟩

/-! ## lists without repetition in a small box -/
theorem nodup_lt : ∀ (m : Nat) (l : List Nat), l.Nodup → (∀ x ∈ l, x < m) → l.length ≤ m
  | 0, l, _, h => by
    cases l with
    | nil => exact Nat.le_refl _
    | cons a r => exact absurd (h a (List.mem_cons_self ..)) (Nat.not_lt_zero _)
  | m + 1, l, hn, h => by
    have q := nodup_lt m (l.erase m) (hn.erase m) fun x hx => by
      have a := (hn.mem_erase_iff).mp hx
      have b := h x a.2
      have c := a.1
      omega
    by_cases hm : m ∈ l
    · rw [List.length_erase_of_mem hm] at q; omega
    · rw [List.erase_of_not_mem hm] at q; omega
theorem nodup_box {N : Nat} (l : List (Nat × Nat)) (hn : l.Nodup) (h : ∀ c ∈ l, c.1 ≤ N ∧ c.2 ≤ 8) : l.length ≤ (N + 1) * 9 := by
  have e : (l.map fun c => c.1 * 9 + c.2).length = l.length := List.length_map _
  rw [← e]
  refine nodup_lt _ _ ?_ ?_
  · rw [List.Nodup, List.pairwise_map]
    refine List.Pairwise.imp_of_mem (fun {a b} ha hb hab q => hab ?_) hn
    have z1 := (h a ha).2
    have z2 := (h b hb).2
    exact Prod.ext (by omega) (by omega)
  · intro x hx
    obtain ⟨c, hc, rfl⟩ := List.mem_map.mp hx
    have z := h c hc
    have y : c.1 * 9 ≤ N * 9 := Nat.mul_le_mul_right 9 z.1
    omega
end K70
/-! ## The certificate's verdict in plain Lean -/
namespace K70
open PySem
/-- a value without parts -/
inductive Fl where
  | non | bl (b : Bool) | int (i : Int) | str (s : Str)
/-- the first part of a pair: a value without parts, a tuple or a list of such -/
inductive Cs where
  | fl (f : Fl) | tup (fs : List Fl) | lst (fs : List Fl)
def isNum : Fl → Option Int
  | .int i => some i
  | _ => none
/-- the state that a tuple of these values is, st the state of the log -/
def isStL (st : Nat × Nat) : List Fl → Option (Nat × Nat)
  | [.int n, .int l] => if 1 ≤ n ∧ n ≤ (st.1 : Int) ∧ 0 ≤ l ∧ l ≤ (st.2 : Int) ∧ (n = 1 ∨ 0 < l) then some (n.toNat, l.toNat) else none
  | _ => none
def isSt (st : Nat × Nat) : Cs → Option (Nat × Nat)
  | .tup fs => isStL st fs
  | _ => none
theorem isSt_some {st : Nat × Nat} {c : Cs} {s : Nat × Nat} (h : isSt st c = some s) : c = .tup [.int (s.1 : Nat), .int (s.2 : Nat)] ∧ 1 ≤ s.1 ∧ s.1 ≤ st.1 ∧ s.2 ≤ st.2 ∧ (s.1 = 1 ∨ 1 ≤ s.2) := by
  unfold isSt at h
  split at h
  · rename_i fs
    unfold isStL at h
    split at h
    · rename_i n l
      split at h
      · rename_i hc
        have e := Option.some.inj h
        subst e
        refine ⟨?_, ?_, ?_, ?_, ?_⟩
        · have e1 : ((n.toNat : Nat) : Int) = n := by omega
          have e2 : ((l.toNat : Nat) : Int) = l := by omega
          simp only [e1, e2]
        all_goals simp only
        all_goals omega
      · cases h
    · cases h
  · cases h
theorem isSt_mk {st s : Nat × Nat} (h : 1 ≤ s.1 ∧ s.1 ≤ st.1 ∧ s.2 ≤ st.2 ∧ (s.1 = 1 ∨ 1 ≤ s.2)) : isSt st (.tup [.int (s.1 : Nat), .int (s.2 : Nat)]) = some s := by
  show (if 1 ≤ ((s.1 : Nat) : Int) ∧ ((s.1 : Nat) : Int) ≤ (st.1 : Int) ∧ 0 ≤ ((s.2 : Nat) : Int) ∧ ((s.2 : Nat) : Int) ≤ (st.2 : Int) ∧ (((s.1 : Nat) : Int) = 1 ∨ 0 < ((s.2 : Nat) : Int)) then some (((s.1 : Nat) : Int).toNat, ((s.2 : Nat) : Int).toNat) else none) = some s
  rw [if_pos (by omega), Int.toNat_natCast, Int.toNat_natCast]

abbrev Top := Nat × Nat → Option Int
/-- a greater count takes the place -/
def more (o : Option Int) (i : Int) : Bool := match o with
  | some j => decide (j < i)
  | none => true
def putTop (t : Top) (s : Nat × Nat) (i : Int) : Top := if more (t s) i = true then fun c => if c = s then some i else t c else t
/-- a pair's count is taken in -/
def addTop (st : Nat × Nat) (t : Top) (p : Cs × Fl) : Top := match isSt st p.1 with
  | none => t
  | some s => match isNum p.2 with
    | none => t
    | some i => putTop t s i
theorem addTop_no {st : Nat × Nat} {t : Top} {p : Cs × Fl} (h : isSt st p.1 = none) : addTop st t p = t := by unfold addTop; rw [h]
theorem addTop_no2 {st s : Nat × Nat} {t : Top} {p : Cs × Fl} (h : isSt st p.1 = some s) (h2 : isNum p.2 = none) : addTop st t p = t := by unfold addTop; rw [h, h2]
theorem addTop_yes {st s : Nat × Nat} {t : Top} {p : Cs × Fl} {i : Int} (h : isSt st p.1 = some s) (h2 : isNum p.2 = some i) : addTop st t p = putTop t s i := by unfold addTop; rw [h, h2]
/-- the greatest count that stands with each state -/
def tops (st : Nat × Nat) (ps : List (Cs × Fl)) : Top := ps.foldl (addTop st) fun _ => none
theorem tops_snoc (st : Nat × Nat) (ps : List (Cs × Fl)) (p : Cs × Fl) : tops st (ps ++ [p]) = addTop st (tops st ps) p := by
  unfold tops; rw [List.foldl_append]; rfl
theorem tops_mem (st : Nat × Nat) : ∀ (n : Nat) (ps : List (Cs × Fl)), ps.length = n → ∀ c i, tops st ps c = some i → ∃ p ∈ ps, isSt st p.1 = some c ∧ isNum p.2 = some i := by
  intro n
  induction n with
  | zero =>
    intro ps hl c i h
    have e : ps = [] := List.eq_nil_of_length_eq_zero hl
    subst e
    cases h
  | succ n ih =>
    intro ps hl c i h
    obtain ⟨q, p, rfl⟩ : ∃ q p, ps = q ++ [p] := by
      have hne : ps ≠ [] := fun z => by rw [z] at hl; cases hl
      exact ⟨ps.dropLast, ps.getLast hne, (List.dropLast_concat_getLast hne).symm⟩
    have hq : q.length = n := by rw [List.length_append] at hl; simpa using hl
    rw [tops_snoc] at h
    have old : tops st q c = some i → ∃ p' ∈ q ++ [p], isSt st p'.1 = some c ∧ isNum p'.2 = some i := fun z => by
      obtain ⟨r, hr, e⟩ := ih q hq c i z
      exact ⟨r, List.mem_append_left _ hr, e⟩
    cases hs : isSt st p.1 with
    | none => exact old (by rw [addTop_no hs] at h; exact h)
    | some s =>
      cases hj : isNum p.2 with
      | none => exact old (by rw [addTop_no2 hs hj] at h; exact h)
      | some j =>
        rw [addTop_yes hs hj] at h
        unfold putTop at h
        by_cases hm : more (tops st q s) j = true
        · rw [if_pos hm] at h
          by_cases hc : c = s
          · rw [if_pos hc] at h
            exact ⟨p, List.mem_append_right _ (List.mem_singleton.mpr rfl), by rw [hs, hc], by rw [hj, h]⟩
          · rw [if_neg hc] at h
            exact old h
        · rw [if_neg hm] at h
          exact old h

def stands (t : Top) (c : Nat × Nat) (i : Int) : Bool := match t c with
  | some j => decide (i ≤ j)
  | none => false
/-- some number below leads to no state that stands -/
def stuck (t : Top) (n l : Nat) (i : Int) : Bool := (List.range (n - 1)).any fun b => !((led n l (b + 1)).any fun c => stands t c (i - 1))
/-- the first reason against a pair -/
def fault (st : Nat × Nat) (t : Top) (p : Cs × Fl) : Option Str := match isSt st p.1 with
  | none => some ("state" : Str)
  | some (n, l) => match isNum p.2 with
    | none => some ("number" : Str)
    | some i => if i < 0 then some ("number" : Str) else if 0 < i ∧ n = 1 then some ("one" : Str) else if 1 < i ∧ stuck t n l i = true then some ("step" : Str) else none
theorem fault_state {st : Nat × Nat} {t : Top} {p : Cs × Fl} (h : isSt st p.1 = none) : fault st t p = some ("state" : Str) := by unfold fault; rw [h]
theorem fault_no {st : Nat × Nat} {t : Top} {p : Cs × Fl} {n l : Nat} (h : isSt st p.1 = some (n, l)) (h2 : isNum p.2 = none) : fault st t p = some ("number" : Str) := by unfold fault; rw [h]; simp only; rw [h2]
theorem fault_num {st : Nat × Nat} {t : Top} {p : Cs × Fl} {n l : Nat} {i : Int} (h : isSt st p.1 = some (n, l)) (h2 : isNum p.2 = some i) :
    fault st t p = if i < 0 then some ("number" : Str) else if 0 < i ∧ n = 1 then some ("one" : Str) else if 1 < i ∧ stuck t n l i = true then some ("step" : Str) else none := by unfold fault; rw [h]; simp only; rw [h2]
/-- the first bad pair -/
def firstBad (f : Cs × Fl → Option Str) : List (Cs × Fl) → Nat → Option (Nat × Str)
  | [], _ => none
  | p :: r, i => match f p with
    | some x => some (i, x)
    | none => firstBad f r (i + 1)
theorem firstBad_at {f : Cs × Fl → Option Str} : ∀ (ps : List (Cs × Fl)) (k i : Nat) (p : Cs × Fl) (x : Str), (∀ (j : Nat) (q : Cs × Fl), j < i → ps[j]? = some q → f q = none) → ps[i]? = some p → f p = some x → firstBad f ps k = some (k + i, x)
  | [], _, _, _, _, _, h, _ => by simp at h
  | a :: r, k, 0, p, x, _, h, hx => by
    have e : a = p := by simpa using h
    subst e
    unfold firstBad
    rw [hx]; rfl
  | a :: r, k, i + 1, p, x, hb, h, hx => by
    have h0 := hb 0 a (Nat.succ_pos i) rfl
    have ih := firstBad_at r (k + 1) i p x (fun j q hj hq => hb (j + 1) q (Nat.succ_lt_succ hj) (by simpa using hq)) (by simpa using h) hx
    unfold firstBad
    rw [h0]
    show firstBad f r (k + 1) = _
    rw [ih, show k + 1 + i = k + (i + 1) by omega]
theorem firstBad_none {f : Cs × Fl → Option Str} : ∀ (ps : List (Cs × Fl)) (k : Nat), (∀ (j : Nat) (q : Cs × Fl), ps[j]? = some q → f q = none) → firstBad f ps k = none
  | [], _, _ => rfl
  | a :: r, k, hb => by
    unfold firstBad
    rw [hb 0 a rfl]
    exact firstBad_none r (k + 1) fun j q hq => hb (j + 1) q (by simpa using hq)
theorem firstBad_all {f : Cs × Fl → Option Str} : ∀ (ps : List (Cs × Fl)) (k : Nat), firstBad f ps k = none → ∀ q ∈ ps, f q = none
  | [], _, _, q, hq => nomatch hq
  | a :: r, k, h, q, hq => by
    unfold firstBad at h
    cases e : f a with
    | some x => rw [e] at h; cases h
    | none =>
      rw [e] at h
      rcases List.mem_cons.mp hq with z | hq
      · rw [z]; exact e
      · exact firstBad_all r (k + 1) h q hq
/-- none: it is right -/
def verdict (st : Nat × Nat) (ps : List (Cs × Fl)) (v : Int) : Option (Nat × Str) := match firstBad (fault st (tops st ps)) ps 0 with
  | some b => some b
  | none => if stands (tops st ps) st v = true then none else some (ps.length, ("start" : Str))

theorem right_sound {st : Nat × Nat} {ps : List (Cs × Fl)} {v : Int} (h : verdict st ps v = none) (hv : 0 ≤ v) : v ≤ (least st : Nat) := by
  unfold verdict at h
  have hb : firstBad (fault st (tops st ps)) ps 0 = none := by
    cases q : firstBad (fault st (tops st ps)) ps 0 with
    | none => rfl
    | some b => rw [q] at h; cases h
  rw [hb] at h
  simp only at h
  have hst : stands (tops st ps) st v = true := by
    cases q : stands (tops st ps) st v with
    | true => rfl
    | false => rw [q] at h; cases h
  have all := firstBad_all ps 0 hb
  have at_ : ∀ c i, tops st ps c = some i → Good c ∧ 0 ≤ i ∧ ¬ (0 < i ∧ c.1 = 1) ∧ ¬ (1 < i ∧ stuck (tops st ps) c.1 c.2 i = true) := fun c i hc => by
    obtain ⟨p, hp, e1, e2⟩ := tops_mem st _ ps rfl c i hc
    have f := all p hp
    obtain ⟨n, l⟩ := c
    rw [fault_num e1 e2] at f
    have z := (isSt_some e1).2
    refine ⟨⟨z.1, z.2.2.2⟩, ?_⟩
    by_cases a : i < 0
    · rw [if_pos a] at f; cases f
    rw [if_neg a] at f
    by_cases b : 0 < i ∧ n = 1
    · rw [if_pos b] at f; cases f
    rw [if_neg b] at f
    by_cases d : 1 < i ∧ stuck (tops st ps) n l i = true
    · rw [if_pos d] at f; cases f
    exact ⟨by omega, b, d⟩
  obtain ⟨j, hj, hvj⟩ : ∃ j, tops st ps st = some j ∧ v ≤ j := by
    unfold stands at hst
    cases q : tops st ps st with
    | none => rw [q] at hst; cases hst
    | some j => rw [q] at hst; exact ⟨j, rfl, of_decide_eq_true hst⟩
  have key := sound (top := tops st ps) (fun c i hc => (at_ c i hc).1) (fun c i hc h0 h1 => (at_ c i hc).2.2.1 ⟨h0, h1⟩) (fun c i hc h1 b hb1 hb2 => ?_) v.toNat st j hj (by omega)
  · omega
  · have ns := (at_ c i hc).2.2.2
    have ns' : stuck (tops st ps) c.1 c.2 i = false := by
      cases q : stuck (tops st ps) c.1 c.2 i with
      | false => rfl
      | true => exact absurd ⟨h1, q⟩ ns
    unfold stuck at ns'
    rw [List.any_eq_false] at ns'
    have q := ns' (b - 1) (List.mem_range.mpr (by omega))
    rw [show b - 1 + 1 = b by omega] at q
    have q' : (led c.1 c.2 b).any (fun d => stands (tops st ps) d (i - 1)) = true := by
      cases z : (led c.1 c.2 b).any (fun d => stands (tops st ps) d (i - 1)) with
      | true => rfl
      | false => rw [z] at q; exact absurd rfl q
    obtain ⟨d, hd, hs⟩ := List.any_eq_true.mp q'
    unfold stands at hs
    cases q2 : tops st ps d with
    | none => rw [q2] at hs; cases hs
    | some m => rw [q2] at hs; exact ⟨d, hd, m, q2, of_decide_eq_true hs⟩
end K70

/-! ## An own error class (its chain ends in ValueError) whose __init__ calls super().__init__(text) and stores two fields -/
namespace K70
open PySem PySem.W PySem.Calls PyProof.Rows PySem.HandSPX

/-- the text of such an __init__ -/
structure InitOf (f1 f2 : Str) (A : Arguments) (B : List Stmt) (S : Scope) : Prop where
  body : ∃ (msg : Str) (q1 q2 q3 q4 q5 q6 a1 a2 a3 a4 b1 b2 b3 b4 : Pos), B =
    [.Expr (.Call (.Attribute (.Call (.Name "super" q1) [] [] q2) "__init__" q3) [.Constant (.str msg) 0 q4] [] q5) q6,
     .Assign [.Attribute (.Name "self" a1) f1 a2] (.Name f1 a3) a4, .Assign [.Attribute (.Name "self" b1) f2 b2] (.Name f2 b3) b4] ∧ (q3.endLine == q5.line) = true
  first : ∃ ar : Arg, (A.posonlyargs ++ A.args).head? = some ar ∧ ar.arg = ("self" : Str)
  ls : S.names.lookup ("super" : Str) = some .globalImplicit
  lc : S.names.lookup ("__class__" : Str) = some .free
  l0 : S.names.lookup ("self" : Str) = some .local
  l1 : S.names.lookup f1 = some .local
  l2 : S.names.lookup f2 = some .local
  nocell : ∀ x ∈ S.names, x.2 ≠ .cell
  kd : S.kind = .function
  gn : S.isGenerator = false
  co : S.isCoroutine = false
  n12 : f1 ≠ f2
  n10 : f1 ≠ ("self" : Str)
  n20 : f2 ≠ ("self" : Str)
  d1 : (f1 == ("__debug__" : Str)) = false
  d2 : (f2 == ("__debug__" : Str)) = false
/-- what the written part says of the class x, at C -/
structure BadTxt (P : Program) (K : Frag) (mg : Str → Option Value) (x : Str) (f1 f2 : Str) (C : Addr) : Prop where
  gC : mg x = some (.ref C)
  cls : ∃ nm q N bs bm sn sub ab col dd k0 k1 k2 k3 k5, K.lookup C = some (excClassObj nm q C N bs bm true sn sub ab col dd k0 k1 k2 k3 k5 "ValueError.__new__") ∧ refsVE bm = true
  sa : findIn K (.ref C) "__setattr__" = some (some (.builtin "object.__setattr__"))
  no1 : findIn K (.ref C) f1 = some none
  no2 : findIn K (.ref C) f2 = some none
  kC : keepIn K (.ref C) = true
  exC : subIn K (.ref C) (.type "BaseException") = some true
  veC : subIn K (.ref C) (.type "ValueError") = some true
  tyC : typeIn K (.ref C) = some (.type "type")
  meC : mroIn K C (.ref C) = some true
  sup : ks_superIn K C C "__init__" = some (some (.builtin "ValueError.__init__"))
  noS : mg "super" = none
  nto : nsIn K cStatics "thirdparty.any" = some none
  top : (P.main.scope.names.lookup ("super" : Str)).isSome = false
  init : ∃ fI, findIn K (.ref C) "__init__" = some (some (.ref fI)) ∧ typeIn K (.ref fI) = some (.type "function") ∧
    ∃ (A : Arguments) (B : List Stmt) (S : Scope) (oc : Value) (od : Option Addr) (kV doc pm : Value) (an : Option Addr) (cda : Addr) (ct : Value) (cc : Addr) (osl : Array (Option Value)) (qual : Str),
      InitOf f1 f2 A B S ∧ K.lookup fI = some ⟨oc, od, .func (ksFn "__init__" qual A B S .none kV doc pm an (.ref cda) ct cc), osl⟩ ∧ codeIn K (.ref cda) qual = true ∧
      (∀ (s : Shared) (x v1 v2 : Value), BindsTo s (ksFn "__init__" qual A B S .none kV doc pm an (.ref cda) ct cc) ⟨[x, v1, v2], []⟩ [("self", x), (f1, v1), (f2, v2)]) ∧
      (∃ (ccl : Value) (cdd : Option Addr) (vs : Array Value) (ccs : Array (Option Value)) (file : Str) (tf : Tok), K.lookup cda = some ⟨ccl, cdd, .fields vs, ccs⟩ ∧ vs[2]? = some (.str file tf) ∧ ((P.main.file : Str) == file) = true) ∧
      (∃ (cl : Value) (cld : Option Addr) (csl : Array (Option Value)), K.lookup cc = some ⟨cl, cld, .cell (some (.ref C)), csl⟩)

/-- what such an __init__ leaves of a fresh exception at x -/
structure BadEnd (h h' : Heap) (f1 f2 : Str) (x C dx t1 : Addr) (v1 v2 : Value) : Prop where
  keep : ∀ b o, b ≠ x → h.get? b = some o → h'.get? b = some o
  obj : h'.get? x = some { cls := .ref C, dict := some dx, data := .fields #[.ref t1, .none, .none, .none, .bool false, .none] }
  dbig : h.objs.size ≤ dx
  dne : dx ≠ x
  ns : h'.Ns1 dx (fun y => if y = f2 then some v2 else if y = f1 then some v1 else none)
structure BadMade (h h' : Heap) (f1 f2 : Str) (e C d : Addr) (v1 v2 : Value) : Prop where
  keep : ∀ b o, h.get? b = some o → h'.get? b = some o
  new : h.objs.size ≤ e
  obj : ∃ oe vs, h'.get? e = some oe ∧ oe.cls = .ref C ∧ oe.dict = some d ∧ oe.data = .fields vs ∧ vs[1]? = some .none
  dbig : h.objs.size ≤ d
  dne : d ≠ e
  ns : h'.Ns1 d (fun y => if y = f2 then some v2 else if y = f1 then some v1 else none)
section
variable {prog : Program} {w : World} {A : Around} {E : Value → Shared → Prop} {R : Result → Shared → Prop} {s : Shared} {K : Frag} {mg mb : Str → Option Value} {x : Str} {f1 f2 : Str} {C : Addr}
theorem bad_clsIn {nm q : Str} {N : Addr} {bs bm : List Value} {sn : List Str} {sub : List Value} {ab : Bool} {col : Option Bool} {dd : Option Addr} {k0 k1 k2 k3 k5 : Option Value}
    (h : K.lookup C = some (excClassObj nm q C N bs bm true sn sub ab col dd k0 k1 k2 k3 k5 "ValueError.__new__")) :
    clsIn K C = some { name := nm, bases := bs, mro := .ref C :: bm, ns := N, qualname := q, hasDict := true, slotNames := sn, subclasses := sub, abstract := ab, collection := col, hasDel := false } := by
  unfold clsIn; rw [h] <;> rfl
theorem kept_but {h h' : Heap} (X : K.In h) {e : Addr} (hx : K.lookup e = none) (k : ∀ b o, b ≠ e → h.get? b = some o → h'.get? b = some o) : K.In h' := fun a o q =>
  k a o (fun z => by rw [z, hx] at q; cases q) (X a o q)
/-- super().__init__ called: the arguments are laid anew -/
theorem bad_call {h : Heap} {g : Array GenState} {d : Drawn} {t : Nat} {os : OsState} {u x t0 : Addr} {rest : List Value} {Q : Value → Shared → Prop} {nm q : Str} {N : Addr} {bs bm : List Value} {hdct : Bool} {sn : List Str} {sub : List Value} {ab : Bool} {col : Option Bool} {dd : Option Addr} {k0 k1 k2 k3 k5 : Option Value}
    (hC : h.get? C = some (excClassObj nm q C N bs bm hdct sn sub ab col dd k0 k1 k2 k3 k5 "ValueError.__new__")) (he : h.get? x = some (excO C t0)) (hu : h.get? u = some (kxs_mw "ValueError.__init__" x)) (hz : rest.length ≤ sizeLine)
    (hq : ∀ h' t1, (∀ b o, b ≠ x → h.get? b = some o → h'.get? b = some o) → h'.get? x = some (excO C t1) → Q .none ⟨h', g, d, t, os⟩) :
    wpAny (model prog w) A (call (.ref u) rest) Q E ⟨h, g, d, t, os⟩ := by
  have FB := F.excBase_ValueError
  refine wpAny_call (codeAny_of_tree ?_)
  show wpAny _ A.in1 (callAny (.ref u) ⟨rest, []⟩) _ _ _
  simp only [callAny]
  refine wpAny_bind (wpAny_load hu ?_)
  simp only [kxs_mw, show (Value.type "method-wrapper" == Value.type "method" || Value.type "method-wrapper" == Value.type "builtin_function_or_method" || Value.type "method-wrapper" == Value.type "method-wrapper") = true by decide, if_true]
  refine KFB.if_so (by decide) ?_
  refine wpAny_bind (check_bound_init FB.toExcCallFacts hC he rfl ?_)
  refine wpAny_bind (wpAny_pure (wpAny_pure ?_))
  refine ⟨plainId_quiet FB.init.plain _, codeAny_builtin FB.initEntry ?_⟩
  exact exc_init_tree (cls := .ref C) (t0 := t0) (dv := none) (c2 := .none) (c3 := .none) (b4 := .bool false) he hz fun h' k e _ => hq h' _ k e

theorem bad_init (T : BadTxt prog K mg x f1 f2 C) {fI : Addr} (hfI : findIn K (.ref C) "__init__" = some (some (.ref fI))) {e t0 : Addr} {v1 v2 : Value} (X : K.In s.heap) (G : s.heap.Ns mainGlobals mg) (B : s.heap.Ns builtinsNs mb) (Bs : mb "super" = some (.type "super")) (hlim : s.heap.NoLimit)
    (hx : s.heap.get? e = some (excO C t0)) (hnx : K.lookup e = none) (hroom : A.depth < recursionLimit)
    (hq : ∀ h' tk dx t1, BadEnd s.heap h' f1 f2 e C dx t1 v1 v2 → R (.ok (.ret .none)) { s with heap := h', toks := tk }) :
    codeAny (model prog w) A (.call (.ref fI) ⟨[.ref e, v1, v2], []⟩) R s := by
  obtain ⟨fI', hfI', htf, Ar, Bd, Sc, oc, od, kV, doc, pm, an, cda, ct, cc, osl, qual, TI, hlk, hcd, hbind, ⟨ccl, cdd, vs, ccs, file, tf, hcode, hvs, hfile⟩, ⟨cl, cld, csl, hcell⟩⟩ := T.init
  rw [hfI] at hfI'
  cases hfI'
  obtain ⟨nm, q, N, bs, bm, sn, sub, ab, col, dd, k0, k1, k2, k3, k5, hC, hbm⟩ := T.cls
  have hcl := bad_clsIn hC
  obtain ⟨msg, q1, q2, q3, q4, q5, q6, a1, a2, a3, a4, b1, b2, b3, b4, rfl, h35⟩ := TI.body
  obtain ⟨ar, har, har2⟩ := TI.first
  obtain ⟨hp, g, dr, tk, os⟩ := s
  refine ks_codeAny_call_defAt (fd := ksFn "__init__" qual Ar _ Sc .none kV doc pm an (.ref cda) ct cc) (binds := [("self", .ref e), (f1, v1), (f2, v2)]) hroom (X _ _ hlk) rfl hlim (codeRec_of X hcd) rfl (hbind _ _ _ _) TI.nocell (fun y hy => ?_) (fun h₁ hns hk₁ => ?_) TI.co TI.gn TI.kd
  · have hy' : y = (("self" : Str), Value.ref e) ∨ y = (f1, v1) ∨ y = (f2, v2) := by simpa using hy
    rcases hy' with rfl | rfl | rfl
    · exact TI.l0
    · exact TI.l1
    · exact TI.l2
  have X1 : K.In h₁ := X.keeps hk₁
  have hx1 : h₁.get? e = some (excO C t0) := hk₁ _ _ hx
  have hlt : e < hp.objs.size := Heap.lt_size hx
  have m0 : (fun y => ([(("self" : Str), Value.ref e), (f1, v1), (f2, v2)] : List (Str × Value)).reverse.lookup y) "self" = some (.ref e) := by
    simp [List.lookup, beq_eq_false_iff_ne.mpr (Ne.symm TI.n10), beq_eq_false_iff_ne.mpr (Ne.symm TI.n20)]
  have m1 : (fun y => ([(("self" : Str), Value.ref e), (f1, v1), (f2, v2)] : List (Str × Value)).reverse.lookup y) f1 = some v1 := by
    simp [List.lookup, beq_eq_false_iff_ne.mpr TI.n12]
  have m2 : (fun y => ([(("self" : Str), Value.ref e), (f1, v1), (f2, v2)] : List (Str × Value)).reverse.lookup y) f2 = some v2 := by
    simp [List.lookup]
  generalize (fun y => ([(("self" : Str), Value.ref e), (f1, v1), (f2, v2)] : List (Str × Value)).reverse.lookup y) = m at hns m0 m1 m2
  generalize hfd : ksFn "__init__" qual Ar _ Sc .none kV doc pm an (.ref cda) ct cc = fd at hlk
  have hen : callEnv fd hp.objs.size fI = ksEnv qual Sc hp.objs.size fI (.ref cda) cc := by rw [← hfd]; rfl
  rw [hen]
  have har' : (fd.params.posonlyargs ++ fd.params.args).head? = some ar := by rw [← hfd]; exact har
  refine ks_wpAt_execs_cons (ks_wpAt_Expr_any (ks_wpAt_MethodCall (pl := importBound (.Call (.Name "super" q1) [] [] q2) (ksEnv qual Sc hp.objs.size fI (.ref cda) cc) >>= fun b => pure (b.getD true)) ?_ ?_) ?_ ?_)
  · -- super()
    refine ks_wpAt_super_base (fd := fd) TI.ls TI.lc (by decide +kernel) rfl (X1 _ _ hlk) rfl har' rfl (X1 _ _ hcode) rfl hvs hfile T.top ?_
    refine ks_loadName_global TI.kd TI.ls (loadGlobal_builtin (env := ksEnv qual Sc hp.objs.size fI (.ref cda) cc) (G.keeps hk₁) T.noS (B.keeps hk₁) Bs ⟨rfl, ?_⟩)
    refine wpAny_loadName_free TI.kd TI.lc rfl ⟨_, X1 _ _ hcell, rfl⟩ ?_
    rw [har2]
    refine wpAny_loadName_local TI.kd TI.l0 hns m0 ?_
    have hC1 : h₁.get? C = some _ := X1 _ _ hC
    refine ks_wpAny_isType_cls hC1 rfl ⟨rfl, ?_⟩
    refine ks_wpAny_call_super hC1 rfl hx1 rfl (fun c z => by cases z) (looks_mroIn X1 T.meC) (fun h2 hso k2 => ?_)
    -- .__init__
    have X2 : K.In h2 := X1.keeps k2
    have hx2 := k2 _ _ hx1
    have IE : InstAt h2 e (excO C t0) C none := ⟨hx2, rfl, rfl, trivial⟩
    have hm := T.sup
    unfold ks_superIn at hm
    rw [hcl] at hm
    refine kxs_getMethod kxs_ValueError hso (looks_opaque X2 T.nto) (l₀ := .ref C :: bm) (fun A Q E s k q => wpAny_bind ((looks_clsIn X2 hcl) A _ E s k (wpAny_pure q))) rfl X2 hm (IE.type.andThen (looks_subIn X2 T.veC)) (ks_ne X2 IE hcl) (by decide +kernel) ?_
    have hu : (h2.push (kxs_mw "ValueError.__init__" e)).get? h2.objs.size = some (kxs_mw "ValueError.__init__" e) := Heap.get?_push_size _ rfl
    have k3 : ∀ b o, h2.get? b = some o → (h2.push (kxs_mw "ValueError.__init__" e)).get? b = some o := fun b o q => Heap.get?_push_of_some _ q
    -- the call
    refine kxs_callWith (i := "ValueError.__init__") (x := e) rfl ?_
    refine evalArgs_plain (spliced_cons ?_)
    show wpAny _ _ (eval (.Constant (.str msg) 0 q4) _) _ _ _
    refine Constant_str (spliced_nil ⟨hu, ?_⟩)
    refine bad_call (t0 := t0) (k3 _ _ (X2 _ _ hC)) (k3 _ _ hx2) hu (by show 1 ≤ sizeLine; rw [sizeLine_eq]; decide) fun h4 t1 k4 hx4 => ?_
    -- self.f1 = f1
    have lF : e ≠ hp.objs.size := Nat.ne_of_lt hlt
    have k14 : ∀ b o, b ≠ e → h₁.get? b = some o → h4.get? b = some o := fun b o nb q => k4 b o nb (k3 _ _ (k2 _ _ q))
    have hns4 : h4.Ns hp.objs.size m := by
      obtain ⟨oL, es, ep, hL, r⟩ := hns
      exact ⟨oL, es, ep, k14 _ _ (Ne.symm lF) hL, r⟩
    have X4 : K.In h4 := kept_but X hnx fun b o nb q => k14 b o nb (hk₁ _ _ q)
    refine wpAt_of_wpAny ?_
    refine wpAny_execs_cons (plainObj_wpAny_Assign_Attribute (wpAny_Name (wpAny_loadName_local TI.kd TI.l1 hns4 m1 (wpAny_Name (wpAny_loadName_local TI.kd TI.l0 hns4 m0 ?_) (by decide +kernel))) TI.d1) ?_)
    · refine set_plain X4 (ox := excO C t1) (od := none) ⟨hx4, rfl, rfl, trivial⟩ T.sa ?_
      refine exc_osa X4 hx4 hcl (show refsVE (.ref C :: bm) = true from hbm) rfl T.no1 (fun h5 tk5 dx k5 dn dne hx5 hn5 => ?_)
      -- self.f2 = f2
      have k15 : ∀ b o, b ≠ e → h₁.get? b = some o → h5.get? b = some o := fun b o nb q => k5 b o nb (k14 b o nb q)
      have hns5 : h5.Ns hp.objs.size m := by
        obtain ⟨oL, es, ep, hL, r⟩ := hns4
        exact ⟨oL, es, ep, k5 _ _ (Ne.symm lF) hL, r⟩
      have X5 : K.In h5 := kept_but X hnx fun b o nb q => k15 b o nb (hk₁ _ _ q)
      have sz : hp.objs.size ≤ dx := by
        have y : hp.objs.size < h4.objs.size := hns4.lt
        exact Nat.le_of_lt (Nat.lt_of_lt_of_le y dn)
      have lD : dx ≠ hp.objs.size := by
        have y : hp.objs.size < h4.objs.size := hns4.lt
        exact Nat.ne_of_gt (Nat.lt_of_lt_of_le y dn)
      have hw : Within (fun y => if y = f1 then some v1 else none) [f1] := fun y hy => by
        by_cases z : y = f1
        · rw [z]; exact List.mem_cons_self ..
        · exact absurd (if_neg z) hy
      obtain ⟨oD, _, _, hoD, _, _⟩ := hn5.count hw
      refine wpAny_execs_cons (plainObj_wpAny_Assign_Attribute (wpAny_Name (wpAny_loadName_local TI.kd TI.l2 hns5 m2 (wpAny_Name (wpAny_loadName_local TI.kd TI.l0 hns5 m0 ?_) (by decide +kernel))) TI.d2) ?_)
      · refine set_plain X5 (ox := { cls := .ref C, dict := some dx, data := .fields #[.ref t1, .none, .none, .none, .bool false, .none] }) (od := some oD) ⟨hx5, rfl, rfl, hoD⟩ T.sa ?_
        refine PySem.OEX.osa_old X5 hx5 hn5 hw (show 1 ≤ 1000 by decide) hcl (show refsVE (.ref C :: bm) = true from hbm) rfl T.no2 (fun h6 tk6 k6 hn6 => ?_)
        refine wpAny_execs_nil (hq h6 tk6 dx t1 ⟨fun b o nb q => ?_, ?_, sz, dne, hn6⟩)
        · exact k6 b o (fun z => absurd (Heap.lt_size q) (by rw [z]; exact Nat.not_lt.mpr sz)) (k15 b o nb (hk₁ _ _ q))
        · exact k6 e _ (Ne.symm dne) hx5
      · rfl
    · rfl
  · show (do
      let ov ← attributeBase (.Call (.Name "super" q1) [] [] q2) "__init__" _ _
      standAt q3.atName
      methodCall (.Call (.Name "super" q1) [] [] q2) "__init__" q3 q5 _ ov _ _ _) = _
    unfold methodCall methodCallPos calleeOf
    rw [h35]
    rfl
  · show interactive (ksEnv qual Sc hp.objs.size fI (.ref cda) cc) = false
    unfold interactive
    rw [show (ksEnv qual Sc hp.objs.size fI (.ref cda) cc).scope.kind = .function from TI.kd]
    rfl
  · rfl
theorem bad_made (T : BadTxt prog K mg x f1 f2 C) {v1 v2 : Value} (X : K.In s.heap) (G : s.heap.Ns mainGlobals mg) (B : s.heap.Ns builtinsNs mb) (Bs : mb "super" = some (.type "super")) (hlim : s.heap.NoLimit) (hroom : A.depth + 1 < recursionLimit)
    (hq : ∀ h' tk e d, BadMade s.heap h' f1 f2 e C d v1 v2 → R (.ok (.ret (.ref e))) { s with heap := h', toks := tk }) :
    codeAny (model prog w) A (.call (.ref C) ⟨[v1, v2], []⟩) R s := by
  obtain ⟨fI, hfI, htf, _⟩ := T.init
  obtain ⟨nm, q, N, bs, bm, sn, sub, ab, col, dd, k0, k1, k2, k3, k5, hC, hbm⟩ := T.cls
  obtain ⟨hp, g, dr, tk, os⟩ := s
  have k : ∀ b o, hp.get? b = some o → ((hp.push (kdv_tup [v1, v2])).push (excO C hp.objs.size)).get? b = some o := fun b o e => Heap.get?_push_of_some _ (Heap.get?_push_of_some _ e)
  have hget : ((hp.push (kdv_tup [v1, v2])).push (excO C hp.objs.size)).get? (hp.objs.size + 1) = some (excO C hp.objs.size) := by heap_get
  have hnx : K.lookup (hp.objs.size + 1) = none := by
    cases e : K.lookup (hp.objs.size + 1) with
    | none => rfl
    | some o =>
      have z : hp.get? (hp.objs.size + 1) = some o := X _ _ e
      exact absurd (Nat.lt_of_succ_lt (Heap.lt_size z)) (Nat.lt_irrefl _)
  refine call_own F.excBase_ValueError (fun Y => refsVE_contains Y bm hbm) (X _ _ hC) (looks_findIn X hfI) (fun self => bind_fn X self htf) (show [v1, v2].length ≤ sizeLine by rw [sizeLine_eq]; exact (by decide : 2 ≤ 16777216)) ?_
  refine bad_init (s := ⟨(hp.push (kdv_tup [v1, v2])).push (excO C hp.objs.size), g, dr, tk, os⟩) T hfI (X.keeps k) (G.keeps k) (B.keeps k) Bs (hlim.keeps k) hget hnx hroom fun h' tk' dx t1 M => ?_
  have old : ∀ b o, hp.get? b = some o → h'.get? b = some o := fun b o e => M.keep b o (Nat.ne_of_lt (Nat.lt_succ_of_lt (Heap.lt_size e))) (k b o e)
  have z : hp.objs.size ≤ dx := by
    have q := M.dbig
    have e : ((hp.push (kdv_tup [v1, v2])).push (excO C hp.objs.size)).objs.size = hp.objs.size + 1 + 1 := by rw [Heap.size_push, Heap.size_push]
    have q' : ((hp.push (kdv_tup [v1, v2])).push (excO C hp.objs.size)).objs.size ≤ dx := q
    omega
  exact ⟨rfl, hq h' tk' (hp.objs.size + 1) dx ⟨old, Nat.le_succ _, ⟨_, _, M.obj, rfl, rfl, rfl, rfl⟩, z, M.dne, M.ns⟩⟩
end
end K70
namespace K70
open PySem PySem.Spec PyProof.Rows L2
theorem relO_two {f1 f2 : Str} (n12 : f1 ≠ f2) {v1 v2 : V} {u1 u2 : Value} (r1 : RelV v1 u1) (r2 : RelV v2 u2) (f : Str) :
    RelO (List.lookup f [(f1, v1), (f2, v2)]) (if f = f2 then some u2 else if f = f1 then some u1 else none) := by
  by_cases h1 : f = f1
  · subst h1
    rw [if_neg n12, if_pos rfl]
    have q : List.lookup f [(f, v1), (f2, v2)] = some v1 := by simp [List.lookup]
    rw [q]
    exact r1
  · have q1 : (f == f1) = false := by simpa using h1
    by_cases h2 : f = f2
    · subst h2
      rw [if_pos rfl]
      have q : List.lookup f [(f1, v1), (f, v2)] = some v2 := by simp [List.lookup, q1]
      rw [q]
      exact r2
    · have q2 : (f == f2) = false := by simpa using h2
      rw [if_neg h2, if_neg h1]
      have q : List.lookup f [(f1, v1), (f2, v2)] = none := by simp [List.lookup, q1, q2]
      rw [q]
      trivial
section
variable {X : Cx} {x f1 f2 : Str} {C : Addr} {a b : Expr} {ta : TA} {p pos : Pos} {k : Nat}
/-- x(a, b): a new error, its own dict d -/
def tMkBad (f1 f2 : Str) (C : Addr) (ta : TA) : L2.St → Hp → XK → Prop := fun σ H Q => ta σ H fun vs H1 => ∃ v1 v2, vs = [v1, v2] ∧ ∀ d, H1 d = none → Q (.ref C) (some d) (upd H1 d (.xd [(f1, v1), (f2, v2)]))
theorem pmk_bad (T : BadTxt X.prog X.K X.mg x f1 f2 C) (n12 : f1 ≠ f2) (hr : Room k X.A) (ha : PA X [a, b] ta) (hg : Gl X x) (hdb : (x == ("__debug__" : Str)) = false := by decide)
    (he : starEach (a :: [b]) X.env = (false, eval a X.env) :: starEach [b] X.env := by rfl) (hpl : (backTo pos (starEach [b] X.env)).any (·.1) = false := by rfl) :
    PMk X (.Call (.Name x p) [a, b] [] pos) (tMkBad f1 f2 C ta) := by
  intro pins s σ H Q I h
  refine wpAny_Call_Name_kw (ld_glob I hg T.gC ?_ hdb)
  refine PySem.W.callWith_K (h₀ := X.base) I.ok.mod.kin T.kC (thn (ha.run pos pins s σ H _ I h) fun us s1 hh => ?_) he hpl
  obtain ⟨vs, H1, I1, r1, v1, v2, ev, q1⟩ := hh
  subst ev
  refine ⟨I1.kIn, ?_⟩
  obtain ⟨u1, u2, rfl, rv1, rv2⟩ := vals2 r1
  show wpAny _ _ (call (.ref C) [u1, u2]) _ _ _
  have hlim := I1.nolimit
  have hG := I1.mod.glob.keeps I1.bk
  obtain ⟨mb, hB, hbb⟩ := I1.mod.blt
  have hB1 := hB.keeps I1.bk
  obtain ⟨hp, g, dr, tk, os⟩ := s1
  refine wpAny_call (bad_made T I1.kIn hG hB1 ((hbb _ (by decide)).trans (by first | boot_by_name | rfl | kernel_rfl)) hlim (by have := hr.dp; omega) fun h' tk' e d M => ?_)
  show MkP X pins σ Q (.ref e) ⟨h', g, dr, tk', os⟩
  obtain ⟨oe, fv, hoe, hc, hd, hdat, h1⟩ := M.obj
  obtain ⟨G', g1, g2⟩ := restrict h' fun b => decide (b ≠ e)
  have gk : ∀ b, b ≠ e → G'.get? b = h'.get? b := fun b hb => g1 b (decide_eq_true hb)
  have ge : G'.get? e = none := g2 e (by simp)
  have old : ∀ b o, hp.get? b = some o → G'.get? b = some o := fun b o q => (gk b (Nat.ne_of_lt (Nat.lt_of_lt_of_le (Heap.lt_size q) M.new))).trans (M.keep b o q)
  have ob : ObjOk X.prog X.w (upd H1 d (.xd [(f1, v1), (f2, v2)])) G' d (.xd [(f1, v1), (f2, v2)]) :=
    ⟨_, M.ns.at (fun o q => (gk d M.dne).trans q), fun f => relO_two n12 rv1 rv2 f⟩
  have J : Inv X pins σ (upd H1 d (.xd [(f1, v1), (f2, v2)])) ⟨G', g, dr, tk', os⟩ := I1.laid (t' := tk') old M.dbig ob
  refine ⟨e, oe, fv, ⟨G', g, dr, tk', os⟩, _, .ref C, some d, rfl, J, fun b o q => ?_, ge, hoe, ⟨hc, hd⟩, hdat, h1, ?_, rfl, I1.bare, raises_own T.exC T.tyC, q1 d (I1.hok.fresh M.dbig)⟩
  · by_cases hb : b = e
    · have q' : G'.get? b = some o := q
      rw [hb, ge] at q'; cases q'
    · exact (gk b hb).symm.trans q
  · rw [upd_ne (Ne.symm M.dne)]
    exact I1.hok.fresh M.new
end
end K70

/-! ## try with several clauses, each with a name or without -/
namespace K70
open PySem PySem.Spec PyProof.Rows L2

/-- a clause: the class, the slot of its name (none: no name), its suite -/
abbrev Cl := Value × Option Nat × (Addr → Value → Option Addr → TS)
def slotOn (o : Option Nat) (a : Addr) (σ : L2.St) : L2.St := match o with
  | some i => σ.set i (some (.ref a))
  | none => σ
def slotOff (o : Option Nat) (σ : L2.St) : L2.St := match o with
  | some i => σ.set i none
  | none => σ
/-- behind a suite its name is gone -/
def endsOff (o : Option Nat) (D : Ends) : Ends := { nx := fun σ H => D.nx (slotOff o σ) H, rt := D.rt, bk := fun σ H => D.bk (slotOff o σ) H, ct := fun σ H => D.ct (slotOff o σ) H }
def wCl (K : PySem.W.Frag) (Wout : WX) (D : Ends) : List Cl → WX
  | [] => Wout
  | (c, o, ts) :: r => fun cls d σ H => ∃ b, PySem.W.exmOne K cls c = some b ∧ (b = true → ∀ a, H a = none → ts a cls d (endsOff o D) (slotOn o a σ) H) ∧ (b = false → wCl K Wout D r cls d σ H)
/-- the name of a clause as the text has it -/
inductive ClName (X : Cx) : Option Str → Option Nat → Prop
  | bare : ClName X none none
  | named {n : Str} {i : Nat} (hi : X.N[i]? = some n) (hl : X.env.kindOf n = some .local) : ClName X (some n) (some i)
inductive Clauses (X : Cx) : List ExceptHandler → List Cl → Prop
  | nil : Clauses X [] []
  | cons {x : Str} {c : Value} {ts : Addr → Value → Option Addr → TS} {b₀ : Stmt} {suite : List Stmt} {np pos' : Pos} {hds : List ExceptHandler} {l : List Cl} {n : Option Str} {o : Option Nat} (hc : Names X x c) (hn : ClName X n o)
      (hsu : ∀ (a : Addr) (oe : Obj) (cls : Value) (d : Option Addr) (pn : List (Addr × Obj)), Zc cls d oe → (∃ vs, oe.data = .fields vs) → PSs (X.suite a ((a, oe) :: pn)) (b₀ :: suite) (ts a cls d)) (r : Clauses X hds l) :
      Clauses X (.ExceptHandler (some (.Name x np)) n (b₀ :: suite) pos' :: hds) ((c, o, ts) :: l)
section
variable {X : Cx} {body : List Stmt} {h₀ : ExceptHandler} {hds : List ExceptHandler} {l : List Cl} {pos : Pos} {tb : WX → TS} {Wout : WX}
theorem ps_try_cl (hs : X.stack = X.env :: X.outer) (hf : X.env.frame = some X.env.locals) (hN : X.N.Nodup) (tk : Takes X Wout)
    (hb : ∀ (W : WX) (pn : List (Addr × Obj)) (xe : Value → Shared → Prop), Takes (X.tr pn xe) W → PassesOwn (model X.prog X.w) X.A X.env xe → PSs (X.tr pn xe) body (tb W))
    (hh : Clauses X (h₀ :: hds) l) : PS X (.Try body (h₀ :: hds) [] [] pos) (fun D σ H => tb (wCl X.K Wout D l) D σ H) := by
  refine ⟨fun pins s σ H D I h => ?_⟩
  have ok := I.ok
  have hfr : X.A.frames = some (X.env :: X.outer) := by rw [ok.frames, hs]
  refine wpAny_Try_except (wpAny_mono ((hb (wCl X.K Wout D l) (X.pn ++ pins) (fun e s₁ => wpAny (model X.prog X.w) X.A (noteFrame e X.env) (fun _ s₂ => wpAny (model X.prog X.w) X.A (setFlight e none) (fun _ s₃ =>
    wpAny (model X.prog X.w) X.A (handleBy e X.env (h₀ :: hds)) (SP X pins D) X.xe s₃) X.xe s₂) X.xe s₁) (fun u s' xx => ?_) PassesOwn.looking).run [] s σ H D (I.toTry _) h) (fun f s1 hsp => ?_) (fun e s1 he => he))
  · obtain ⟨a, B, sI, pins', σ', H', cls, d, rfl, J', nb, up, sky, na, os, ag, w⟩ := xx
    have J : Inv X pins σ' H' sI := J'.ofTry ok
    show wpAny (model X.prog X.w) X.A (noteFrame (.ref a) X.env) _ _ _
    refine Sky.land Zc.steady hfr hf (by rw [← hs]; exact sky) fun h3 fl3 up3 => ?_
    have J3 : Inv X pins σ' H' { s' with heap := h3 } := J.landed nb fl3.1 (up.trans up3) os ag
    obtain ⟨oe3, vs3, he3, hz3, hd3⟩ := fl3.there
    have nfr : a ∉ frs (X.env :: X.outer) := fun hm => by
      obtain ⟨_, o', e', hnf⟩ := fl3.2.2.1.mem hm
      rw [he3] at e'; cases e'
      exact hnf _ hd3
    have nL : a ≠ X.env.locals := fun z => nfr (List.mem_filterMap.mpr ⟨X.env, List.mem_cons_self, by rw [hf, z]⟩)
    have nF : a ∉ X.fs := fun hm => by
      obtain ⟨e, he, q⟩ := List.mem_filterMap.mp hm
      exact nfr (List.mem_filterMap.mpr ⟨e, List.mem_cons_of_mem _ he, q⟩)
    have S3 := J3.suite he3 hd3 na nL nF
    suffices go : ∀ {hds' : List ExceptHandler} {l' : List Cl}, Clauses X hds' l' → wCl X.K Wout D l' cls d σ' H' → wpAny (model X.prog X.w) X.A (handleBy (.ref a) X.env hds') (SP X pins D) X.xe { s' with heap := h3 } from go hh w
    intro hds' l' hk
    induction hk with
    | nil =>
      -- no clause takes it
      intro w
      refine wpAny_handleBy_nil ?_
      obtain ⟨_, _, _, oe, vs, T, oT, ts', he, hz, hd, h1, hr⟩ := id fl3
      have fin : wpAny (model X.prog X.w) X.A (setFlight (.ref a) X.env.frame) (fun _ s4 => wpAny (model X.prog X.w) X.A (throw (.ref a) : Sem Flow) (SP X pins D) X.xe s4) X.xe { s' with heap := h3 } := by
        rw [hf]
        refine HandSPX.setFlight_upZ fl3 fun h4 hh4 up4 => wpAny_throw (tk _ _ ⟨a, B, sI, pins, σ', H', cls, d, rfl, J, nb, (up.trans up3).trans up4, .inr (.inr (by rw [hs]; exact hh4)), na, os, ag, w⟩)
      unfold PySem.passOn
      refine wpAny_bind (wpAny_field he hd h1 ?_)
      rw [if_neg (show ¬ ((Value.ref T == Value.none) = true) from by simp)]
      first
        | exact wpAny_bind (wpAny_pure (wpAny_bind fin))
        | exact wpAny_bind fin
    | @cons x c ts b₀ suite np pos' hds2 l2 n o hc hn hsu r ih =>
      intro w
      obtain ⟨b, hb1, hyes, hno⟩ := w
      refine wpAny_handleBy_cons (codeAny_handlers_test ?_) (by intro q; cases q)
      have LM := PySem.W.exm_one (M := model X.prog X.w) (J3.kIn) (show PySem.W.Looks (model X.prog X.w) h3 (typeOf (.ref a)) cls from fun A Q E s k q => wpAny_typeOf_ref (k _ _ he3) (by rw [hz3.1]; exact q)) hb1
      have test : ∀ {Q : Value → Shared → Prop} {E : Value → Shared → Prop}, Q c { s' with heap := h3 } → wpAny (model X.prog X.w) (X.A.mark (some (.ref a))) (eval (.Name x np) X.env) Q E { s' with heap := h3 } := fun {Q E} q => by
        obtain ⟨hg, hdbg, hm | ⟨hm, hv, hnn⟩⟩ := hc
        · exact ld_glob (X := X.suite a ((a, oe3) :: (X.pn ++ pins))) S3 hg hm q hdbg
        · exact ld_blt (X := X.suite a ((a, oe3) :: (X.pn ++ pins))) S3 hg hm hv q hnn hdbg
      refine test (LM.here ?_)
      cases b with
      | false =>
        show wpAny _ X.A (handleBy (.ref a) X.env hds2) _ _ _
        exact ih (hno rfl)
      | true =>
        have q0 := hyes rfl a na
        cases hn with
        | bare =>
          refine codeAny_handlers_suite (HandSPX.lands_againZ fl3 fun h4 fl4 up4 => ?_)
          have J4 : Inv X pins σ' H' { s' with heap := h4 } := J.landed nb fl4.1 ((up.trans up3).trans up4) os ag
          obtain ⟨oe4, vs4, he4, hz4, hd4⟩ := fl4.there
          refine wpAny_mono ((hsu a oe4 cls d (X.pn ++ pins) hz4 ⟨_, hd4⟩).run [] _ _ H' _ (J4.suite he4 hd4 na nL nF) q0) (fun f s6 hsp => ?_) (fun _ _ z => False.elim z)
          cases f with
          | next => obtain ⟨σ6, H6, S6, q6⟩ := hsp; exact ⟨_, _, S6.unsuite ok, q6⟩
          | brk => obtain ⟨σ6, H6, S6, q6⟩ := hsp; exact ⟨_, _, S6.unsuite ok, q6⟩
          | cont => obtain ⟨σ6, H6, S6, q6⟩ := hsp; exact ⟨_, _, S6.unsuite ok, q6⟩
          | ret u => obtain ⟨v6, σ6, H6, S6, r6, q6⟩ := hsp; exact ⟨_, _, _, S6.unsuite ok, r6, q6⟩
        | @named n i hi hln =>
          refine codeAny_handlers_suite_as (HandSPX.lands_againZ fl3 fun h4 fl4 up4 => ?_)
          have J4 : Inv X pins σ' H' { s' with heap := h4 } := J.landed nb fl4.1 ((up.trans up3).trans up4) os ag
          obtain ⟨oe4, vs4, he4, hz4, hd4⟩ := fl4.there
          refine store_ok (X := X.suite a ((a, oe4) :: (X.pn ++ pins))) (v := .ref a) (J4.suite he4 hd4 na nL nF) hN hi (.inl hln) rfl (fun s5 S5 => ?_) (.inr hln)
          refine wpAny_mono ((hsu a oe4 cls d (X.pn ++ pins) hz4 ⟨_, hd4⟩).run [] s5 _ H' _ S5 q0) (fun f s6 hsp => ?_) (fun _ _ z => False.elim z)
          have off : ∀ {σ6 : L2.St} {H6 : Hp} {Q : Shared → Prop}, Inv (X.suite a ((a, oe4) :: (X.pn ++ pins))) [] σ6 H6 s6 → (∀ s7, Inv X pins (σ6.set i none) H6 s7 → Q s7) →
              wpAny (model X.prog X.w) X.A (do bindName X.env n .none; unbindBehindTheSuite X.env n pos') (fun _ s7 => Q s7) X.xe s6 := fun {σ6 H6 Q} S6 hq => gone_ok (S6.unsuite ok) hN hi hln hq
          cases f with
          | next => obtain ⟨σ6, H6, S6, q6⟩ := hsp; exact off S6 fun s7 J7 => ⟨_, _, J7, q6⟩
          | brk => obtain ⟨σ6, H6, S6, q6⟩ := hsp; exact off S6 fun s7 J7 => ⟨_, _, J7, q6⟩
          | cont => obtain ⟨σ6, H6, S6, q6⟩ := hsp; exact off S6 fun s7 J7 => ⟨_, _, J7, q6⟩
          | ret u => obtain ⟨v6, σ6, H6, S6, r6, q6⟩ := hsp; exact off S6 fun s7 J7 => ⟨_, _, _, J7, r6, q6⟩
  · cases f with
    | next => obtain ⟨σ', H', J', q⟩ := hsp; exact wpAny_execs_nil ⟨σ', H', J'.ofTry ok, q⟩
    | brk => obtain ⟨σ', H', J', q⟩ := hsp; exact ⟨σ', H', J'.ofTry ok, q⟩
    | cont => obtain ⟨σ', H', J', q⟩ := hsp; exact ⟨σ', H', J'.ofTry ok, q⟩
    | ret u => obtain ⟨v, σ', H', J', r, q⟩ := hsp; exact ⟨v, σ', H', J'.ofTry ok, r, q⟩
end
end K70

/-! ## Rules of our own: enumerate of a tuple, a | b by an own method, C(*xs), C(a, *xs), {t: v} with a tuple t -/
namespace PySem
theorem k70_enum_new {v : Value} {o : Obj} {H : Heap → Prop} (B : Begins v o H) :
    Meets (Builtin.«enumerate.__new__» ⟨[.type "enumerate", v], []⟩) (fun _ R s => H s.heap ∧
      R (.ok (.ret (.ref (s.heap.push o).objs.size))) { s with heap := (s.heap.push o).push { cls := .type "enumerate", data := .fields #[.none, .bool false, .ref s.heap.objs.size, rawInt 0, .none, .none] } }) :=
  .of_wp fun prog w A R s h => by
    obtain ⟨hp, g, d, tk, os⟩ := s
    obtain ⟨h1, h2⟩ := h
    have hsub := sub_enumerate
    have it : ∀ {A' : Around} {E : Value → Shared → Prop} {Q : Value → Shared → Prop}, Q (.ref hp.objs.size) ⟨hp.push o, g, d, tk, os⟩ → wpAny (model prog w) A' (pyIter v) Q E ⟨hp, g, d, tk, os⟩ :=
      fun q => B.iter prog w _ _ ⟨hp, g, d, tk, os⟩ _ h1 q
    wp_walk using it
    refine wpAny_stack_any fun st => wpAny_pure ?_
    split
    · rename_i c _ _ _ _ _
      cases (c == Value.type "enumerate") <;> (wp_walk using it; exact ⟨_, rfl, h2⟩)
    · wp_walk using it
      exact ⟨_, rfl, h2⟩
section
variable {prog : Program} {w : World} {A : Around} {E : Value → Shared → Prop} {s : Shared}
theorem k70_enum_tuple {l : Addr} {items : Array Value} {Q : Value → Shared → Prop} (hL : s.heap.IsTuple l items)
    (h : ∀ h', IsEnum h' (s.heap.objs.size + 1) s.heap.objs.size 0 .none → h'.IsTupleIter s.heap.objs.size l 0 → (∀ b o, s.heap.get? b = some o → h'.get? b = some o) → Q (.ref (s.heap.objs.size + 1)) { s with heap := h' }) :
    wpAny (model prog w) A (call (.type "enumerate") [.ref l]) Q E s := by
  have B := begins_tuple l items
  refine callType_new F.called_enumerate (by decide) (F.typeCall_enumerate_1 _) (F.newCall_enumerate_1 _) (fun obj => F.args_object_init_2 obj _) F.entry_enumerate_new (k70_enum_new B) ⟨hL, ?_⟩
  have hz : (s.heap.push { cls := .type "tuple_iterator", data := .fields #[.ref l, .int 0 0] }).objs.size = s.heap.objs.size + 1 := Heap.size_push ..
  show _ ∧ _
  rw [hz]
  have he : IsEnum ((s.heap.push { cls := .type "tuple_iterator", data := .fields #[.ref l, .int 0 0] }).push { cls := .type "enumerate", data := .fields #[.none, .bool false, .ref s.heap.objs.size, rawInt 0, .none, .none] }) (s.heap.objs.size + 1) s.heap.objs.size 0 .none := by
    have q := Heap.get?_push_size (s.heap.push { cls := .type "tuple_iterator", data := .fields #[.ref l, .int 0 0] }) (o := { cls := .type "enumerate", data := .fields #[.none, .bool false, .ref s.heap.objs.size, rawInt 0, .none, .none] }) rfl
    rw [hz] at q
    exact q
  exact ⟨⟨_, he, rfl⟩, h _ he ⟨_, Heap.get?_push_of_some _ (Heap.get?_push_size _ rfl), rfl, rfl⟩ fun b o x => Heap.get?_push_of_some _ (Heap.get?_push_of_some _ x)⟩
end
end PySem
namespace K70
open PySem PySem.Spec PyProof.Rows L2

/-! ### enumerate(t), t a tuple -/
def Itn (K : PySem.W.Frag) (a : Addr) : It :=
  ⟨fun i H => ∃ (xs : List V) (x : V), SqT K H a xs ∧ xs[i]? = some x, fun i H v H' => ∃ T x, v = .ref T ∧ H T = none ∧ H' = upd H T (.tup [.int (i : Nat), x]) ∧ ∀ xs, SqT K H a xs → xs[i]? = some x, fun i H => ∃ xs : List V, SqT K H a xs ∧ xs.length = i⟩
theorem turn_enumT {P : Program} {w : World} {K : PySem.W.Frag} {elts : List Expr} {kk : Nat} {tpos : Pos} (a e it : Addr) :
    Turn P w K (.Tuple elts kk tpos) (Itn K a) [e, it] e (fun i h => (∃ old, IsEnum h e it ((i : Nat) : Int) old) ∧ h.IsTupleIter it a i ∧ e ≠ it) where
  mem := by simp
  obj := fun i h st b hb => by
    obtain ⟨⟨old, he⟩, ⟨o, ho, hc, hd⟩, _⟩ := st
    have e' : b = e ∨ b = it := by simpa using hb
    rcases e' with z | z
    · rw [z]; exact ⟨_, he, fun v q => nomatch q⟩
    · rw [z]; exact ⟨o, ho, fun v q => by rw [hd] at q; cases q⟩
  keep := fun i h h' st k => let ⟨⟨old, he⟩, hi, hne⟩ := st; ⟨⟨old, k e (by simp) _ he⟩, hi.at fun o q => k it (by simp) o q, hne⟩
  item := by
    intro X hP hw hK hc i pins s σ H E I hf st hg
    subst hP hw hK
    obtain ⟨⟨old, he⟩, hit, hne⟩ := st
    obtain ⟨xs, x, hq, hx⟩ := hg
    obtain ⟨its, rv, p, hz⟩ := I.tuple hq
    obtain ⟨u, hu, ru⟩ := rv.get hx
    have hel : e < s.heap.objs.size := Heap.lt_size he
    have hil : it < s.heap.objs.size := by obtain ⟨_, q, _⟩ := hit; exact Heap.lt_size q
    have nit : a ≠ it := fun z => by
      obtain ⟨o, ho, hc', _⟩ := hit
      obtain ⟨o', ho', hc'', _⟩ := p
      rw [z, ho] at ho'
      cases ho'
      rw [hc'] at hc''
      exact absurd hc'' (by simp)
    have nea : e ≠ a := fun z => by
      obtain ⟨o', ho', hc'', _⟩ := p
      rw [← z, he] at ho'
      cases ho'
      exact absurd hc'' (by simp)
    have hlt : i < its.toArray.size := by
      rw [List.size_toArray]
      exact (List.getElem?_eq_some_iff.mp hu).1
    refine wpAny_pyNext_enum_itemD (Draws.tuple (A := X.A.in1) (show X.A.in1.handled = none from I.ok.hd hc) it a nit its.toArray) he ⟨hit, p⟩ hlt hne (by simp [hne, nea]) fun x' h' tk hx' ho hit' hT hsz hk => ?_
    obtain rfl : x' = u := by
      have q : its.toArray[i]? = some u := by simpa using hu
      have q' : its.toArray[i]? = some x' := hx'
      rw [q] at q'
      exact (Option.some.inj q').symm
    refine ⟨_, rfl, wpAny_letOwnedTupleGo_enum (s := { s with heap := h', toks := tk + 1 }) ho fun h'' he' sb => ?_⟩
    have hT2 : h''.get? s.heap.objs.size = some { cls := .type "tuple", data := .seq #[.int i tk, x'] } := (sb.2 _ (Nat.ne_of_gt hel)).trans hT
    have new : ObjOk X.prog X.w (upd H s.heap.objs.size (.tup [.int (i : Nat), x])) h'' s.heap.objs.size (.tup [.int (i : Nat), x]) :=
      ⟨by show 2 ≤ sizeLine; decide, [.int i tk, x'], .cons ⟨_, rfl⟩ (.cons ru .nil), ⟨_, hT2, rfl, _, rfl⟩⟩
    have I1 : Inv X pins σ (upd H s.heap.objs.size (.tup [.int (i : Nat), x])) { s with heap := h'', toks := tk + 1 } :=
      I.turnedNew (ch := [e, it]) (fun b ob hb q => (sb.2 b (fun z => hb (by simp [z]))).trans (hk b ob (fun z => hb (by simp [z])) (fun z => hb (by simp [z])) q)) hf (Nat.le_refl _) new
    refine ⟨.ref s.heap.objs.size, _, I1, rfl, ⟨_, x, rfl, I.hok.fresh (Nat.le_refl _), rfl, fun ys hy => by rw [I.tuple_inj hy hq]; exact hx⟩, ⟨⟨x', ?_⟩, hit'.1.at fun o q => (sb.2 it (Ne.symm hne)).trans q, hne⟩, fun b hb => ?_⟩
    · have e1 : ((i + 1 : Nat) : Int) = (i : Int) + 1 := by omega
      rw [e1]; exact he'
    · have hb' : b < s.heap.objs.size := by
        have e' : b = e ∨ b = it := by simpa using hb
        rcases e' with z | z
        · rw [z]; exact hel
        · rw [z]; exact hil
      rw [upd_ne (Nat.ne_of_lt hb')]
      exact (hf b hb).1
  done := by
    intro X hP hw hK hc i pins s σ H E I hf st hg
    subst hP hw hK
    obtain ⟨⟨old, he⟩, hit, hne⟩ := st
    obtain ⟨xs, hq, hx⟩ := hg
    obtain ⟨its, rv, p, hz⟩ := I.tuple hq
    obtain ⟨f0, f1, f2, f3, f4, f5⟩ := hf it (by simp)
    have hl := rv.length
    have nit : a ≠ it := fun z => by
      obtain ⟨o, ho, hc', _⟩ := hit
      obtain ⟨o', ho', hc'', _⟩ := p
      rw [z, ho] at ho'
      cases ho'
      rw [hc'] at hc''
      exact absurd hc'' (by simp)
    have ei : its.toArray.size = i := by rw [List.size_toArray]; omega
    refine wpAny_pyNext_enum_endD (Draws.tuple (A := X.A.in1) (show X.A.in1.handled = none from I.ok.hd hc) it a nit its.toArray) he (by rw [ei]; exact ⟨hit, p⟩) fun h' eb => ⟨rfl, I.turned (t' := s.toks) (fun b o hb q => eb b o hb q) f0 f1 f3 f4 f5⟩
  self := fun A i s Q E st h => let ⟨⟨_, he⟩, _⟩ := st; wpAny_pyIter_enum he h
def iEnumT (K : PySem.W.Frag) (ta : TA) : TI := fun σ H R => ta σ H fun vs H1 => ∃ a xs, vs = [.ref a] ∧ SqT K H1 a xs ∧ R (Itn K a) H1
theorem pi_enumT {X : Cx} {e : Expr} {ta : TA} {p pos tpos : Pos} {elts : List Expr} {kk : Nat} (hg : Gl X "enumerate") (hm : X.mg "enumerate" = none) (ha : PA X [e] ta) (hs : starEach [e] X.env = [(false, eval e X.env)] := by rfl) :
    PI X (.Tuple elts kk tpos) (.Call (.Name "enumerate" p) [e] [] pos) (iEnumT X.K ta) := by
  refine ⟨fun pins s σ H R I h => ?_⟩
  refine Call_ (ld_blt I hg hm boot_enumerate (PyProof.Rows.callWith_type1 (thn (ha.run pos pins s σ H _ I h) fun us s1 ⟨vs, H1, I1, r1, q1⟩ => ?_) hs rfl))
  obtain ⟨a, xs, ex, hq, q⟩ := q1
  subst ex
  cases r1 with
  | cons r rr =>
    cases rr
    cases r
    obtain ⟨its, rv, p', hz⟩ := I1.tuple hq
    refine k70_enum_tuple p' fun h' he hit hk => wpAny_pyIter_enum he ?_
    refine ⟨s1.heap.objs.size + 1, [s1.heap.objs.size + 1, s1.heap.objs.size], _, _, H1, rfl, I1.kept (t' := s1.toks) hk, turn_enumT a (s1.heap.objs.size + 1) s1.heap.objs.size, ⟨⟨.none, he⟩, hit, Nat.succ_ne_self _⟩, fun b hb => ?_, q⟩
    have hle : s1.heap.objs.size ≤ b := by
      have e' : b = s1.heap.objs.size + 1 ∨ b = s1.heap.objs.size := by simpa using hb
      rcases e' with z | z
      · rw [z]; exact Nat.le_add_right _ _
      · rw [z]; exact Nat.le_refl _
    exact I1.fpOk hle (I1.hok.fresh hle)
theorem walk_enumT {K : PySem.W.Frag} {a : Addr} {xs : List V} : Walk (Itn K a) xs.length (fun H => SqT K H a xs) (YPair (fun i => some (.int (i : Nat))) (fun i => xs[i]?)) :=
  ⟨fun i _ hi q => ⟨xs, xs[i], q, by simp [hi]⟩, fun _ q => ⟨xs, q, rfl⟩, fun _ _ _ _ _ q ⟨T, x, e1, e2, e3, e4⟩ => ⟨T, _, x, e1, e2, e3, rfl, e4 xs q⟩⟩

/-! ### a | b (and its like), both of one class of the text -/
section
variable {X : Cx} {CX : CXT} {C f : Addr} {fd : FuncData} {ps : List Str} {sp : Sp} {E : XK} {k : Nat} {op : Operator}
theorem op_own (c : PySem.W.selfFirst X.K C = true) (hs : PySem.W.findIn X.K (.ref C) (PySem.dunder op.info.2) = some (some (.ref f))) (hf : PySem.W.isFn X.K (.ref f) = true)
    (F : FnOk X.prog X.w X.K X.mg X.base CX k f fd ps sp) (hr : Room k X.A) (hb : Binds X.K fd ps []) (hx : Passes CX X E) :
    OpR X (binaryOp op) (fun x y H Q => ∃ a b dx dy fs gs, x = .ref a ∧ y = .ref b ∧ H a = some (.ins C dx fs) ∧ H b = some (.ins C dy gs) ∧ sp [.ref a, .ref b] H Q E) := by
  intro pins s σ H x y v u Q I rx ry hq
  obtain ⟨a, b, dx, dy, fs, gs, rfl, rfl, ha, hb', q⟩ := hq
  cases rx
  cases ry
  obtain ⟨mA, J, _⟩ := ins_get I.hok ha
  obtain ⟨mB, J', _⟩ := ins_get I.hok hb'
  obtain ⟨od, J, _⟩ := J.look
  obtain ⟨od', J', _⟩ := J'.look
  obtain ⟨m, hF⟩ := I.fr
  refine PySem.W.binop_K hF I.ok.mod.kin J J'.type c hs hf (wpAny_mono (run_fn (us := [.ref a, .ref b]) (vs := [.ref a, .ref b]) F hr hb .nil hx I (.cons rfl (.cons rfl .nil)) q) (fun w s' hw => ?_) fun _ _ z => z)
  obtain ⟨z, H', I', rz, qz⟩ := hw
  have fin : EP X pins σ Q w s' := ⟨z, H', I', rz, qz⟩
  cases w <;> first | exact fin | (exfalso; cases z <;> (simp [L2.RelV] at rz))
end

/-! ### C(*xs), C(a, .., *xs) -/
section
variable {X : Cx} {CX : CXT} {k : Nat} {f C : Addr} {sp : Sp} {E : XK} {x : Str} {e : Expr} {es : List Expr} {te : TE} {t : TA} {p sp_ pos : Pos}
theorem pe_makeS1 (M : Mk X.K C f) (F : FnR X.prog X.w X.K X.mg X.base CX k f sp) (hr : Room (k + 1) X.A) (hg : Gl X x) (hm : X.mg x = some (.ref C)) (hx : Passes CX X E) (he : PE X e te) (hd : (x == ("__debug__" : Str)) = false := by decide)
    (hst : starEach [.Starred e sp_] X.env = [(true, eval e X.env)] := by rfl) :
    PE X (.Call (.Name x p) [.Starred e sp_] [] pos) (fun σ H Q => te σ H fun y H1 => ∃ a vs, y = V.ref a ∧ (SqT X.K H1 a vs ∨ SqL X.K H1 a vs) ∧ ∀ o dx, H1 o = Option.none → H1 dx = Option.none → dx ≠ o →
      sp (V.ref o :: vs) (upd (upd H1 dx (.own o)) o (.ins C dx [])) (fun v H2 => v = .non ∧ Q (.ref o) H2) E) := by
  refine ⟨fun pins s σ H Q I h => ?_⟩
  refine wpAny_Call_Name_kw (ld_glob I hg hm ?_ hd)
  refine PySem.W.callWith_S (h₀ := X.base) I.ok.mod.kin M.kp (thn (he.run pins s σ H _ I h) fun v s1 ⟨y, H1, I1, ry, a, vs, ey, hxs, q⟩ => ?_) hst
  subst ey
  obtain rfl : v = Value.ref a := ry
  exact StX.star_any I1 hxs fun us s2 I2 rv => ⟨I2.kIn, StX.run_makeR M F hr hx I2 rv q⟩
theorem pe_makeS2 (M : Mk X.K C f) (F : FnR X.prog X.w X.K X.mg X.base CX k f sp) (hr : Room (k + 1) X.A) (hg : Gl X x) (hm : X.mg x = some (.ref C)) (hx : Passes CX X E) (ha : PA X (e :: es) t) (hd : (x == ("__debug__" : Str)) = false := by decide)
    (he : starEach (e :: es) X.env = (false, eval e X.env) :: starEach es X.env := by rfl) (hst : (backTo pos (starEach es X.env)).any (·.1) = true := by rfl) :
    PE X (.Call (.Name x p) (e :: es) [] pos) (StX.tMakeR C sp E t) := by
  refine ⟨fun pins s σ H Q I h => ?_⟩
  refine wpAny_Call_Name_kw (ld_glob I hg hm ?_ hd)
  refine PySem.W.callWith_S2 (h₀ := X.base) I.ok.mod.kin M.kp (thn (ha.run pos pins s σ H _ I h) fun us s1 ⟨vs, H1, I1, r, q⟩ => ⟨I1.kIn, ?_⟩) he hst
  exact StX.run_makeR M F hr hx I1 r q
/-- three parameters ahead of a star -/
theorem bind_star3 {B : List Value → Sem (List (Str × Value))} {p1 p2 p3 pv : Str} (h0 : ∀ a b c, B [a, b, c] = (newTuple [] >>= fun t => pure [(p1, a), (p2, b), (p3, c), (pv, t)]))
    (h1 : ∀ a b c r rs, B (a :: b :: c :: r :: rs) = (newTuple (r :: rs) >>= fun t => pure [(p1, a), (p2, b), (p3, c), (pv, t)])) :
    ∀ us rest : List Value, us.length = [p1, p2, p3].length → B (us ++ rest) = (newTuple rest >>= fun t => pure ([p1, p2, p3].zip us ++ [(pv, t)]))
  | [a, b, c], [], _ => h0 a b c
  | [a, b, c], r :: rs, _ => h1 a b c r rs
end

/-! ### {t: v}, t a tuple of ints and texts -/
def tDispT (tk tv : TE) : TE := fun σ H Q => ∀ p, H p = none → tPairs [(tk, tv)] σ (upd H p (.dT [])) fun ps H2 => ∃ y v, ps = [(y, v)] ∧ H2 p = some (.dT []) ∧ ∃ b k, y = .ref b ∧ H2 b = some (.tup (k.map kV)) ∧ Q (.ref p) (upd H2 p (.dT [(k, v)]))
theorem pe_dispT {X : Cx} {pos : Pos} {ke ve : Expr} {tk tv : TE} (hu : X.A.units + 1 < cLine) (hk : PE X ke tk) (hv : PE X ve tv) : PE X (.Dict [some ke] [ve] pos) (tDispT tk tv) := by
  refine ⟨fun pins s σ H Q I q => ?_⟩
  have hn := I.hok.fresh (Nat.le_refl s.heap.objs.size)
  have I1 := I.laid (a := s.heap.objs.size) (o := .dT []) (h' := s.heap.push { cls := .type "dict", data := .dict #[] }) (t' := s.toks) (fun _ _ q => Heap.get?_push_of_some _ q) (Nat.le_refl _) (dt_empty s.heap I.big)
  rw [arm_eval_Dict, show (evalEachOpt [some ke] X.env).zip ((evalEach [ve] X.env).map fun v => do let x ← v; standAt pos; pure x) = (pairTrees [some ke] [ve] X.env pos).map fun p => (some p.1, p.2) from rfl,
    dictDisplay_pairs (pairTrees [some ke] [ve] X.env pos) (by simp [pairTrees]) (by simp [pairTrees])]
  refine wpAny_bind (wpAny_standAt (wpAny_bind (wpAny_subDictH (knd := tupleKind (mixKind X.prog X.w)) (Q := fun d s' => wpAny (model X.prog X.w) X.A (pure (Value.ref d)) (EP X pins σ Q) X.xe s') (show X.A.units < cLine by omega) (by simp [pairTrees])
    (thn ((pps_cons hk hv (pps_nil (X := X) (pos := pos))).run pins _ σ _ (fun ps H2 => ∃ y v, ps = [(y, v)] ∧ H2 s.heap.objs.size = some (.dT []) ∧ ∃ b k, y = .ref b ∧ H2 b = some (.tup (k.map kV)) ∧ Q (.ref s.heap.objs.size) (upd H2 s.heap.objs.size (.dT [(k, v)]))) I1 (q _ hn)) fun ws s2 hh => ?_))))
  · obtain ⟨ps, H2, I2, rel, y, v, ep, e, b, k, ey, eb, q2⟩ := hh
    subst ep
    cases rel with
    | @cons pq ww _ wr r0 rt =>
      cases rt
      obtain ⟨r1, r2⟩ := r0
      obtain ⟨w1, w2⟩ := ww
      subst ey
      obtain rfl : w1 = Value.ref b := r1
      obtain ⟨z, hd, xs, r00, dd⟩ := dt_of I2.hok e
      cases r00
      refine ⟨[(k, b, w2)], ⟨rfl, rfl, key_of I2.hok eb, trivial⟩, dd, fun h' tk dd' hs => wpAny_pure ⟨.ref s.heap.objs.size, _, ?_, rfl, q2⟩⟩
      obtain ⟨oo, es, ep, hq, h2, h3, h4, _, h5⟩ := dd'
      refine d_write I2 (by rw [e]; exact True.intro) hs ⟨oo, hq⟩ ⟨by show 1 ≤ sizeLine; rw [sizeLine_eq]; decide, hd, [(k, b, w2)], .cons ⟨rfl, ?_, r2⟩ .nil, oo, es, ep, hq, h2, h3, h4, h5⟩
      rw [upd_ne (ne_of eb e (fun z => nomatch z))]
      exact eb
end K70

/-! ## What stands in the heap, and how a def of the text is called -/
namespace K70
open PySem PySem.Spec PyProof.Rows L2

def topS (i : Nat) : Stmt := PySem.Challenge.pw_widestparcels_k70_whole_house_papers_of.main.body.getD i (.Pass ⟨0, 0, 0, 0⟩)

theorem iteD {c A B : Prop} [Decidable c] (h1 : c → A) (h2 : ¬ c → B) : if decide c = true then A else B := by
  by_cases h : c
  · rw [if_pos (decide_eq_true h)]; exact h1 h
  · rw [if_neg (by simpa using h)]; exact h2 h
theorem iteN {c A B : Prop} [Decidable c] (h1 : ¬ c → A) (h2 : c → B) : if (!decide c) = true then A else B := by
  by_cases h : c
  · rw [if_neg (by simpa using h)]; exact h2 h
  · rw [if_pos (by simpa using h)]; exact h1 h
theorem iteB {b : Bool} {A B : Prop} (h1 : b = true → A) (h2 : b = false → B) : if b = true then A else B := by
  cases b with
  | true => rw [if_pos rfl]; exact h1 rfl
  | false => rw [if_neg Bool.false_ne_true]; exact h2 rfl
/-! ### calls -/
/-- the module's def x keeps the promise sp -/
def Av (P : Program) (w : World) (K : PySem.W.Frag) (mg : Str → Option Value) (base : Heap) (CX : CXT) (k : Nat) (x : Str) (ps : List Str) (sp : Sp) : Prop :=
  ∃ f fd, FnOk P w K mg base CX k f fd ps sp ∧ mg x = some (.ref f) ∧ PySem.W.keepIn K (.ref f) = true ∧ Binds K fd ps []
section
variable {X : Cx} {CX : CXT} {k j : Nat} {x : Str} {ps : List Str} {sp : Sp} {E : XK} {e : Expr} {es : List Expr} {t : TA} {p pos : Pos}
theorem Av.call (A : Av X.prog X.w X.K X.mg X.base CX k x ps sp) (hr : Room j X.A) (hk : k ≤ j) (hx : Passes CX X E) (ha : PA X (e :: es) t) (hg : Gl X x := by rfl) (hd : (x == ("__debug__" : Str)) = false := by decide)
    (he : starEach (e :: es) X.env = (false, eval e X.env) :: starEach es X.env := by rfl) (hpl : (backTo pos (starEach es X.env)).any (·.1) = false := by rfl) : PE X (.Call (.Name x p) (e :: es) [] pos) (tCall sp [] E t) := by
  obtain ⟨f, fd, F, m, kp, b⟩ := A
  exact pe_call F (hr.mono hk) hg m kp b .nil hx ha hd he hpl
end
/-- the names of built-ins are nobody's -/
structure Bs (mg : Str → Option Value) : Prop where
  len : mg "len" = none
  range : mg "range" = none
  isi : mg "isinstance" = none
  int : mg "int" = none
  bool : mg "bool" = none
  tup : mg "tuple" = none
  lst : mg "list" = none
  abs : mg "abs" = none
  max : mg "max" = none
  min : mg "min" = none
  any : mg "any" = none
  enum : mg "enumerate" = none
  srt : mg "sorted" = none

/-! ### the heap: what is new, what stays -/
theorem same_new {H : Hp} {p : Addr} (h : H p = none) (o : HO) : Same H (upd H p o) := fun b u q => by rw [upd_ne (ne_of_none q h)]; exact q
theorem _root_.L2.Same.new {H H1 : Hp} {p : Addr} (s : Same H H1) (h : H1 p = none) (o : HO) : Same H (upd H1 p o) := s.trans (same_new h o)
/-- all but the object at st stays -/
def Kp (st : Addr) (H H' : Hp) : Prop := ∀ b o, b ≠ st → H b = some o → H' b = some o
theorem Kp.refl (st : Addr) (H : Hp) : Kp st H H := fun _ _ _ h => h
theorem Kp.trans {st : Addr} {H H1 H2 : Hp} (a : Kp st H H1) (b : Kp st H1 H2) : Kp st H H2 := fun c o n h => b c o n (a c o n h)
theorem Kp.same {st : Addr} {H H' : Hp} (s : Same H H') : Kp st H H' := fun b o _ h => s b o h
theorem Kp.at {st : Addr} {H : Hp} {o : HO} : Kp st H (upd H st o) := fun b u n h => by rw [upd_ne n]; exact h

/-! ### data -/
def Fl.v : Fl → V
  | .non => .non
  | .bl b => .bl b
  | .int i => .int i
  | .str s => .str s
def Fl.d : Fl → PyData
  | .non => .none
  | .bl b => .bool b
  | .int i => .int i
  | .str s => .str s
/-- a case stands as v -/
def CsAt (H : Hp) (v : V) : Cs → Prop
  | .fl f => v = f.v
  | .tup fs => ∃ a, v = .ref a ∧ H a = some (.tup (fs.map Fl.v))
  | .lst fs => ∃ a, v = .ref a ∧ H a = some (.lst (fs.map Fl.v)) ∧ fs.length ≤ 3
def PrAt (H : Hp) (v : V) (p : Cs × Fl) : Prop := ∃ t c, v = .ref t ∧ H t = some (.tup [c, p.2.v]) ∧ CsAt H c p.1
/-- the pairs stand as the items of a list -/
def PsIt (H : Hp) (vs : List V) (ps : List (Cs × Fl)) : Prop := vs.length = ps.length ∧ ∀ (i : Nat) v p, vs[i]? = some v → ps[i]? = some p → PrAt H v p
def PsAt (H : Hp) (a : Addr) (ps : List (Cs × Fl)) : Prop := ∃ vs, H a = some (.lst vs) ∧ PsIt H vs ps
theorem CsAt.same {H H' : Hp} {v : V} {c : Cs} (h : CsAt H v c) (s : Same H H') : CsAt H' v c := by
  cases c with
  | fl f => exact h
  | tup fs => obtain ⟨a, e, q⟩ := h; exact ⟨a, e, s _ _ q⟩
  | lst fs => obtain ⟨a, e, q, l⟩ := h; exact ⟨a, e, s _ _ q, l⟩
theorem PrAt.same {H H' : Hp} {v : V} {p : Cs × Fl} (h : PrAt H v p) (s : Same H H') : PrAt H' v p := by
  obtain ⟨t, c, e, q, z⟩ := h
  exact ⟨t, c, e, s _ _ q, z.same s⟩
theorem PsIt.same {H H' : Hp} {vs : List V} {ps : List (Cs × Fl)} (h : PsIt H vs ps) (s : Same H H') : PsIt H' vs ps := ⟨h.1, fun i v p a b => (h.2 i v p a b).same s⟩
theorem PsAt.same {H H' : Hp} {a : Addr} {ps : List (Cs × Fl)} (h : PsAt H a ps) (s : Same H H') : PsAt H' a ps := by
  obtain ⟨vs, e, q⟩ := h
  exact ⟨vs, s _ _ e, q.same s⟩
/-- the law's state: four numbers -/
def StAt (H : Hp) (st : Addr) : Prop := ∃ a b c d : Int, H st = some (.lst [.int a, .int b, .int c, .int d])
theorem StAt.ne_lst {H : Hp} {st a : Addr} {vs : List V} (h : StAt H st) (e : H a = some (.lst vs)) (n : vs.length ≠ 4) : a ≠ st := fun z => by
  obtain ⟨_, _, _, _, q⟩ := h
  rw [z, q] at e
  have e' := HO.lst.inj (Option.some.inj e)
  exact n (by rw [← e']; rfl)
theorem StAt.ne_oth {H : Hp} {st a : Addr} {o : HO} (h : StAt H st) (e : H a = some o) (n : ∀ xs, o ≠ .lst xs) : a ≠ st := fun z => by
  obtain ⟨_, _, _, _, q⟩ := h
  rw [z, q] at e
  exact n _ (Option.some.inj e).symm
theorem CsAt.kp {st : Addr} {H H' : Hp} {v : V} {c : Cs} (h : CsAt H v c) (hs : StAt H st) (s : Kp st H H') : CsAt H' v c := by
  cases c with
  | fl f => exact h
  | tup fs => obtain ⟨a, e, q⟩ := h; exact ⟨a, e, s _ _ (hs.ne_oth q fun _ z => nomatch z) q⟩
  | lst fs => obtain ⟨a, e, q, l⟩ := h; exact ⟨a, e, s _ _ (hs.ne_lst q (by rw [List.length_map]; omega)) q, l⟩
theorem PrAt.kp {st : Addr} {H H' : Hp} {v : V} {p : Cs × Fl} (h : PrAt H v p) (hs : StAt H st) (s : Kp st H H') : PrAt H' v p := by
  obtain ⟨t, c, e, q, z⟩ := h
  exact ⟨t, c, e, s _ _ (hs.ne_oth q fun _ z => nomatch z) q, z.kp hs s⟩
theorem PsIt.kp {st : Addr} {H H' : Hp} {vs : List V} {ps : List (Cs × Fl)} (h : PsIt H vs ps) (hs : StAt H st) (s : Kp st H H') : PsIt H' vs ps := ⟨h.1, fun i v p a b => (h.2 i v p a b).kp hs s⟩
theorem PsAt.ne {st a : Addr} {H : Hp} {ps : List (Cs × Fl)} (h : PsAt H a ps) (hs : StAt H st) : a ≠ st := fun z => by
  obtain ⟨vs, e, q⟩ := h
  obtain ⟨i1, i2, i3, i4, q1⟩ := hs
  rw [z, q1] at e
  have e' := HO.lst.inj (Option.some.inj e)
  subst e'
  have hl : ps.length = 4 := q.1.symm
  have h0 : ps[0]? = some (ps[0]'(by omega)) := List.getElem?_eq_getElem _
  obtain ⟨t, c, ev, _⟩ := q.2 0 _ _ rfl h0
  cases ev
theorem PsAt.kp {st : Addr} {H H' : Hp} {a : Addr} {ps : List (Cs × Fl)} (h : PsAt H a ps) (hs : StAt H st) (s : Kp st H H') : PsAt H' a ps := by
  have n := h.ne hs
  obtain ⟨vs, e, q⟩ := h
  exact ⟨vs, s _ _ n e, q.kp hs s⟩
/-- a list of the written part -/
def KL (K : PySem.W.Frag) (a : Addr) (xs : List V) : Prop :=
  ∃ (o : Obj) (its : Array Value) (n : Nat), K.lookup a = some o ∧ o.cls = .type "list" ∧ o.dict = none ∧ o.data = .seq its n ∧ its.size ≤ sizeLine ∧ Vals xs its.toList
/-- the script, read only -/
def Scr (K : PySem.W.Frag) (H : Hp) (a : Addr) (ns : List Int) : Prop := (∃ o, H a = some (.frz o (.lst (ns.map V.int)))) ∨ KL K a (ns.map V.int)
theorem Scr.sq {K : PySem.W.Frag} {H : Hp} {a : Addr} {ns : List Int} (h : Scr K H a ns) : SqL K H a (ns.map V.int) := h.elim (fun ⟨o, e⟩ => .inl (.inr ⟨o, e⟩)) fun e => .inr e
theorem Scr.of {K : PySem.W.Frag} {H : Hp} {a : Addr} {ns : List Int} (h : SqL K H a (ns.map V.int)) (ho : Only H) : Scr K H a ns := by
  rcases h with (h | ⟨o, h⟩) | h
  · rcases ho a with z | ⟨o, xs, z⟩
    · rw [h] at z; cases z
    · rw [h] at z; cases z
  · exact .inl ⟨o, h⟩
  · exact .inr h
theorem Scr.kp {K : PySem.W.Frag} {st : Addr} {H H' : Hp} {a : Addr} {ns : List Int} (h : Scr K H a ns) (hs : StAt H st) (s : Kp st H H') : Scr K H' a ns := by
  rcases h with ⟨o, e⟩ | h
  · exact .inl ⟨o, s _ _ (hs.ne_oth e fun _ z => nomatch z) e⟩
  · exact .inr h
theorem Scr.same {K : PySem.W.Frag} {H H' : Hp} {a : Addr} {ns : List Int} (h : Scr K H a ns) (s : Same H H') : Scr K H' a ns := by
  rcases h with ⟨o, e⟩ | h
  · exact .inl ⟨o, s _ _ e⟩
  · exact .inr h

/-! ### states as values -/
def StV (H : Hp) (v : V) (c : Nat × Nat) : Prop := ∃ t, v = .ref t ∧ H t = some (.tup [.int (c.1 : Nat), .int (c.2 : Nat)])
def StIt (H : Hp) (vs : List V) (cs : List (Nat × Nat)) : Prop := vs.length = cs.length ∧ ∀ (i : Nat) v c, vs[i]? = some v → cs[i]? = some c → StV H v c
theorem StV.same {H H' : Hp} {v : V} {c : Nat × Nat} (h : StV H v c) (s : Same H H') : StV H' v c := by
  obtain ⟨t, e, q⟩ := h
  exact ⟨t, e, s _ _ q⟩
theorem StIt.same {H H' : Hp} {vs : List V} {cs : List (Nat × Nat)} (h : StIt H vs cs) (s : Same H H') : StIt H' vs cs := ⟨h.1, fun i v c a b => (h.2 i v c a b).same s⟩
theorem StIt.nil {H : Hp} : StIt H [] [] := ⟨rfl, fun i v c a => by simp at a⟩
theorem StIt.snoc {H : Hp} {vs : List V} {cs : List (Nat × Nat)} {v : V} {c : Nat × Nat} (h : StIt H vs cs) (hv : StV H v c) : StIt H (vs ++ [v]) (cs ++ [c]) := by
  refine ⟨by rw [List.length_append, List.length_append, h.1]; rfl, fun i u d a b => ?_⟩
  by_cases hi : i < vs.length
  · rw [List.getElem?_append_left hi] at a
    rw [List.getElem?_append_left (by rw [← h.1]; exact hi)] at b
    exact h.2 i u d a b
  · rw [List.getElem?_append_right (Nat.le_of_not_lt hi)] at a
    rw [List.getElem?_append_right (by rw [← h.1]; exact Nat.le_of_not_lt hi), ← h.1] at b
    have e : i - vs.length = 0 := by
      obtain ⟨z, _⟩ := List.getElem?_eq_some_iff.mp a
      simpa using z
    rw [e] at a b
    cases (show some v = some u from a)
    cases (show some c = some d from b)
    exact hv
theorem StIt.cons {H : Hp} {vs : List V} {cs : List (Nat × Nat)} {v : V} {c : Nat × Nat} (hv : StV H v c) (h : StIt H vs cs) : StIt H (v :: vs) (c :: cs) := by
  refine ⟨by rw [List.length_cons, List.length_cons, h.1], fun i u d a b => ?_⟩
  cases i with
  | zero =>
    cases (show some v = some u from a)
    cases (show some c = some d from b)
    exact hv
  | succ i => exact h.2 i u d (by simpa using a) (by simpa using b)
theorem StIt.get {H : Hp} {vs : List V} {cs : List (Nat × Nat)} (h : StIt H vs cs) {i : Nat} {v : V} (a : vs[i]? = some v) : ∃ c, cs[i]? = some c ∧ StV H v c := by
  obtain ⟨z, _⟩ := List.getElem?_eq_some_iff.mp a
  have b : cs[i]? = some (cs[i]'(by rw [← h.1]; exact z)) := List.getElem?_eq_getElem _
  exact ⟨_, b, h.2 i v _ a b⟩
theorem PsIt.get {H : Hp} {vs : List V} {ps : List (Cs × Fl)} (h : PsIt H vs ps) {i : Nat} {v : V} (a : vs[i]? = some v) : ∃ p, ps[i]? = some p ∧ PrAt H v p := by
  obtain ⟨z, _⟩ := List.getElem?_eq_some_iff.mp a
  have b : ps[i]? = some (ps[i]'(by rw [← h.1]; exact z)) := List.getElem?_eq_getElem _
  exact ⟨_, b, h.2 i v _ a b⟩

/-! ### types of values -/
def Fl.tn : Fl → String
  | .non => "NoneType"
  | .bl _ => "bool"
  | .int _ => "int"
  | .str _ => "str"
theorem Fl.ty {K : PySem.W.Frag} {H : Hp} (f : Fl) : TyX K H f.v (.type f.tn) := by
  cases f with
  | non => exact .base .non
  | bl b => exact .base (.bl b)
  | int i => exact .base (.int i)
  | str s => exact .base (.str s)
def Fl.isI : Fl → Bool
  | .bl _ => true
  | .int _ => true
  | _ => false
def Fl.isB : Fl → Bool
  | .bl _ => true
  | _ => false
theorem kk_ni : kitB "NoneType" "int" = some false := by decide +kernel
theorem kk_nb : kitB "NoneType" "bool" = some false := by decide +kernel
theorem kk_bi : kitB "bool" "int" = some true := by decide +kernel
theorem kk_bb : kitB "bool" "bool" = some true := by decide +kernel
theorem kk_ii : kitB "int" "int" = some true := by decide +kernel
theorem kk_ib : kitB "int" "bool" = some false := by decide +kernel
theorem kk_si : kitB "str" "int" = some false := by decide +kernel
theorem kk_sb : kitB "str" "bool" = some false := by decide +kernel
theorem kk_nt : kitB "NoneType" "tuple" = some false := by decide +kernel
theorem kk_bt : kitB "bool" "tuple" = some false := by decide +kernel
theorem kk_it : kitB "int" "tuple" = some false := by decide +kernel
theorem kk_st : kitB "str" "tuple" = some false := by decide +kernel
theorem kk_tt : kitB "tuple" "tuple" = some true := by decide +kernel
theorem kk_lt : kitB "list" "tuple" = some false := by decide +kernel
theorem Fl.kI {K : PySem.W.Frag} (f : Fl) : PySem.W.kitOne K (.type f.tn) (.type "int") = some f.isI := by
  cases f with
  | non => exact kit_ty kk_ni
  | bl b => exact kit_ty kk_bi
  | int i => exact kit_ty kk_ii
  | str s => exact kit_ty kk_si
theorem Fl.kB {K : PySem.W.Frag} (f : Fl) : PySem.W.kitOne K (.type f.tn) (.type "bool") = some f.isB := by
  cases f with
  | non => exact kit_ty kk_nb
  | bl b => exact kit_ty kk_bb
  | int i => exact kit_ty kk_ib
  | str s => exact kit_ty kk_sb
theorem Fl.int_iff (f : Fl) : (isNum f).isSome = (f.isI && !f.isB) := by cases f <;> rfl
def Cs.tn : Cs → String
  | .fl f => f.tn
  | .tup _ => "tuple"
  | .lst _ => "list"
def Cs.isT : Cs → Bool
  | .tup _ => true
  | _ => false
theorem Cs.ty {K : PySem.W.Frag} {H : Hp} {v : V} {c : Cs} (h : CsAt H v c) : TyX K H v (.type c.tn) := by
  cases c with
  | fl f =>
    cases (show v = f.v from h)
    exact f.ty
  | tup fs =>
    obtain ⟨a, rfl, e⟩ := h
    exact .base (.tup e)
  | lst fs =>
    obtain ⟨a, rfl, e, _⟩ := h
    exact .base (.lst e)
theorem Cs.kT {K : PySem.W.Frag} (c : Cs) : PySem.W.kitOne K (.type c.tn) (.type "tuple") = some c.isT := by
  cases c with
  | fl f =>
    cases f with
    | non => exact kit_ty kk_nt
    | bl b => exact kit_ty kk_bt
    | int i => exact kit_ty kk_it
    | str s => exact kit_ty kk_st
  | tup fs => exact kit_ty kk_tt
  | lst fs => exact kit_ty kk_lt
/-- what a reason is in Python -/
def oS : Option Str → V
  | none => .non
  | some s => .str s
/-- the table found holds the greatest counts -/
def TopIs (kvs : List (List Key × V)) (t : Top) : Prop := ∀ c : Nat × Nat, valV kvs [Sum.inl (c.1 : Int), Sum.inl (c.2 : Int)] = (t c).map V.int

/-! ### what built-in names are -/
theorem bo_len : bootBuiltins "len" = some (.builtin "len") := by decide +kernel
theorem bo_isi : bootBuiltins "isinstance" = some (.builtin "isinstance") := by decide +kernel
theorem bo_abs : bootBuiltins "abs" = some (.builtin "abs") := by decide +kernel
theorem bo_max : bootBuiltins "max" = some (.builtin "max") := by decide +kernel
theorem bo_min : bootBuiltins "min" = some (.builtin "min") := by decide +kernel
theorem bo_any : bootBuiltins "any" = some (.builtin "any") := by decide +kernel
theorem bo_srt : bootBuiltins "sorted" = some (.builtin "sorted") := by decide +kernel
theorem bo_int : bootBuiltins "int" = some (.type "int") := by decide +kernel
theorem bo_bool : bootBuiltins "bool" = some (.type "bool") := by decide +kernel
theorem bo_tup : bootBuiltins "tuple" = some (.type "tuple") := by decide +kernel
theorem bo_lst : bootBuiltins "list" = some (.type "list") := by decide +kernel
end K70

namespace K70
open PySem PySem.Spec PyProof.Rows L2
abbrev s_is_integer : Stmt := topS 8
theorem sc_is_integer : FnScope ["value"] ["value"] (defScope s_is_integer) := ⟨rfl, rfl, rfl, by decide +kernel, rfl, by decide +kernel, by decide +kernel⟩
abbrev s_law_whole : Stmt := topS 41
theorem sc_law_whole : FnScope ["_law_value"] ["_law_value"] (defScope s_law_whole) := ⟨rfl, rfl, rfl, by decide +kernel, rfl, by decide +kernel, by decide +kernel⟩
def spInt : Sp := fun vs H Q _ => ∃ f : Fl, vs = [f.v] ∧ Q (.bl (isNum f).isSome) H
section
variable {P : Program} {w : World} {K : PySem.W.Frag} {mg : Str → Option Value} {base : Heap} {f : Addr} {fd : FuncData}
theorem isInt_read {Q : VK} {H : Hp} {x : Fl} (h : Q (.bl (isNum x).isSome) H) : if x.isI = true then Q (.bl !x.isB) H else Q (.bl false) H := by
  rw [x.int_iff] at h
  cases e : x.isI with
  | true => rw [e] at h; exact iteT h
  | false => rw [e] at h; exact iteF h
theorem ok_is_integer (F : Fun K "is_integer" "is_integer" s_is_integer f fd) (T : Bs mg) : FnOk P w K mg base CX0 1 f fd ["value"] spInt := by
  refine F.ok sc_is_integer (fun vs H Q E h => ?_) (fun cdv A outer s H vs Q E hr h => ?_)
  · obtain ⟨x, rfl, _⟩ := h
    rfl
  obtain ⟨x, rfl, q⟩ := h
  refine ⟨_, (pss_one (ps_ret (pe_and (pe_callB call_isi (by rfl) T.isi bo_isi (pa_cons (pv 0) (pa_cons (pe_bltn (v := .ty "int") (by rfl) T.int bo_int rfl) pa_nil))) (pe_one (pe_not (pe_callB call_isi (by rfl) T.isi bo_isi (pa_cons (pv 0) (pa_cons (pe_bltn (v := .ty "bool") (by rfl) T.bool bo_bool rfl) pa_nil)))))))), ?_⟩
  refine ⟨_, rfl, _, _, _, _, x.isI, rfl, .ty "int", x.ty, x.kI, x.isI, rfl, ?_⟩
  have z := isInt_read q
  cases e : x.isI with
  | true =>
    rw [e] at z
    exact iteT ⟨_, rfl, _, _, _, _, x.isB, rfl, .ty "bool", x.ty, x.kB, x.isB, rfl, z⟩
  | false =>
    rw [e] at z
    exact iteF z
theorem ok_law_whole (F : Fun K "_law_whole" "_law_whole" s_law_whole f fd) (T : Bs mg) : FnOk P w K mg base CX0 1 f fd ["_law_value"] spInt := by
  refine F.ok sc_law_whole (fun vs H Q E h => ?_) (fun cdv A outer s H vs Q E hr h => ?_)
  · obtain ⟨x, rfl, _⟩ := h
    rfl
  obtain ⟨x, rfl, q⟩ := h
  refine ⟨_, (pss_one (ps_ret (pe_and (pe_callB call_isi (by rfl) T.isi bo_isi (pa_cons (pv 0) (pa_cons (pe_bltn (v := .ty "int") (by rfl) T.int bo_int rfl) pa_nil))) (pe_one (pe_not (pe_callB call_isi (by rfl) T.isi bo_isi (pa_cons (pv 0) (pa_cons (pe_bltn (v := .ty "bool") (by rfl) T.bool bo_bool rfl) pa_nil)))))))), ?_⟩
  refine ⟨_, rfl, _, _, _, _, x.isI, rfl, .ty "int", x.ty, x.kI, x.isI, rfl, ?_⟩
  have z := isInt_read q
  cases e : x.isI with
  | true =>
    rw [e] at z
    exact iteT ⟨_, rfl, _, _, _, _, x.isB, rfl, .ty "bool", x.ty, x.kB, x.isB, rfl, z⟩
  | false =>
    rw [e] at z
    exact iteF z
end
end K70

namespace K70
open PySem PySem.Spec PyProof.Rows L2
abbrev s_check_number : Stmt := topS 9
theorem sc_check_number : FnScope ["what", "value", "low", "high"] ["what", "value", "low", "high"] (defScope s_check_number) := ⟨rfl, rfl, rfl, by decide +kernel, rfl, by decide +kernel, by decide +kernel⟩
def hiV : Option Int → V
  | none => .non
  | some i => .int i
def inHi (i : Int) : Option Int → Bool
  | none => true
  | some h => decide (i ≤ h)
def inRange (f : Fl) (lo : Int) (hi : Option Int) : Bool := match isNum f with
  | some i => decide (lo ≤ i) && inHi i hi
  | none => false
def spChk (C : Addr) : Sp := fun vs H Q E => ∃ (wh : Str) (x : Fl) (lo : Int) (hi : Option Int), vs = [.str wh, x.v, .int lo, hiV hi] ∧ (inRange x lo hi = true → Q x.v H) ∧
  (inRange x lo hi = false → ∀ d, H d = none → E (.ref C) (some d) (upd H d (.xd [(("what" : Str), .str wh), (("value" : Str), x.v)])))
section
variable {P : Program} {w : World} {K : PySem.W.Frag} {mg : Str → Option Value} {base : Heap} {f C : Addr} {fd : FuncData}
theorem ok_check_number (F : Fun K "check_number" "check_number" s_check_number f fd) (T : Bs mg) (TB : BadTxt P K mg "BadNumber" "what" "value" C) (a_is_integer : Av P w K mg base CX0 1 "is_integer" ["value"] spInt) :
    FnOk P w K mg base (L2.CX P w) 3 f fd ["what", "value", "low", "high"] (spChk C) := by
  refine F.okX sc_check_number (fun vs H Q E h => ?_) (fun cdv A outer s H vs Q E hr h => ?_)
  · obtain ⟨wh, x, lo, hi, rfl, _⟩ := h
    rfl
  obtain ⟨wh, x, lo, hi, rfl, q1, q2⟩ := h
  refine ⟨_, (pss_cons (ps_if (PW.pt (pw_or (pt_not (pt_val (a_is_integer.call hr (by decide) pass0 (pa_cons (pv 1) pa_nil)))) (pw_or (pt_cmpR op_lt (pv 1) (pv 2) (nomark _)) (pw_or1 (PW.pt (pw_and (pt_cmpR op_notN (pv 3) pe_non (nomark _)) (pw_and1 (pt_cmpR op_gt (pv 1) (pv 3) (nomark _))))))))) (pss_one (ps_raise rfl (takes_of rfl rfl rfl rfl) (pmk_bad TB (by decide) hr (pa_cons (pv 0) (pa_cons (pv 1) pa_nil)) rfl))) pss_nil)
      (pss_one (ps_ret (pv 1)))), ?_⟩
  have bad : inRange x lo hi = false → tMkBad "what" "value" C (tCons (tVar 0) (tCons (tVar 1) tNil)) (start ["what", "value", "low", "high"] [.str wh, x.v, .int lo, hiV hi]) H fun cls d H' => E cls d H' := fun hb => by
    exact ⟨_, rfl, _, rfl, _, _, rfl, fun d hd => q2 hb d hd⟩
  refine ⟨_, rfl, x, rfl, _, rfl, ?_⟩
  cases e : isNum x with
  | none => exact iteT (iteT (bad (by unfold inRange; rw [e])))
  | some i =>
    have ex : x = .int i := by
      cases x <;> simp [isNum] at e
      rw [e]
    subst ex
    refine iteF ⟨_, rfl, _, rfl, _, _, rfl, rfl, _, rfl, ?_⟩
    refine ite2 (fun c => ?_) (fun c => ?_)
    · exact iteT (bad (by unfold inRange; rw [e]; have c' := of_decide_eq_true c; simp; omega))
    · have c' : ¬ i < lo := of_decide_eq_false (Bool.eq_false_iff.mpr c)
      cases hi with
      | none =>
        refine ⟨_, rfl, rfl, _, rfl, ?_⟩
        refine iteF (iteF ?_)
        exact ⟨_, rfl, q1 (by unfold inRange inHi; rw [e]; simp; omega)⟩
      | some h =>
        refine ⟨_, rfl, rfl, _, rfl, ?_⟩
        refine iteT ⟨_, rfl, _, rfl, _, _, rfl, rfl, _, rfl, ?_⟩
        refine ite2 (fun c2 => ?_) (fun c2 => ?_)
        · exact bad (by unfold inRange inHi; rw [e]; have c' := of_decide_eq_true c2; simp; omega)
        · have c3 : ¬ h < i := of_decide_eq_false (Bool.eq_false_iff.mpr c2)
          exact ⟨_, rfl, q1 (by unfold inRange inHi; rw [e]; simp; omega)⟩
end
end K70

namespace K70
open PySem PySem.Spec PyProof.Rows L2
theorem StV.updL {H : Hp} {v : V} {c : Nat × Nat} {D : Addr} {zs : List V} {o : HO} (h : StV H v c) (e : H D = some (.lst zs)) : StV (upd H D o) v c := by
  obtain ⟨t, ev, q⟩ := h
  exact ⟨t, ev, by rw [upd_ne (ne_of q e fun z => nomatch z)]; exact q⟩
theorem StIt.updL {H : Hp} {vs : List V} {cs : List (Nat × Nat)} {D : Addr} {zs : List V} {o : HO} (h : StIt H vs cs) (e : H D = some (.lst zs)) : StIt (upd H D o) vs cs := ⟨h.1, fun i v c a b => (h.2 i v c a b).updL e⟩
/-- a list made anew, grown or turned: what stood before stands -/
theorem _root_.L2.Same.updL {H H1 : Hp} {D : Addr} {o : HO} (s : Same H H1) (hD : H D = none) : Same H (upd H1 D o) := fun b u q => by
  rw [upd_ne (ne_of_none q hD)]
  exact s b u q
theorem two_line {n : Nat} (h : n ≤ 1000) : n ≤ sizeLine := Nat.le_of_lt (small1000 h)
def toldC (l b : Nat) : List (Nat × Nat) := if l = 1 then [(1, 0)] else (List.range b).map fun k => (k + 1, l - 1)
theorem led_eq (n l b : Nat) : led n l b = (n - b, l) :: toldC l b := rfl
theorem range_snoc (f : Nat → Nat × Nat) (i : Nat) : (List.range (i + 1)).map f = (List.range i).map f ++ [f i] := by rw [List.range_succ, List.map_append]; rfl
abbrev s_told_states : Stmt := topS 17
theorem sc_told_states : FnScope ["state", "below", "number", "left", "kept"] ["state", "below"] (defScope s_told_states) := ⟨rfl, rfl, rfl, by decide +kernel, rfl, by decide +kernel, by decide +kernel⟩
abbrev s_led_states : Stmt := topS 18
theorem sc_led_states : FnScope ["state", "below", "number", "left"] ["state", "below"] (defScope s_led_states) := ⟨rfl, rfl, rfl, by decide +kernel, rfl, by decide +kernel, by decide +kernel⟩
abbrev s_law_next : Stmt := topS 39
theorem sc_law_next : FnScope ["_law_case", "_law_below", "_law_number", "_law_left", "_law_found", "_law_kept"] ["_law_case", "_law_below"] (defScope s_law_next) := ⟨rfl, rfl, rfl, by decide +kernel, rfl, by decide +kernel, by decide +kernel⟩
def spTold : Sp := fun vs H Q _ => ∃ (s : Addr) (n l b : Nat), vs = [.ref s, .int b] ∧ H s = some (.tup [.int (n : Nat), .int (l : Nat)]) ∧ 1 ≤ l ∧ b ≤ 100 ∧
  ∀ (H' : Hp) (r : Addr) (xs : List V), Same H H' → H r = none → H' r = some (.lst xs) → StIt H' xs (toldC l b) → Q (.ref r) H'
def spLed : Sp := fun vs H Q _ => ∃ (s : Addr) (n l b : Nat), vs = [.ref s, .int b] ∧ H s = some (.tup [.int (n : Nat), .int (l : Nat)]) ∧ 1 ≤ l ∧ b ≤ 100 ∧ b ≤ n ∧
  ∀ (H' : Hp) (r : Addr) (xs : List V), Same H H' → H r = none → H' r = some (.lst xs) → StIt H' xs (led n l b) → Q (.ref r) H'
section
variable {P : Program} {w : World} {K : PySem.W.Frag} {mg : Str → Option Value} {base : Heap} {f C : Addr} {fd : FuncData}
/-- the comprehension over kept, in both texts -/
theorem kept_read {l i : Nat} {H H0 : Hp} {D p : Addr} {acc : List V} (hl : 1 ≤ l) (h1 : l ≠ 1) (hD0 : H0 D = none) (eD : H D = some (.lst acc)) (hp : H p = none) (s : Same H0 H) (st : StIt H acc ((List.range i).map fun k => (k + 1, l - 1))) :
    upd H p (.tup [.int (1 + (i : Nat)), .int ((l : Int) - 1)]) D = some (.lst acc) ∧
    Same H0 (upd (upd H p (.tup [.int (1 + (i : Nat)), .int ((l : Int) - 1)])) D (.lst (acc ++ [.ref p]))) ∧
    StIt (upd (upd H p (.tup [.int (1 + (i : Nat)), .int ((l : Int) - 1)])) D (.lst (acc ++ [.ref p]))) (acc ++ [.ref p]) ((List.range (i + 1)).map fun k => (k + 1, l - 1)) := by
  have n : D ≠ p := ne_of_none eD hp
  have e1 : upd H p (.tup [.int (1 + (i : Nat)), .int ((l : Int) - 1)]) D = some (.lst acc) := by rw [upd_ne n]; exact eD
  refine ⟨e1, (s.new hp _).updL hD0, ?_⟩
  rw [range_snoc]
  refine StIt.snoc ((st.same (same_new hp _)).updL e1) (StV.updL ⟨p, rfl, ?_⟩ e1)
  rw [upd_same]
  have a1 : (1 + (i : Int)) = ((i + 1 : Nat) : Int) := by omega
  have a2 : ((l : Int) - 1) = ((l - 1 : Nat) : Int) := by omega
  rw [a1, a2]
theorem ok_told_states (F : Fun K "told_states" "told_states" s_told_states f fd) (T : Bs mg) : FnOk P w K mg base CX0 1 f fd ["state", "below"] spTold := by
  refine F.ok sc_told_states (fun vs H Q E h => ?_) (fun cdv A outer s H vs Q E hr h => ?_)
  · obtain ⟨s, n, l, b, rfl, _⟩ := h
    rfl
  obtain ⟨s, n, l, b, rfl, hs, hl, hb, q⟩ := h
  refine ⟨_, (pss_cons (ps_asg (pv 0) (pg_tup (by rfl) (pgs_cons (pg_name (i := 2) sc_told_states.nd rfl (.inl rfl)) (pgs_cons (pg_name (i := 3) sc_told_states.nd rfl (.inr rfl)) pgs_nil))))
      (pss_cons (ps_if (pt_cmpR op_eq (pv 3) pe_int (nomark _)) (pss_one (ps_ret (pe_lst (pa_cons (pe_tup (pa_cons pe_int (pa_cons pe_int pa_nil))) pa_nil)))) pss_nil)
      (pss_one (ps_ret (pe_lc (own := [("kept", 4)]) rfl sc_told_states.nd (pi_range2 (by rfl) T.range (pa_cons pe_int (pa_cons (pe_op op_add (pv 1) pe_int) pa_nil))) (blkOk_by (N := ["state", "below", "number", "left", "kept"]) (sc := defScope s_told_states) (by decide +kernel)) (fun _ _ _ _ _ => (pg_name (i := 4) sc_told_states.nd rfl (.inl rfl))) (fun _ _ _ _ _ => pts_nil) (fun _ _ _ _ _ => (pe_tup (pa_cons (pv 4) (pa_cons (pe_op op_sub (pv 3) pe_int) pa_nil))))))))), ?_⟩
  refine ⟨_, rfl, s, _, rfl, .of hs, rfl, _, _, rfl, _, _, rfl, rfl, ?_⟩
  refine ⟨_, rfl, rfl, _, rfl, ?_⟩
  refine ite2 (fun c => ?_) (fun c => ?_)
  · have c' : l = 1 := by have z := V.int.inj (of_decide_eq_true c); omega
    refine ⟨two_line (by show 2 ≤ 1000; decide), fun p hp => ⟨two_line (by show 1 ≤ 1000; decide), fun r hr' => ?_⟩⟩
    have n1 : p ≠ r := ne_of_none (upd_same) hr'
    have hr0 : H r = none := by rw [upd_ne (Ne.symm n1)] at hr'; exact hr'
    refine q _ r [.ref p] ((same_new hp _).new hr' _) hr0 upd_same ?_
    unfold toldC
    rw [if_pos c']
    exact StIt.cons ⟨p, rfl, by rw [upd_ne n1, upd_same]; rfl⟩ StIt.nil
  · have c' : l ≠ 1 := fun z => c (decide_eq_true (by rw [z]; rfl))
    refine ⟨_, rfl, _, _, rfl, rfl, 1, (b : Int) + 1, rfl, ⟨by omega, by omega, by omega, by omega⟩, fun D hD => ?_⟩
    refine lc_range (lo := 1) (n := ((b : Int) + 1 - 1).toNat) (fun i H' => ∃ acc, H' D = some (.lst acc) ∧ Same H H' ∧ StIt H' acc ((List.range i).map fun k => (k + 1, l - 1))) ⟨[], upd_same, same_new hD _, StIt.nil⟩ ?_ ?_
    · rintro i H' hi ⟨acc, eD, sm, st⟩
      refine ⟨rfl, _, rfl, _, rfl, _, _, rfl, rfl, two_line (by show 2 ≤ 1000; decide), fun p hp => ?_⟩
      obtain ⟨e1, e2, e3⟩ := kept_read hl c' hD eD hp sm st
      have lz : acc.length < sizeLine := small1000 (by rw [st.1, List.length_map, List.length_range]; omega)
      exact ⟨acc, e1, lz, _, upd_same, e2, e3⟩
    · rintro H' ⟨acc, eD, sm, st⟩
      refine q H' D acc sm hD eD ?_
      have e : ((b : Int) + 1 - 1).toNat = b := by omega
      rw [e] at st
      unfold toldC
      rw [if_neg c']
      exact st
theorem ok_led_states (F : Fun K "led_states" "led_states" s_led_states f fd) (T : Bs mg) (a_told_states : Av P w K mg base CX0 1 "told_states" ["state", "below"] spTold) : FnOk P w K mg base CX0 2 f fd ["state", "below"] spLed := by
  refine F.ok sc_led_states (fun vs H Q E h => ?_) (fun cdv A outer s H vs Q E hr h => ?_)
  · obtain ⟨s, n, l, b, rfl, _⟩ := h
    rfl
  obtain ⟨s, n, l, b, rfl, hs, hl, hb, hbn, q⟩ := h
  refine ⟨_, (pss_cons (ps_asg (pv 0) (pg_tup (by rfl) (pgs_cons (pg_name (i := 2) sc_led_states.nd rfl (.inl rfl)) (pgs_cons (pg_name (i := 3) sc_led_states.nd rfl (.inl rfl)) pgs_nil))))
      (pss_one (ps_ret (pe_op op_cat (pe_lst (pa_cons (pe_tup (pa_cons (pe_op op_sub (pv 2) (pv 1)) (pa_cons (pv 3) pa_nil))) pa_nil)) (a_told_states.call hr (by decide) pass0 (pa_cons (pv 0) (pa_cons (pv 1) pa_nil))))))), ?_⟩
  refine ⟨_, rfl, s, _, rfl, .of hs, rfl, _, _, rfl, _, _, rfl, rfl, ?_⟩
  refine ⟨_, rfl, _, rfl, _, _, rfl, rfl, _, rfl, two_line (by show 2 ≤ 1000; decide), fun p hp => ⟨two_line (by show 1 ≤ 1000; decide), fun r hr' => ?_⟩⟩
  have n1 : p ≠ r := ne_of_none (upd_same) hr'
  have hr0 : H r = none := by rw [upd_ne (Ne.symm n1)] at hr'; exact hr'
  have sm := (same_new hp (.tup [.int ((n : Int) - b), .int (l : Nat)])).new hr' (.lst [.ref p])
  refine ⟨_, rfl, _, rfl, s, n, l, b, rfl, sm _ _ hs, hl, hb, fun H' t xs s2 ht et st => ?_⟩
  have e0 := s2 _ _ (upd_same (H := upd H p (.tup [.int ((n : Int) - b), .int (l : Nat)])) (a := r) (o := .lst [.ref p]))
  have lx : xs.length ≤ 100 := by
    rw [st.1]; unfold toldC; split
    · simp
    · rw [List.length_map, List.length_range]; exact hb
  refine ⟨r, t, [.ref p], xs, rfl, rfl, e0, et, two_line (by show 1 + xs.length ≤ 1000; omega), fun d hd => ?_⟩
  have s3 : Same H (upd H' d (.lst ([.ref p] ++ xs))) := (sm.trans s2).new hd _
  have hd0 : H d = none := (sm.trans s2).free hd
  refine q _ d ([.ref p] ++ xs) s3 hd0 upd_same ?_
  refine StIt.cons ⟨p, rfl, ?_⟩ (st.same (same_new hd _))
  refine (same_new hd _) _ _ (s2 _ _ ?_)
  rw [upd_ne n1, upd_same]
  have a1 : ((n : Int) - b) = ((n - b : Nat) : Int) := by omega
  show some (HO.tup [V.int ((n : Int) - b), V.int (l : Nat)]) = _
  rw [a1]
theorem ok_law_next (F : Fun K "_law_next" "_law_next" s_law_next f fd) (T : Bs mg) : FnOk P w K mg base CX0 1 f fd ["_law_case", "_law_below"] spLed := by
  refine F.ok sc_law_next (fun vs H Q E h => ?_) (fun cdv A outer s H vs Q E hr h => ?_)
  · obtain ⟨s, n, l, b, rfl, _⟩ := h
    rfl
  obtain ⟨s, n, l, b, rfl, hs, hl, hb, hbn, q⟩ := h
  refine ⟨_, (pss_cons (ps_asg (pv 0) (pg_tup (by rfl) (pgs_cons (pg_name (i := 2) sc_law_next.nd rfl (.inl rfl)) (pgs_cons (pg_name (i := 3) sc_law_next.nd rfl (.inr rfl)) pgs_nil))))
      (pss_cons (ps_set (i := 4) sc_law_next.nd rfl (.inl rfl) (pe_lst (pa_cons (pe_tup (pa_cons (pe_op op_sub (pv 2) (pv 1)) (pa_cons (pv 3) pa_nil))) pa_nil)))
      (pss_cons (ps_if (pt_cmpR op_eq (pv 3) pe_int (nomark _)) (pss_one (ps_ret (pe_op op_cat (pv 4) (pe_lst (pa_cons (pe_tup (pa_cons pe_int (pa_cons pe_int pa_nil))) pa_nil))))) pss_nil)
      (pss_one (ps_ret (pe_op op_cat (pv 4) (pe_lc (own := [("_law_kept", 5)]) rfl sc_law_next.nd (pi_range2 (by rfl) T.range (pa_cons pe_int (pa_cons (pe_op op_add (pv 1) pe_int) pa_nil))) (blkOk_by (N := ["_law_case", "_law_below", "_law_number", "_law_left", "_law_found", "_law_kept"]) (sc := defScope s_law_next) (by decide +kernel)) (fun _ _ _ _ _ => (pg_name (i := 5) sc_law_next.nd rfl (.inl rfl))) (fun _ _ _ _ _ => pts_nil) (fun _ _ _ _ _ => (pe_tup (pa_cons (pv 5) (pa_cons (pe_op op_sub (pv 3) pe_int) pa_nil))))))))))), ?_⟩
  refine ⟨_, rfl, s, _, rfl, .of hs, rfl, _, _, rfl, _, _, rfl, rfl, ?_⟩
  refine ⟨_, rfl, _, rfl, _, _, rfl, rfl, _, rfl, two_line (by show 2 ≤ 1000; decide), fun p hp => ⟨two_line (by show 1 ≤ 1000; decide), fun r hr' => ?_⟩⟩
  have n1 : p ≠ r := ne_of_none (upd_same) hr'
  have hr0 : H r = none := by rw [upd_ne (Ne.symm n1)] at hr'; exact hr'
  have sm := (same_new hp (.tup [.int ((n : Int) - b), .int (l : Nat)])).new hr' (.lst [.ref p])
  have e0 := upd_same (H := upd H p (.tup [.int ((n : Int) - b), .int (l : Nat)])) (a := r) (o := .lst [.ref p])
  have hv : StV (upd (upd H p (.tup [.int ((n : Int) - b), .int (l : Nat)])) r (.lst [.ref p])) (.ref p) (n - b, l) := ⟨p, rfl, by
    rw [upd_ne n1, upd_same]
    have a1 : ((n : Int) - b) = ((n - b : Nat) : Int) := by omega
    rw [a1]⟩
  refine ⟨_, rfl, rfl, _, rfl, ?_⟩
  refine ite2 (fun c => ?_) (fun c => ?_)
  · have c' : l = 1 := by have z := V.int.inj (of_decide_eq_true c); omega
    refine ⟨_, rfl, two_line (by show 2 ≤ 1000; decide), fun p2 hp2 => ⟨two_line (by show 1 ≤ 1000; decide), fun r2 hr2 => ?_⟩⟩
    have s2 := (same_new hp2 (.tup [.int 1, .int 0])).new hr2 (.lst [.ref p2])
    have n2 : p2 ≠ r2 := ne_of_none (upd_same) hr2
    refine ⟨r, r2, [.ref p], [.ref p2], rfl, rfl, s2 _ _ e0, upd_same, two_line (by show 2 ≤ 1000; decide), fun d hd => ?_⟩
    refine q _ d _ ((sm.trans s2).new hd _) ((sm.trans s2).free hd) upd_same ?_
    rw [led_eq]
    unfold toldC
    rw [if_pos c']
    exact StIt.cons ((hv.same s2).same (same_new hd _)) (StIt.cons (StV.same ⟨p2, rfl, by rw [upd_ne n2, upd_same]; rfl⟩ (same_new hd _)) StIt.nil)
  · have c' : l ≠ 1 := fun z => c (decide_eq_true (by rw [z]; rfl))
    refine ⟨_, rfl, _, rfl, _, _, rfl, rfl, 1, (b : Int) + 1, rfl, ⟨by omega, by omega, by omega, by omega⟩, fun D hD => ?_⟩
    refine lc_range (lo := 1) (n := ((b : Int) + 1 - 1).toNat) (fun i H' => ∃ acc, H' D = some (.lst acc) ∧ Same (upd (upd H p (.tup [.int ((n : Int) - b), .int (l : Nat)])) r (.lst [.ref p])) H' ∧ StIt H' acc ((List.range i).map fun k => (k + 1, l - 1))) ⟨[], upd_same, same_new hD _, StIt.nil⟩ ?_ ?_
    · rintro i H' hi ⟨acc, eD, sm2, st⟩
      refine ⟨rfl, _, rfl, _, rfl, _, _, rfl, rfl, two_line (by show 2 ≤ 1000; decide), fun p2 hp2 => ?_⟩
      obtain ⟨e1, e2, e3⟩ := kept_read hl c' hD eD hp2 sm2 st
      have lz : acc.length < sizeLine := small1000 (by rw [st.1, List.length_map, List.length_range]; omega)
      exact ⟨acc, e1, lz, _, upd_same, e2, e3⟩
    · rintro H' ⟨acc, eD, sm2, st⟩
      have e : ((b : Int) + 1 - 1).toNat = b := by omega
      rw [e] at st
      refine ⟨r, D, [.ref p], acc, rfl, rfl, sm2 _ _ e0, eD, two_line (by show 1 + acc.length ≤ 1000; rw [st.1, List.length_map, List.length_range]; omega), fun d hd => ?_⟩
      refine q _ d _ ((sm.trans sm2).new hd _) ((sm.trans sm2).free hd) upd_same ?_
      rw [led_eq]
      unfold toldC
      rw [if_neg c']
      exact StIt.cons ((hv.same sm2).same (same_new hd _)) (st.same (same_new hd _))
end
end K70

namespace K70
open PySem PySem.Spec PyProof.Rows L2
abbrev s_is_state : Stmt := topS 19
theorem sc_is_state : FnScope ["value", "start", "number", "left"] ["value", "start"] (defScope s_is_state) := ⟨rfl, rfl, rfl, by decide +kernel, rfl, by decide +kernel, by decide +kernel⟩
abbrev s_law_is_case : Stmt := topS 42
theorem sc_law_is_case : FnScope ["_law_value", "_law_start_here"] ["_law_value", "_law_start_here"] (defScope s_law_is_case) := ⟨rfl, rfl, rfl, by decide +kernel, rfl, by decide +kernel, by decide +kernel⟩
def spIsSt : Sp := fun vs H Q _ => ∃ (v : V) (c : Cs) (s : Addr) (n l : Nat), vs = [v, .ref s] ∧ CsAt H v c ∧ H s = some (.tup [.int (n : Nat), .int (l : Nat)]) ∧ Q (.bl (isSt (n, l) c).isSome) H
theorem isStL_len {st : Nat × Nat} {fs : List Fl} (h : fs.length ≠ 2) : isStL st fs = none := by
  unfold isStL
  split
  · exact absurd rfl h
  · rfl
theorem isStL_two {st : Nat × Nat} {x y : Fl} : isStL st [x, y] = match isNum x, isNum y with
  | some n, some l => if 1 ≤ n ∧ n ≤ (st.1 : Int) ∧ 0 ≤ l ∧ l ≤ (st.2 : Int) ∧ (n = 1 ∨ 0 < l) then some (n.toNat, l.toNat) else none
  | _, _ => none := by cases x <;> cases y <;> rfl
section
variable {P : Program} {w : World} {K : PySem.W.Frag} {mg : Str → Option Value} {base : Heap} {f C : Addr} {fd : FuncData}
theorem ok_is_state (F : Fun K "is_state" "is_state" s_is_state f fd) (T : Bs mg) (a_is_integer : Av P w K mg base CX0 1 "is_integer" ["value"] spInt) : FnOk P w K mg base CX0 2 f fd ["value", "start"] spIsSt := by
  refine F.ok sc_is_state (fun vs H Q E h => ?_) (fun cdv A outer s H vs Q E hr h => ?_)
  · obtain ⟨v, c, s, n, l, rfl, _⟩ := h
    rfl
  obtain ⟨v, c, s, n, l, rfl, hv, hs, q⟩ := h
  have no : isSt (n, l) c = none → Q (.bl false) H := fun e => by rw [e] at q; exact q
  refine ⟨_, (pss_cons (ps_if (PW.pt (pw_or (pt_not (pt_val (pe_callB call_isi (by rfl) T.isi bo_isi (pa_cons (pv 0) (pa_cons (pe_bltn (v := .ty "tuple") (by rfl) T.tup bo_tup rfl) pa_nil))))) (pw_or1 (pt_cmpR op_ne (pe_callB call_len_seq (by rfl) T.len bo_len (pa_cons (pv 0) pa_nil)) pe_int (nomark _))))) (pss_one (ps_ret pe_bl)) pss_nil)
      (pss_cons (ps_asg (pv 0) (pg_tup (by rfl) (pgs_cons (pg_name (i := 2) sc_is_state.nd rfl (.inl rfl)) (pgs_cons (pg_name (i := 3) sc_is_state.nd rfl (.inl rfl)) pgs_nil))))
      (pss_cons (ps_if (PW.pt (pw_or (pt_not (pt_val (a_is_integer.call hr (by decide) pass0 (pa_cons (pv 2) pa_nil)))) (pw_or1 (pt_not (pt_val (a_is_integer.call hr (by decide) pass0 (pa_cons (pv 3) pa_nil))))))) (pss_one (ps_ret pe_bl)) pss_nil)
      (pss_cons (ps_if (PW.pt (pw_or (pt_cmpR op_lt (pv 2) pe_int (nomark _)) (pw_or (pt_cmpR op_gt (pv 2) (pe_ix ix_tup (pv 1) pe_int (fun _ _ => rfl)) (nomark _)) (pw_or (pt_cmpR op_lt (pv 3) pe_int (nomark _)) (pw_or1 (pt_cmpR op_gt (pv 3) (pe_ix ix_tup (pv 1) pe_int (fun _ _ => rfl)) (nomark _))))))) (pss_one (ps_ret pe_bl)) pss_nil)
      (pss_one (ps_ret (pe_or (pe_cmpR op_eq (pv 2) pe_int (nomark _)) (pe_one (pe_cmpR op_gt (pv 3) pe_int (nomark _)))))))))), ?_⟩
  refine ⟨_, rfl, _, _, _, _, c.isT, rfl, .ty "tuple", Cs.ty hv, c.kT, c.isT, rfl, ?_⟩
  cases c with
  | fl x => exact iteT (iteT (no rfl))
  | lst fs => exact iteT (iteT (no rfl))
  | tup fs =>
    obtain ⟨a, rfl, ha⟩ := hv
    refine iteF ⟨_, rfl, a, _, rfl, .inr (.of ha), rfl, _, rfl, ?_⟩
    by_cases hl : fs.length ≠ 2
    · have e : decide (V.int (((fs.map Fl.v).length : Nat) : Int) = V.int 2) = false := decide_eq_false fun z => hl (by have := V.int.inj z; rw [List.length_map] at this; omega)
      rw [e]
      exact iteT (no (isStL_len hl))
    replace hl : fs.length = 2 := Classical.not_not.mp hl
    obtain ⟨x, y, rfl⟩ : ∃ x y, fs = [x, y] := by
      match fs, hl with
      | [x, y], _ => exact ⟨x, y, rfl⟩
    refine iteF ?_
    refine ⟨_, rfl, a, _, rfl, .of ha, rfl, _, _, rfl, _, _, rfl, rfl, ?_⟩
    refine ⟨_, rfl, x, rfl, _, rfl, ?_⟩
    have two := isStL_two (st := (n, l)) (x := x) (y := y)
    cases ex : isNum x with
    | none => exact iteT (iteT (no (by rw [ex] at two; exact two)))
    | some i =>
      refine iteF ⟨_, rfl, y, rfl, _, rfl, ?_⟩
      cases ey : isNum y with
      | none => exact iteT (no (by rw [ex, ey] at two; exact two))
      | some j =>
        rw [ex, ey] at two
        have vx : x.v = .int i := by cases x <;> simp [isNum] at ex; rw [ex]; rfl
        have vy : y.v = .int j := by cases y <;> simp [isNum] at ey; rw [ey]; rfl
        refine iteF ?_
        have bad : ¬ (1 ≤ i ∧ i ≤ (n : Int) ∧ 0 ≤ j ∧ j ≤ (l : Int) ∧ (i = 1 ∨ 0 < j)) → Q (.bl false) H := fun z => no (by
          simp only [isSt]
          rw [two]
          exact if_neg z)
        have good : (1 ≤ i ∧ i ≤ (n : Int) ∧ 0 ≤ j ∧ j ≤ (l : Int) ∧ (i = 1 ∨ 0 < j)) → Q (.bl true) H := fun z => by
          have e : isSt (n, l) (.tup [x, y]) = some (i.toNat, j.toNat) := by
            simp only [isSt]
            rw [two]
            exact if_pos z
          rw [e] at q
          exact q
        rw [vx, vy]
        refine ⟨_, rfl, _, _, rfl, rfl, _, rfl, iteD (fun c => iteT (bad (by omega))) fun c1 => ?_⟩
        refine ⟨_, rfl, _, rfl, s, _, _, _, rfl, rfl, .of hs, rfl, _, _, rfl, rfl, _, rfl, iteD (fun c => iteT (bad (by omega))) fun c2 => ?_⟩
        refine ⟨_, rfl, _, _, rfl, rfl, _, rfl, iteD (fun c => iteT (bad (by omega))) fun c3 => ?_⟩
        refine ⟨_, rfl, _, rfl, s, _, _, _, rfl, rfl, .of hs, rfl, _, _, rfl, rfl, _, rfl, iteD (fun c => (bad (by omega))) fun c4 => ?_⟩
        refine ⟨_, rfl, rfl, _, rfl, iteD (fun c => ?_) fun c5 => ?_⟩
        · have c' := V.int.inj c
          exact good (by omega)
        · have c' : i ≠ 1 := fun z => c5 (by rw [z])
          refine ⟨_, rfl, _, _, rfl, rfl, ?_⟩
          show Q (.bl (decide (0 < j))) H
          by_cases z : 0 < j
          · rw [decide_eq_true z]
            exact good (by omega)
          · rw [decide_eq_false z]
            exact bad (by omega)
theorem ok_law_is_case (F : Fun K "_law_is_case" "_law_is_case" s_law_is_case f fd) (T : Bs mg) (a_law_whole : Av P w K mg base CX0 1 "_law_whole" ["_law_value"] spInt) : FnOk P w K mg base CX0 2 f fd ["_law_value", "_law_start_here"] spIsSt := by
  refine F.ok sc_law_is_case (fun vs H Q E h => ?_) (fun cdv A outer s H vs Q E hr h => ?_)
  · obtain ⟨v, c, s, n, l, rfl, _⟩ := h
    rfl
  obtain ⟨v, c, s, n, l, rfl, hv, hs, q⟩ := h
  have no : isSt (n, l) c = none → Q (.bl false) H := fun e => by rw [e] at q; exact q
  refine ⟨_, (pss_cons (ps_if (PW.pt (pw_or (pt_not (pt_val (pe_callB call_isi (by rfl) T.isi bo_isi (pa_cons (pv 0) (pa_cons (pe_bltn (v := .ty "tuple") (by rfl) T.tup bo_tup rfl) pa_nil))))) (pw_or1 (pt_cmpR op_ne (pe_callB call_len_seq (by rfl) T.len bo_len (pa_cons (pv 0) pa_nil)) pe_int (nomark _))))) (pss_one (ps_ret pe_bl)) pss_nil)
      (pss_cons (ps_if (PW.pt (pw_or (pt_not (pt_val (a_law_whole.call hr (by decide) pass0 (pa_cons (pe_ix ix_tup (pv 0) pe_int (fun _ _ => rfl)) pa_nil)))) (pw_or1 (pt_not (pt_val (a_law_whole.call hr (by decide) pass0 (pa_cons (pe_ix ix_tup (pv 0) pe_int (fun _ _ => rfl)) pa_nil))))))) (pss_one (ps_ret pe_bl)) pss_nil)
      (pss_cons (ps_if (PW.pt (pw_or (pt_not (pt_chain op_le op_le pe_int (pe_ix ix_tup (pv 0) pe_int (fun _ _ => rfl)) (pe_ix ix_tup (pv 1) pe_int (fun _ _ => rfl)))) (pw_or1 (pt_not (pt_chain op_le op_le pe_int (pe_ix ix_tup (pv 0) pe_int (fun _ _ => rfl)) (pe_ix ix_tup (pv 1) pe_int (fun _ _ => rfl))))))) (pss_one (ps_ret pe_bl)) pss_nil)
      (pss_one (ps_ret (pe_or (pe_cmpR op_eq (pe_ix ix_tup (pv 0) pe_int (fun _ _ => rfl)) pe_int (nomark _)) (pe_one (pe_cmpR op_gt (pe_ix ix_tup (pv 0) pe_int (fun _ _ => rfl)) pe_int (nomark _))))))))), ?_⟩
  refine ⟨_, rfl, _, _, _, _, c.isT, rfl, .ty "tuple", Cs.ty hv, c.kT, c.isT, rfl, ?_⟩
  cases c with
  | fl x => exact iteT (iteT (no rfl))
  | lst fs => exact iteT (iteT (no rfl))
  | tup fs =>
    obtain ⟨a, rfl, ha⟩ := hv
    refine iteF ⟨_, rfl, a, _, rfl, .inr (.of ha), rfl, _, rfl, ?_⟩
    by_cases hl : fs.length ≠ 2
    · have e : decide (V.int (((fs.map Fl.v).length : Nat) : Int) = V.int 2) = false := decide_eq_false fun z => hl (by have := V.int.inj z; rw [List.length_map] at this; omega)
      rw [e]
      exact iteT (no (isStL_len hl))
    replace hl : fs.length = 2 := Classical.not_not.mp hl
    obtain ⟨x, y, rfl⟩ : ∃ x y, fs = [x, y] := by
      match fs, hl with
      | [x, y], _ => exact ⟨x, y, rfl⟩
    refine iteF ?_
    refine ⟨_, rfl, a, _, _, x.v, rfl, rfl, .of ha, rfl, x, rfl, _, rfl, ?_⟩
    have two := isStL_two (st := (n, l)) (x := x) (y := y)
    cases ex : isNum x with
    | none => exact iteT (iteT (no (by rw [ex] at two; exact two)))
    | some i =>
      refine iteF ⟨_, rfl, a, _, _, y.v, rfl, rfl, .of ha, rfl, y, rfl, _, rfl, ?_⟩
      cases ey : isNum y with
      | none => exact iteT (no (by rw [ex, ey] at two; exact two))
      | some j =>
        rw [ex, ey] at two
        have vx : x.v = .int i := by cases x <;> simp [isNum] at ex; rw [ex]; rfl
        have vy : y.v = .int j := by cases y <;> simp [isNum] at ey; rw [ey]; rfl
        have ha' : H a = some (.tup [.int i, .int j]) := by rw [ha]; show some (HO.tup [x.v, y.v]) = _; rw [vx, vy]
        refine iteF ?_
        have bad : ¬ (1 ≤ i ∧ i ≤ (n : Int) ∧ 0 ≤ j ∧ j ≤ (l : Int) ∧ (i = 1 ∨ 0 < j)) → Q (.bl false) H := fun z => no (by
          simp only [isSt]
          rw [two]
          exact if_neg z)
        have good : (1 ≤ i ∧ i ≤ (n : Int) ∧ 0 ≤ j ∧ j ≤ (l : Int) ∧ (i = 1 ∨ 0 < j)) → Q (.bl true) H := fun z => by
          have e : isSt (n, l) (.tup [x, y]) = some (i.toNat, j.toNat) := by
            simp only [isSt]
            rw [two]
            exact if_pos z
          rw [e] at q
          exact q
        refine ⟨_, rfl, a, _, _, _, rfl, rfl, .of ha', rfl, _, _, rfl, rfl, _, rfl, iteD (fun c1 => ?_) fun c1 => ⟨_, rfl, iteT (iteT (bad (by omega)))⟩⟩
        refine ⟨_, rfl, s, _, _, _, rfl, rfl, .of hs, rfl, _, _, rfl, rfl, _, rfl, iteN (fun c2 => iteT (bad (by omega))) fun c2 => ?_⟩
        refine ⟨_, rfl, a, _, _, _, rfl, rfl, .of ha', rfl, _, _, rfl, rfl, _, rfl, iteD (fun c3 => ?_) fun c3 => ⟨_, rfl, iteT (bad (by omega))⟩⟩
        refine ⟨_, rfl, s, _, _, _, rfl, rfl, .of hs, rfl, _, _, rfl, rfl, _, rfl, iteN (fun c4 => bad (by omega)) fun c4 => ?_⟩
        refine ⟨_, rfl, a, _, _, _, rfl, rfl, .of ha', rfl, rfl, _, rfl, iteD (fun c => ?_) fun c5 => ?_⟩
        · have c' := V.int.inj c
          exact good (by omega)
        · have c' : i ≠ 1 := fun z => c5 (by rw [z])
          refine ⟨_, rfl, a, _, _, _, rfl, rfl, .of ha', rfl, _, _, rfl, rfl, ?_⟩
          show Q (.bl (decide (0 < j))) H
          by_cases z : 0 < j
          · rw [decide_eq_true z]
            exact good (by omega)
          · rw [decide_eq_false z]
            exact bad (by omega)
end
end K70

namespace K70
open PySem PySem.Spec PyProof.Rows L2
abbrev s_greatest_counts : Stmt := topS 20
theorem sc_greatest_counts : FnScope ["pairs", "start", "found", "state", "count"] ["pairs", "start"] (defScope s_greatest_counts) := ⟨rfl, rfl, rfl, by decide +kernel, rfl, by decide +kernel, by decide +kernel⟩
abbrev s_law_tops : Stmt := topS 43
theorem sc_law_tops : FnScope ["_law_pairs_here", "_law_start_here", "_law_tops_here", "_law_case", "_law_count"] ["_law_pairs_here", "_law_start_here"] (defScope s_law_tops) := ⟨rfl, rfl, rfl, by decide +kernel, rfl, by decide +kernel, by decide +kernel⟩
abbrev s_stands : Stmt := topS 21
theorem sc_stands : FnScope ["found", "state", "count"] ["found", "state", "count"] (defScope s_stands) := ⟨rfl, rfl, rfl, by decide +kernel, rfl, by decide +kernel, by decide +kernel⟩
abbrev s_law_stands : Stmt := topS 44
theorem sc_law_stands : FnScope ["_law_tops_here", "_law_case", "_law_count"] ["_law_tops_here", "_law_case", "_law_count"] (defScope s_law_stands) := ⟨rfl, rfl, rfl, by decide +kernel, rfl, by decide +kernel, by decide +kernel⟩
def key (c : Nat × Nat) : List Key := [Sum.inl (c.1 : Int), Sum.inl (c.2 : Int)]
theorem key_inj {a b : Nat × Nat} (h : key a = key b) : a = b := by
  unfold key at h
  injection h with h1 h2
  injection h2 with h2 _
  have e1 := Sum.inl.inj h1
  have e2 := Sum.inl.inj h2
  exact Prod.ext (by omega) (by omega)
theorem TopIs.nil : TopIs [] (fun _ => none) := fun c => rfl
theorem TopIs.put {kvs : List (List Key × V)} {t : Top} (h : TopIs kvs t) (s : Nat × Nat) (i : Int) : TopIs (putK kvs (key s) (.int i)) (fun c => if c = s then some i else t c) := fun c => by
  show valV (putK kvs (key s) (.int i)) (key c) = _
  rw [valV_put]
  show _ = Option.map V.int (if c = s then some i else t c)
  by_cases e : c = s
  · rw [if_pos (by rw [e]), if_pos e]; rfl
  · rw [if_neg (fun z => e (key_inj z)), if_neg e]
    exact h c
def spTops : Sp := fun vs H Q _ => ∃ (p s : Addr) (ps : List (Cs × Fl)) (n l : Nat), vs = [.ref p, .ref s] ∧ PsAt H p ps ∧ ps.length ≤ 1000 ∧ H s = some (.tup [.int (n : Nat), .int (l : Nat)]) ∧
  ∀ (H' : Hp) (d : Addr) (kvs : List (List Key × V)), Same H H' → H d = none → H' d = some (.dT kvs) → TopIs kvs (tops (n, l) ps) → Q (.ref d) H'
def spStands : Sp := fun vs H Q _ => ∃ (d : Addr) (v : V) (i : Int) (kvs : List (List Key × V)) (t : Top) (c : Nat × Nat), vs = [.ref d, v, .int i] ∧ H d = some (.dT kvs) ∧ TopIs kvs t ∧ StV H v c ∧ Q (.bl (stands t c i)) H
section
variable {P : Program} {w : World} {K : PySem.W.Frag} {mg : Str → Option Value} {base : Heap} {f C : Addr} {fd : FuncData}
theorem take_tops {st : Nat × Nat} {ps : List (Cs × Fl)} {i : Nat} {p : Cs × Fl} (h : ps[i]? = some p) : tops st (ps.take (i + 1)) = addTop st (tops st (ps.take i)) p := by
  rw [List.take_add_one, h]
  exact tops_snoc st _ p
/-- what the loop over the pairs keeps -/
def TopsInv (H : Hp) (d : Addr) (st : Nat × Nat) (ps : List (Cs × Fl)) (i : Nat) (H' : Hp) : Prop := ∃ kvs, H' d = some (.dT kvs) ∧ Same H H' ∧ TopIs kvs (tops st (ps.take i)) ∧ kvs.length ≤ i
theorem stv_key {H : Hp} {v : V} {c : Cs} {st s : Nat × Nat} (hv : CsAt H v c) (h : isSt st c = some s) : ∃ b, v = .ref b ∧ H b = some (.tup ((key s).map kV)) := by
  have e := (isSt_some h).1
  subst e
  obtain ⟨b, ev, hb⟩ := hv
  exact ⟨b, ev, hb⟩
theorem tops_put {H H' : Hp} {d : Addr} {st s : Nat × Nat} {ps : List (Cs × Fl)} {i : Nat} {p : Cs × Fl} {kvs : List (List Key × V)} {j : Int} (hd : H d = none) (e : H' d = some (.dT kvs)) (sm : Same H H') (t : TopIs kvs (tops st (ps.take i))) (hl : kvs.length ≤ i)
    (hp : ps[i]? = some p) (h1 : isSt st p.1 = some s) (h2 : isNum p.2 = some j) (hm : more (tops st (ps.take i) s) j = true) : TopsInv H d st ps (i + 1) (upd H' d (.dT (putK kvs (key s) (.int j)))) := by
  refine ⟨_, upd_same, sm.updL hd, ?_, ?_⟩
  · rw [take_tops hp, addTop_yes h1 h2]
    unfold putTop
    rw [if_pos hm]
    exact t.put s j
  · have := length_putK kvs (key s) (.int j)
    omega
theorem tops_keep {H H' : Hp} {d : Addr} {st : Nat × Nat} {ps : List (Cs × Fl)} {i : Nat} {p : Cs × Fl} {kvs : List (List Key × V)} (e : H' d = some (.dT kvs)) (sm : Same H H') (t : TopIs kvs (tops st (ps.take i))) (hl : kvs.length ≤ i)
    (hp : ps[i]? = some p) (h : addTop st (tops st (ps.take i)) p = tops st (ps.take i)) : TopsInv H d st ps (i + 1) H' := ⟨kvs, e, sm, by rw [take_tops hp, h]; exact t, by omega⟩
theorem ok_greatest_counts (F : Fun K "greatest_counts" "greatest_counts" s_greatest_counts f fd) (T : Bs mg) (a_is_integer : Av P w K mg base CX0 1 "is_integer" ["value"] spInt) (a_is_state : Av P w K mg base CX0 2 "is_state" ["value", "start"] spIsSt) :
    FnOk P w K mg base CX0 3 f fd ["pairs", "start"] spTops := by
  refine F.ok sc_greatest_counts (fun vs H Q E h => ?_) (fun cdv A outer s H vs Q E hr h => ?_)
  · obtain ⟨p, s, ps, n, l, rfl, _⟩ := h
    rfl
  obtain ⟨p, s, ps, n, l, rfl, hp, hlen, hs, q⟩ := h
  have hu := hu_of hr
  refine ⟨_, (pss_cons (ps_set (i := 2) sc_greatest_counts.nd rfl (.inl rfl) pe_dnewT)
      (pss_cons (ps_for PassesOwn.never rfl (pi_list (pv 0)) (pg_tup (by rfl) (pgs_cons (pg_name (i := 3) sc_greatest_counts.nd rfl (.inl rfl)) (pgs_cons (pg_name (i := 4) sc_greatest_counts.nd rfl (.inl rfl)) pgs_nil))) (pss_one (ps_if (PW.pt (pw_and (pt_val (a_is_state.call hr (by decide) pass0 (pa_cons (pv 3) (pa_cons (pv 1) pa_nil)))) (pw_and1 (pt_val (a_is_integer.call hr (by decide) pass0 (pa_cons (pv 4) pa_nil)))))) (pss_one (ps_if (PW.pt (pw_or (pt_cmp (pc_dnotin hu (pv 3) (pv 2))) (pw_or1 (pt_cmpR op_gt (pv 4) (pe_dget hu (pv 2) (pv 3) (fun _ _ => rfl)) (nomark _))))) (pss_one (ps_dput hu (pv 2) (pv 3) (pv 4) rfl)) pss_nil)) pss_nil)))
      (pss_one (ps_ret (pv 2))))), ?_⟩
  intro d hd
  obtain ⟨vs, ep, hvs⟩ := hp
  have sm0 := same_new hd (.dT [])
  refine ⟨_, rfl, p, rfl, ⟨vs, .of (sm0 _ _ ep)⟩, for_list (K := K) (a := p) (xs := vs) (fun i σ H' => ∃ o1 o2, σ = [some (.ref p), some (.ref s), some (.ref d), o1, o2] ∧ TopsInv H d (n, l) ps i H') ⟨none, none, rfl, [], upd_same, sm0, TopIs.nil, Nat.le_refl _⟩ ?_ ?_ ?_⟩
  · rintro i σ H' _ ⟨o1, o2, rfl, kvs, e, sm, _⟩
    exact .of (sm _ _ ep)
  · rintro i x σ H' hx ⟨o1, o2, rfl, kvs, e, sm, tp, hl⟩
    obtain ⟨⟨c, k⟩, hpi, t, cv, rfl, ht, hc⟩ := hvs.get hx
    have hc' := hc.same sm
    have hil : i < ps.length := (List.getElem?_eq_some_iff.mp hpi).1
    refine ⟨t, _, rfl, .of (sm _ _ ht), rfl, _, _, rfl, _, _, rfl, rfl, ?_⟩
    refine ⟨_, rfl, _, rfl, cv, c, s, n, l, rfl, hc', sm _ _ hs, _, rfl, ?_⟩
    cases e1 : isSt (n, l) c with
    | none => exact iteF (iteF ⟨_, _, rfl, tops_keep e sm tp hl hpi (addTop_no e1)⟩)
    | some sx =>
      refine iteT ⟨_, rfl, k, rfl, _, rfl, ?_⟩
      cases e2 : isNum k with
      | none => exact iteF ⟨_, _, rfl, tops_keep e sm tp hl hpi (addTop_no2 e1 e2)⟩
      | some j =>
        obtain ⟨b, rfl, hb⟩ := stv_key hc' e1
        have vk : k.v = .int j := by cases k <;> simp [isNum] at e2; rw [e2]; rfl
        refine iteT ⟨_, rfl, _, rfl, d, _, rfl, DGet.t e hb, _, rfl, ?_⟩
        have vt := tp sx
        have lz : kvs.length < sizeLine := small1000 (by omega)
        cases e3 : tops (n, l) (ps.take i) sx with
        | none =>
          have z : valV kvs (key sx) = none := by rw [e3] at vt; exact vt
          rw [z]
          refine iteT (iteT ?_)
          refine ⟨_, rfl, _, rfl, _, rfl, d, _, rfl, DPut.t e hb lz, _, _, rfl, ?_⟩
          rw [vk]
          exact tops_put hd e sm tp hl hpi e1 e2 (by rw [e3]; rfl)
        | some m =>
          have z : valV kvs (key sx) = some (.int m) := by rw [e3] at vt; exact vt
          rw [z]
          refine iteF ⟨_, rfl, _, rfl, _, rfl, d, .int m, rfl, ?_, _, _, vk, rfl, _, rfl, iteD (fun cc => ?_) fun cc => ?_⟩
          · have g := DGet.t (k := key sx) e hb
            rw [z] at g
            exact g
          · refine ⟨_, rfl, _, rfl, _, rfl, d, _, rfl, DPut.t e hb lz, _, _, rfl, ?_⟩
            rw [vk]
            exact tops_put hd e sm tp hl hpi e1 e2 (by rw [e3]; exact decide_eq_true cc)
          · refine ⟨_, _, rfl, tops_keep e sm tp hl hpi ?_⟩
            rw [addTop_yes e1 e2]
            unfold putTop
            rw [if_neg]
            rw [e3]
            unfold more
            simpa using cc
  · rintro σ H' ⟨o1, o2, rfl, kvs, e, sm, tp, hl⟩
    rw [hvs.1, List.take_length] at tp
    exact ⟨_, rfl, q H' d kvs sm hd e tp⟩
theorem ok_law_tops (F : Fun K "_law_tops" "_law_tops" s_law_tops f fd) (T : Bs mg) (a_law_whole : Av P w K mg base CX0 1 "_law_whole" ["_law_value"] spInt) (a_law_is_case : Av P w K mg base CX0 2 "_law_is_case" ["_law_value", "_law_start_here"] spIsSt) :
    FnOk P w K mg base CX0 3 f fd ["_law_pairs_here", "_law_start_here"] spTops := by
  refine F.ok sc_law_tops (fun vs H Q E h => ?_) (fun cdv A outer s H vs Q E hr h => ?_)
  · obtain ⟨p, s, ps, n, l, rfl, _⟩ := h
    rfl
  obtain ⟨p, s, ps, n, l, rfl, hp, hlen, hs, q⟩ := h
  have hu := hu_of hr
  refine ⟨_, (pss_cons (ps_set (i := 2) sc_law_tops.nd rfl (.inl rfl) pe_dnewT)
      (pss_cons (ps_for PassesOwn.never rfl (pi_list (pv 0)) (pg_tup (by rfl) (pgs_cons (pg_name (i := 3) sc_law_tops.nd rfl (.inl rfl)) (pgs_cons (pg_name (i := 4) sc_law_tops.nd rfl (.inl rfl)) pgs_nil))) (pss_one (ps_if (PW.pt (pw_and (pt_val (a_law_is_case.call hr (by decide) pass0 (pa_cons (pv 3) (pa_cons (pv 1) pa_nil)))) (pw_and1 (pt_val (a_law_whole.call hr (by decide) pass0 (pa_cons (pv 4) pa_nil)))))) (pss_one (ps_if (PW.pt (pw_or (pt_cmp (pc_dnotin hu (pv 3) (pv 2))) (pw_or1 (pt_cmpR op_gt (pv 4) (pe_dget hu (pv 2) (pv 3) (fun _ _ => rfl)) (nomark _))))) (pss_one (ps_dput hu (pv 2) (pv 3) (pv 4) rfl)) pss_nil)) pss_nil)))
      (pss_one (ps_ret (pv 2))))), ?_⟩
  intro d hd
  obtain ⟨vs, ep, hvs⟩ := hp
  have sm0 := same_new hd (.dT [])
  refine ⟨_, rfl, p, rfl, ⟨vs, .of (sm0 _ _ ep)⟩, for_list (K := K) (a := p) (xs := vs) (fun i σ H' => ∃ o1 o2, σ = [some (.ref p), some (.ref s), some (.ref d), o1, o2] ∧ TopsInv H d (n, l) ps i H') ⟨none, none, rfl, [], upd_same, sm0, TopIs.nil, Nat.le_refl _⟩ ?_ ?_ ?_⟩
  · rintro i σ H' _ ⟨o1, o2, rfl, kvs, e, sm, _⟩
    exact .of (sm _ _ ep)
  · rintro i x σ H' hx ⟨o1, o2, rfl, kvs, e, sm, tp, hl⟩
    obtain ⟨⟨c, k⟩, hpi, t, cv, rfl, ht, hc⟩ := hvs.get hx
    have hc' := hc.same sm
    have hil : i < ps.length := (List.getElem?_eq_some_iff.mp hpi).1
    refine ⟨t, _, rfl, .of (sm _ _ ht), rfl, _, _, rfl, _, _, rfl, rfl, ?_⟩
    refine ⟨_, rfl, _, rfl, cv, c, s, n, l, rfl, hc', sm _ _ hs, _, rfl, ?_⟩
    cases e1 : isSt (n, l) c with
    | none => exact iteF (iteF ⟨_, _, rfl, tops_keep e sm tp hl hpi (addTop_no e1)⟩)
    | some sx =>
      refine iteT ⟨_, rfl, k, rfl, _, rfl, ?_⟩
      cases e2 : isNum k with
      | none => exact iteF ⟨_, _, rfl, tops_keep e sm tp hl hpi (addTop_no2 e1 e2)⟩
      | some j =>
        obtain ⟨b, rfl, hb⟩ := stv_key hc' e1
        have vk : k.v = .int j := by cases k <;> simp [isNum] at e2; rw [e2]; rfl
        refine iteT ⟨_, rfl, _, rfl, d, _, rfl, DGet.t e hb, _, rfl, ?_⟩
        have vt := tp sx
        have lz : kvs.length < sizeLine := small1000 (by omega)
        cases e3 : tops (n, l) (ps.take i) sx with
        | none =>
          have z : valV kvs (key sx) = none := by rw [e3] at vt; exact vt
          rw [z]
          refine iteT (iteT ?_)
          refine ⟨_, rfl, _, rfl, _, rfl, d, _, rfl, DPut.t e hb lz, _, _, rfl, ?_⟩
          rw [vk]
          exact tops_put hd e sm tp hl hpi e1 e2 (by rw [e3]; rfl)
        | some m =>
          have z : valV kvs (key sx) = some (.int m) := by rw [e3] at vt; exact vt
          rw [z]
          refine iteF ⟨_, rfl, _, rfl, _, rfl, d, .int m, rfl, ?_, _, _, vk, rfl, _, rfl, iteD (fun cc => ?_) fun cc => ?_⟩
          · have g := DGet.t (k := key sx) e hb
            rw [z] at g
            exact g
          · refine ⟨_, rfl, _, rfl, _, rfl, d, _, rfl, DPut.t e hb lz, _, _, rfl, ?_⟩
            rw [vk]
            exact tops_put hd e sm tp hl hpi e1 e2 (by rw [e3]; exact decide_eq_true cc)
          · refine ⟨_, _, rfl, tops_keep e sm tp hl hpi ?_⟩
            rw [addTop_yes e1 e2]
            unfold putTop
            rw [if_neg]
            rw [e3]
            unfold more
            simpa using cc
  · rintro σ H' ⟨o1, o2, rfl, kvs, e, sm, tp, hl⟩
    rw [hvs.1, List.take_length] at tp
    exact ⟨_, rfl, q H' d kvs sm hd e tp⟩
theorem stands_read {H : Hp} {d b : Addr} {kvs : List (List Key × V)} {t : Top} {c : Nat × Nat} {i : Int} {Q : VK} (e : H d = some (.dT kvs)) (tp : TopIs kvs t) (hb : H b = some (.tup ((key c).map kV))) (q : Q (.bl (stands t c i)) H) :
    ∃ o, DGet H d (.ref b) o ∧ (if o.isSome = true then ∃ j, DGet H d (.ref b) (some (.int j)) ∧ Q (.bl (decide (i ≤ j))) H else Q (.bl false) H) := by
  have g := DGet.t (k := key c) e hb
  have vt := tp c
  refine ⟨_, g, ?_⟩
  cases e3 : t c with
  | none =>
    have z : valV kvs (key c) = none := by rw [e3] at vt; exact vt
    rw [z]
    refine iteF ?_
    unfold stands at q
    rw [e3] at q
    exact q
  | some m =>
    have z : valV kvs (key c) = some (.int m) := by rw [e3] at vt; exact vt
    rw [z] at g ⊢
    refine iteT ⟨m, g, ?_⟩
    unfold stands at q
    rw [e3] at q
    exact q
theorem ok_stands (F : Fun K "stands" "stands" s_stands f fd) (T : Bs mg) : FnOk P w K mg base CX0 1 f fd ["found", "state", "count"] spStands := by
  refine F.ok sc_stands (fun vs H Q E h => ?_) (fun cdv A outer s H vs Q E hr h => ?_)
  · obtain ⟨d, v, i, kvs, t, c, rfl, _⟩ := h
    rfl
  obtain ⟨d, v, i, kvs, t, c, rfl, e, tp, ⟨b, rfl, hb⟩, q⟩ := h
  have hu := hu_of hr
  refine ⟨_, (pss_one (ps_ret (pe_and (pe_cmp (pc_din hu (pv 1) (pv 0)) rfl) (pe_one (pe_cmpR op_ge (pe_dget hu (pv 0) (pv 1) (fun _ _ => rfl)) (pv 2) (nomark _)))))), ?_⟩
  obtain ⟨o, g, z⟩ := stands_read e tp hb q
  refine ⟨_, rfl, _, rfl, d, o, rfl, g, o.isSome, rfl, iteB (fun ho => ?_) fun ho => ?_⟩
  · rw [if_pos ho] at z
    obtain ⟨j, g2, q2⟩ := z
    exact ⟨_, rfl, _, rfl, d, _, rfl, g2, _, rfl, _, _, rfl, rfl, q2⟩
  · rw [if_neg (by rw [ho]; simp)] at z
    exact z
theorem ok_law_stands (F : Fun K "_law_stands" "_law_stands" s_law_stands f fd) (T : Bs mg) : FnOk P w K mg base CX0 1 f fd ["_law_tops_here", "_law_case", "_law_count"] spStands := by
  refine F.ok sc_law_stands (fun vs H Q E h => ?_) (fun cdv A outer s H vs Q E hr h => ?_)
  · obtain ⟨d, v, i, kvs, t, c, rfl, _⟩ := h
    rfl
  obtain ⟨d, v, i, kvs, t, c, rfl, e, tp, ⟨b, rfl, hb⟩, q⟩ := h
  have hu := hu_of hr
  refine ⟨_, (pss_one (ps_ret (pe_and (pe_cmp (pc_din hu (pv 1) (pv 0)) rfl) (pe_one (pe_cmpR op_ge (pe_dget hu (pv 0) (pv 1) (fun _ _ => rfl)) (pv 2) (nomark _)))))), ?_⟩
  obtain ⟨o, g, z⟩ := stands_read e tp hb q
  refine ⟨_, rfl, _, rfl, d, o, rfl, g, o.isSome, rfl, iteB (fun ho => ?_) fun ho => ?_⟩
  · rw [if_pos ho] at z
    obtain ⟨j, g2, q2⟩ := z
    exact ⟨_, rfl, _, rfl, d, _, rfl, g2, _, rfl, _, _, rfl, rfl, q2⟩
  · rw [if_neg (by rw [ho]; simp)] at z
    exact z
end
end K70

namespace K70
open PySem PySem.Spec PyProof.Rows L2
abbrev s_house_fault : Stmt := topS 22
theorem sc_house_fault : FnScope ["found", "pair", "start", "state", "count", "below", "led"] ["found", "pair", "start"] (defScope s_house_fault) := ⟨rfl, rfl, rfl, by decide +kernel, rfl, by decide +kernel, by decide +kernel⟩
abbrev s_law_reason : Stmt := topS 45
theorem sc_law_reason : FnScope ["_law_tops_here", "_law_pair", "_law_start_here", "_law_case", "_law_count", "_law_below", "_law_after_here"] ["_law_tops_here", "_law_pair", "_law_start_here"] (defScope s_law_reason) := ⟨rfl, rfl, rfl, by decide +kernel, rfl, by decide +kernel, by decide +kernel⟩
def spFault : Sp := fun vs H Q _ => ∃ (d : Addr) (v : V) (s : Addr) (kvs : List (List Key × V)) (t : Top) (p : Cs × Fl) (n l : Nat), vs = [.ref d, v, .ref s] ∧ H d = some (.dT kvs) ∧ TopIs kvs t ∧ PrAt H v p ∧
  H s = some (.tup [.int (n : Nat), .int (l : Nat)]) ∧ n ≤ 24 ∧ ∀ H', Same H H' → Q (oS (fault (n, l) t p)) H'
section
variable {P : Program} {w : World} {K : PySem.W.Frag} {mg : Str → Option Value} {base : Heap} {f C : Addr} {fd : FuncData}
theorem stuck_false {t : Top} {n l : Nat} {i : Int} (h : ∀ b, b < n - 1 → (led n l (b + 1)).any (fun c => stands t c (i - 1)) = true) : stuck t n l i = false := by
  unfold stuck
  rw [List.any_eq_false]
  intro b hb
  rw [h b (List.mem_range.mp hb)]
  simp
theorem stuck_true {t : Top} {n l : Nat} {i : Int} {b : Nat} (hb : b < n - 1) (h : (led n l (b + 1)).any (fun c => stands t c (i - 1)) = false) : stuck t n l i = true := by
  unfold stuck
  rw [List.any_eq_true]
  exact ⟨b, List.mem_range.mpr hb, by rw [h]; rfl⟩
theorem take_map_snoc {α β : Type} (g : α → β) {cs : List α} {i : Nat} {c : α} (h : cs[i]? = some c) : (cs.take (i + 1)).map g = (cs.take i).map g ++ [g c] := by
  rw [List.take_add_one, h, List.map_append]
  rfl
theorem ok_house_fault (F : Fun K "house_fault" "house_fault" s_house_fault f fd) (T : Bs mg) (a_is_integer : Av P w K mg base CX0 1 "is_integer" ["value"] spInt) (a_is_state : Av P w K mg base CX0 2 "is_state" ["value", "start"] spIsSt)
    (a_stands : Av P w K mg base CX0 1 "stands" ["found", "state", "count"] spStands) (a_led_states : Av P w K mg base CX0 2 "led_states" ["state", "below"] spLed) :
    FnOk P w K mg base CX0 3 f fd ["found", "pair", "start"] spFault := by
  refine F.ok sc_house_fault (fun vs H Q E h => ?_) (fun cdv A outer s H vs Q E hr h => ?_)
  · obtain ⟨d, v, s, kvs, t, p, n, l, rfl, _⟩ := h
    rfl
  obtain ⟨d, v, s, kvs, t, ⟨c, k⟩, n, l, rfl, hd, tp, ⟨tt, cv, rfl, ht, hc⟩, hs, hn, q⟩ := h
  have hu := hu_of hr
  refine ⟨_, (pss_cons (ps_asg (pv 1) (pg_tup (by rfl) (pgs_cons (pg_name (i := 3) sc_house_fault.nd rfl (.inl rfl)) (pgs_cons (pg_name (i := 4) sc_house_fault.nd rfl (.inr rfl)) pgs_nil))))
      (pss_cons (ps_if (pt_not (pt_val (a_is_state.call hr (by decide) pass0 (pa_cons (pv 3) (pa_cons (pv 2) pa_nil))))) (pss_one (ps_ret pe_str)) pss_nil)
      (pss_cons (ps_if (PW.pt (pw_or (pt_not (pt_val (a_is_integer.call hr (by decide) pass0 (pa_cons (pv 4) pa_nil)))) (pw_or1 (pt_cmpR op_lt (pv 4) pe_int (nomark _))))) (pss_one (ps_ret pe_str)) pss_nil)
      (pss_cons (ps_if (PW.pt (pw_and (pt_cmpR op_gt (pv 4) pe_int (nomark _)) (pw_and1 (pt_cmpR op_eq (pe_ix ix_tup (pv 3) pe_int (fun _ _ => rfl)) pe_int (nomark _))))) (pss_one (ps_ret pe_str)) pss_nil)
      (pss_cons (ps_if (pt_cmpR op_gt (pv 4) pe_int (nomark _)) (pss_one (ps_for PassesOwn.never rfl (pi_range2 (by rfl) T.range (pa_cons pe_int (pa_cons (pe_ix ix_tup (pv 3) pe_int (fun _ _ => rfl)) pa_nil))) (pg_name (i := 5) sc_house_fault.nd rfl (.inl rfl)) (pss_one (ps_if (pt_not (pt_val (pe_callB (cr_any rfl) (by rfl) T.any bo_any (pa_cons (pe_lc (own := [("led", 6)]) rfl sc_house_fault.nd (pi_list (a_led_states.call hr (by decide) pass0 (pa_cons (pv 3) (pa_cons (pv 5) pa_nil)))) (blkOk_by (N := ["found", "pair", "start", "state", "count", "below", "led"]) (sc := defScope s_house_fault) (by decide +kernel)) (fun _ _ _ _ _ => (pg_name (i := 6) sc_house_fault.nd rfl (.inl rfl))) (fun _ _ _ _ _ => pts_nil) (fun _ _ _ _ _ => (a_stands.call hr (by decide) pass0 (pa_cons (pv 0) (pa_cons (pv 6) (pa_cons (pe_op op_sub (pv 4) pe_int) pa_nil)))))) pa_nil)))) (pss_one (ps_ret pe_str)) pss_nil)))) pss_nil)
      (pss_one (ps_ret pe_non))))))), ?_⟩
  refine ⟨_, rfl, tt, _, rfl, .of ht, rfl, _, _, rfl, _, _, rfl, rfl, ?_⟩
  refine ⟨_, rfl, _, rfl, cv, c, s, n, l, rfl, hc, hs, _, rfl, ?_⟩
  have q0 := q H (Same.refl H)
  cases e1 : isSt (n, l) c with
  | none =>
    rw [fault_state (t := t) (p := (c, k)) e1] at q0
    exact iteT q0
  | some sx =>
    refine iteF ⟨_, rfl, k, rfl, _, rfl, ?_⟩
    cases e2 : isNum k with
    | none =>
      rw [fault_no (t := t) (p := (c, k)) e1 e2] at q0
      exact iteT (iteT q0)
    | some i =>
      have fe := fault_num (t := t) (p := (c, k)) (n := sx.1) (l := sx.2) e1 e2
      have vk : k.v = .int i := by cases k <;> simp [isNum] at e2; rw [e2]; rfl
      obtain ⟨b, rfl, hb⟩ := stv_key hc e1
      have hb' : H b = some (.tup [.int (sx.1 : Nat), .int (sx.2 : Nat)]) := hb
      obtain ⟨_, g1, g2, g3, g4⟩ := isSt_some e1
      rw [vk]
      refine iteF ⟨_, rfl, _, _, rfl, rfl, _, rfl, iteD (fun cc => ?_) fun cc => ?_⟩
      · rw [fe, if_pos cc] at q0
        exact q0
      rw [if_neg cc] at fe
      by_cases h1 : 0 < i ∧ sx.1 = 1
      · rw [if_pos h1] at fe
        rw [fe] at q0
        refine ⟨_, rfl, _, _, rfl, rfl, _, rfl, iteD (fun c2 => ?_) fun c2 => absurd h1.1 c2⟩
        refine ⟨_, rfl, b, _, _, _, rfl, rfl, .of hb', rfl, rfl, _, rfl, iteD (fun c3 => q0) fun c3 => absurd (by rw [h1.2]; rfl) c3⟩
      rw [if_neg h1] at fe
      refine ⟨_, rfl, _, _, rfl, rfl, _, rfl, iteD (fun c0 => ?_) fun c0 => ?_⟩
      · have n1 : sx.1 ≠ 1 := fun z => h1 ⟨c0, z⟩
        have hl : 1 ≤ sx.2 := g4.resolve_left n1
        refine ⟨_, rfl, b, _, _, _, rfl, rfl, .of hb', rfl, rfl, _, rfl, iteD (fun c3 => absurd (V.int.inj c3) (by omega)) fun c3 => ?_⟩
        refine ⟨_, rfl, _, _, rfl, rfl, _, rfl, iteD (fun c4 => ?_) fun c4 => ?_⟩
        · have g2' : sx.1 ≤ n := g2
          refine ⟨_, rfl, b, _, _, _, rfl, rfl, .of hb', rfl, 1, sx.1, rfl, ⟨by omega, by omega, by omega, by omega⟩, ?_⟩
          refine for_range (lo := 1) (n := ((sx.1 : Int) - 1).toNat) (fun j σ H' => (∃ ob, σ = [some (.ref d), some (.ref tt), some (.ref s), some (.ref b), some (.int i), ob, none]) ∧ Same H H' ∧
            ∀ b0, b0 < j → (led sx.1 sx.2 (b0 + 1)).any (fun c => stands t c (i - 1)) = true) ⟨⟨none, rfl⟩, Same.refl H, fun b0 z => absurd z (Nat.not_lt_zero _)⟩ ?_ ?_
          · rintro j σ H' hj ⟨⟨ob, rfl⟩, sm, all⟩
            have ej : (1 : Int) + (j : Nat) = ((j + 1 : Nat) : Int) := by omega
            refine ⟨_, rfl, _, rfl, b, sx.1, sx.2, j + 1, congrArg (fun z => [V.ref b, V.int z]) ej, sm _ _ hb', hl, by omega, by omega, fun H2 r xs s2 hr2 er st => ?_⟩
            refine ⟨r, rfl, ⟨_, .of er⟩, fun D hD => ?_⟩
            have lx : xs.length ≤ 30 := by
              rw [st.1, led_eq, List.length_cons]
              unfold toldC
              split
              · simp
              · rw [List.length_map, List.length_range]; omega
            refine lc_list (K := K) (a := r) (xs := xs) (fun m H3 => H3 D = some (.lst ((((led sx.1 sx.2 (j + 1)).take m).map fun c => stands t c (i - 1)).map V.bl)) ∧ Same H2 H3) ⟨upd_same, same_new hD _⟩ (fun m H3 _ ⟨_, s3⟩ => .of (s3 _ _ er)) ?_ ?_
            · rintro m x H3 hx ⟨eD, s3⟩
              obtain ⟨c', hc', sv⟩ := st.get hx
              refine ⟨rfl, _, rfl, _, rfl, _, rfl, _, _, rfl, rfl, d, x, i - 1, kvs, t, c', rfl, s3 _ _ (s2 _ _ (sm _ _ hd)), tp, sv.same s3, ?_⟩
              refine ⟨_, eD, small1000 (by rw [List.length_map, List.length_map, List.length_take]; have := st.1; omega), ?_, s3.updL hD⟩
              rw [upd_same, take_map_snoc _ hc', List.map_append]
              rfl
            · rintro H3 ⟨eD, s3⟩
              rw [st.1, List.take_length] at eD
              refine ⟨D, _, rfl, .of eD, _, rfl, ?_⟩
              rw [List.any_map]
              show if (!((led sx.1 sx.2 (j + 1)).any fun c => stands t c (i - 1))) = true then _ else _
              refine iteB (fun e => ?_) fun e => ?_
              · have e' : ((led sx.1 sx.2 (j + 1)).any fun c => stands t c (i - 1)) = false := by simpa using e
                have z : stuck t sx.1 sx.2 i = true := stuck_true (b := j) (by omega) e'
                have q1 := q H3 (sm.trans (s2.trans s3))
                rw [fe, if_pos ⟨c4, z⟩] at q1
                exact q1
              · have e' : ((led sx.1 sx.2 (j + 1)).any fun c => stands t c (i - 1)) = true := by simpa using e
                refine ⟨⟨_, rfl⟩, sm.trans (s2.trans s3), fun b0 hb0 => ?_⟩
                by_cases z : b0 = j
                · rw [z]; exact e'
                · exact all b0 (by omega)
          · rintro σ H' ⟨⟨ob, rfl⟩, sm, all⟩
            have z : stuck t sx.1 sx.2 i = false := stuck_false fun b0 hb0 => all b0 (by omega)
            have q1 := q H' sm
            rw [fe, if_neg (by rw [z]; simp)] at q1
            exact q1
        · rw [fe, if_neg (fun z => c4 z.1)] at q0
          exact q0
      · refine ⟨_, rfl, _, _, rfl, rfl, _, rfl, iteD (fun c4 => absurd c4 (by omega)) fun c4 => ?_⟩
        rw [fe, if_neg (fun z => c4 z.1)] at q0
        exact q0
theorem ok_law_reason (F : Fun K "_law_reason" "_law_reason" s_law_reason f fd) (T : Bs mg) (a_law_whole : Av P w K mg base CX0 1 "_law_whole" ["_law_value"] spInt) (a_law_is_case : Av P w K mg base CX0 2 "_law_is_case" ["_law_value", "_law_start_here"] spIsSt)
    (a_law_stands : Av P w K mg base CX0 1 "_law_stands" ["_law_tops_here", "_law_case", "_law_count"] spStands) (a_law_next : Av P w K mg base CX0 1 "_law_next" ["_law_case", "_law_below"] spLed) :
    FnOk P w K mg base CX0 3 f fd ["_law_tops_here", "_law_pair", "_law_start_here"] spFault := by
  refine F.ok sc_law_reason (fun vs H Q E h => ?_) (fun cdv A outer s H vs Q E hr h => ?_)
  · obtain ⟨d, v, s, kvs, t, p, n, l, rfl, _⟩ := h
    rfl
  obtain ⟨d, v, s, kvs, t, ⟨c, k⟩, n, l, rfl, hd, tp, ⟨tt, cv, rfl, ht, hc⟩, hs, hn, q⟩ := h
  have hu := hu_of hr
  refine ⟨_, (pss_cons (ps_asg (pv 1) (pg_tup (by rfl) (pgs_cons (pg_name (i := 3) sc_law_reason.nd rfl (.inl rfl)) (pgs_cons (pg_name (i := 4) sc_law_reason.nd rfl (.inr rfl)) pgs_nil))))
      (pss_cons (ps_if (pt_not (pt_val (a_law_is_case.call hr (by decide) pass0 (pa_cons (pv 3) (pa_cons (pv 2) pa_nil))))) (pss_one (ps_ret pe_str)) pss_nil)
      (pss_cons (ps_if (PW.pt (pw_or (pt_not (pt_val (a_law_whole.call hr (by decide) pass0 (pa_cons (pv 4) pa_nil)))) (pw_or1 (pt_cmpR op_lt (pv 4) pe_int (nomark _))))) (pss_one (ps_ret pe_str)) pss_nil)
      (pss_cons (ps_if (PW.pt (pw_and (pt_cmpR op_gt (pv 4) pe_int (nomark _)) (pw_and1 (pt_cmpR op_eq (pe_ix ix_tup (pv 3) pe_int (fun _ _ => rfl)) pe_int (nomark _))))) (pss_one (ps_ret pe_str)) pss_nil)
      (pss_cons (ps_if (pt_cmpR op_gt (pv 4) pe_int (nomark _)) (pss_one (ps_for PassesOwn.never rfl (pi_range2 (by rfl) T.range (pa_cons pe_int (pa_cons (pe_ix ix_tup (pv 3) pe_int (fun _ _ => rfl)) pa_nil))) (pg_name (i := 5) sc_law_reason.nd rfl (.inl rfl)) (pss_one (ps_if (pt_not (pt_val (pe_callB (cr_any rfl) (by rfl) T.any bo_any (pa_cons (pe_lc (own := [("_law_after_here", 6)]) rfl sc_law_reason.nd (pi_list (a_law_next.call hr (by decide) pass0 (pa_cons (pv 3) (pa_cons (pv 5) pa_nil)))) (blkOk_by (N := ["_law_tops_here", "_law_pair", "_law_start_here", "_law_case", "_law_count", "_law_below", "_law_after_here"]) (sc := defScope s_law_reason) (by decide +kernel)) (fun _ _ _ _ _ => (pg_name (i := 6) sc_law_reason.nd rfl (.inl rfl))) (fun _ _ _ _ _ => pts_nil) (fun _ _ _ _ _ => (a_law_stands.call hr (by decide) pass0 (pa_cons (pv 0) (pa_cons (pv 6) (pa_cons (pe_op op_sub (pv 4) pe_int) pa_nil)))))) pa_nil)))) (pss_one (ps_ret pe_str)) pss_nil)))) pss_nil)
      (pss_one (ps_ret pe_non))))))), ?_⟩
  refine ⟨_, rfl, tt, _, rfl, .of ht, rfl, _, _, rfl, _, _, rfl, rfl, ?_⟩
  refine ⟨_, rfl, _, rfl, cv, c, s, n, l, rfl, hc, hs, _, rfl, ?_⟩
  have q0 := q H (Same.refl H)
  cases e1 : isSt (n, l) c with
  | none =>
    rw [fault_state (t := t) (p := (c, k)) e1] at q0
    exact iteT q0
  | some sx =>
    refine iteF ⟨_, rfl, k, rfl, _, rfl, ?_⟩
    cases e2 : isNum k with
    | none =>
      rw [fault_no (t := t) (p := (c, k)) e1 e2] at q0
      exact iteT (iteT q0)
    | some i =>
      have fe := fault_num (t := t) (p := (c, k)) (n := sx.1) (l := sx.2) e1 e2
      have vk : k.v = .int i := by cases k <;> simp [isNum] at e2; rw [e2]; rfl
      obtain ⟨b, rfl, hb⟩ := stv_key hc e1
      have hb' : H b = some (.tup [.int (sx.1 : Nat), .int (sx.2 : Nat)]) := hb
      obtain ⟨_, g1, g2, g3, g4⟩ := isSt_some e1
      rw [vk]
      refine iteF ⟨_, rfl, _, _, rfl, rfl, _, rfl, iteD (fun cc => ?_) fun cc => ?_⟩
      · rw [fe, if_pos cc] at q0
        exact q0
      rw [if_neg cc] at fe
      by_cases h1 : 0 < i ∧ sx.1 = 1
      · rw [if_pos h1] at fe
        rw [fe] at q0
        refine ⟨_, rfl, _, _, rfl, rfl, _, rfl, iteD (fun c2 => ?_) fun c2 => absurd h1.1 c2⟩
        refine ⟨_, rfl, b, _, _, _, rfl, rfl, .of hb', rfl, rfl, _, rfl, iteD (fun c3 => q0) fun c3 => absurd (by rw [h1.2]; rfl) c3⟩
      rw [if_neg h1] at fe
      refine ⟨_, rfl, _, _, rfl, rfl, _, rfl, iteD (fun c0 => ?_) fun c0 => ?_⟩
      · have n1 : sx.1 ≠ 1 := fun z => h1 ⟨c0, z⟩
        have hl : 1 ≤ sx.2 := g4.resolve_left n1
        refine ⟨_, rfl, b, _, _, _, rfl, rfl, .of hb', rfl, rfl, _, rfl, iteD (fun c3 => absurd (V.int.inj c3) (by omega)) fun c3 => ?_⟩
        refine ⟨_, rfl, _, _, rfl, rfl, _, rfl, iteD (fun c4 => ?_) fun c4 => ?_⟩
        · have g2' : sx.1 ≤ n := g2
          refine ⟨_, rfl, b, _, _, _, rfl, rfl, .of hb', rfl, 1, sx.1, rfl, ⟨by omega, by omega, by omega, by omega⟩, ?_⟩
          refine for_range (lo := 1) (n := ((sx.1 : Int) - 1).toNat) (fun j σ H' => (∃ ob, σ = [some (.ref d), some (.ref tt), some (.ref s), some (.ref b), some (.int i), ob, none]) ∧ Same H H' ∧
            ∀ b0, b0 < j → (led sx.1 sx.2 (b0 + 1)).any (fun c => stands t c (i - 1)) = true) ⟨⟨none, rfl⟩, Same.refl H, fun b0 z => absurd z (Nat.not_lt_zero _)⟩ ?_ ?_
          · rintro j σ H' hj ⟨⟨ob, rfl⟩, sm, all⟩
            have ej : (1 : Int) + (j : Nat) = ((j + 1 : Nat) : Int) := by omega
            refine ⟨_, rfl, _, rfl, b, sx.1, sx.2, j + 1, congrArg (fun z => [V.ref b, V.int z]) ej, sm _ _ hb', hl, by omega, by omega, fun H2 r xs s2 hr2 er st => ?_⟩
            refine ⟨r, rfl, ⟨_, .of er⟩, fun D hD => ?_⟩
            have lx : xs.length ≤ 30 := by
              rw [st.1, led_eq, List.length_cons]
              unfold toldC
              split
              · simp
              · rw [List.length_map, List.length_range]; omega
            refine lc_list (K := K) (a := r) (xs := xs) (fun m H3 => H3 D = some (.lst ((((led sx.1 sx.2 (j + 1)).take m).map fun c => stands t c (i - 1)).map V.bl)) ∧ Same H2 H3) ⟨upd_same, same_new hD _⟩ (fun m H3 _ ⟨_, s3⟩ => .of (s3 _ _ er)) ?_ ?_
            · rintro m x H3 hx ⟨eD, s3⟩
              obtain ⟨c', hc', sv⟩ := st.get hx
              refine ⟨rfl, _, rfl, _, rfl, _, rfl, _, _, rfl, rfl, d, x, i - 1, kvs, t, c', rfl, s3 _ _ (s2 _ _ (sm _ _ hd)), tp, sv.same s3, ?_⟩
              refine ⟨_, eD, small1000 (by rw [List.length_map, List.length_map, List.length_take]; have := st.1; omega), ?_, s3.updL hD⟩
              rw [upd_same, take_map_snoc _ hc', List.map_append]
              rfl
            · rintro H3 ⟨eD, s3⟩
              rw [st.1, List.take_length] at eD
              refine ⟨D, _, rfl, .of eD, _, rfl, ?_⟩
              rw [List.any_map]
              show if (!((led sx.1 sx.2 (j + 1)).any fun c => stands t c (i - 1))) = true then _ else _
              refine iteB (fun e => ?_) fun e => ?_
              · have e' : ((led sx.1 sx.2 (j + 1)).any fun c => stands t c (i - 1)) = false := by simpa using e
                have z : stuck t sx.1 sx.2 i = true := stuck_true (b := j) (by omega) e'
                have q1 := q H3 (sm.trans (s2.trans s3))
                rw [fe, if_pos ⟨c4, z⟩] at q1
                exact q1
              · have e' : ((led sx.1 sx.2 (j + 1)).any fun c => stands t c (i - 1)) = true := by simpa using e
                refine ⟨⟨_, rfl⟩, sm.trans (s2.trans s3), fun b0 hb0 => ?_⟩
                by_cases z : b0 = j
                · rw [z]; exact e'
                · exact all b0 (by omega)
          · rintro σ H' ⟨⟨ob, rfl⟩, sm, all⟩
            have z : stuck t sx.1 sx.2 i = false := stuck_false fun b0 hb0 => all b0 (by omega)
            have q1 := q H' sm
            rw [fe, if_neg (by rw [z]; simp)] at q1
            exact q1
        · rw [fe, if_neg (fun z => c4 z.1)] at q0
          exact q0
      · refine ⟨_, rfl, _, _, rfl, rfl, _, rfl, iteD (fun c4 => absurd c4 (by omega)) fun c4 => ?_⟩
        rw [fe, if_neg (fun z => c4 z.1)] at q0
        exact q0
end
end K70

/-! ## methods, and the log -/
namespace K70
open PySem PySem.Spec PyProof.Rows L2
/-- the class at C has the method m, which keeps sp -/
def AvM (P : Program) (w : World) (K : PySem.W.Frag) (mg : Str → Option Value) (base : Heap) (CX : CXT) (k : Nat) (C : Addr) (m : Str) (ps : List Str) (sp : Sp) : Prop :=
  ∃ f fd, FnOk P w K mg base CX k f fd ps sp ∧ Meth K C m f ∧ Binds K fd ps []
section
variable {X : Cx} {CX : CXT} {k j : Nat} {C : Addr} {m : Str} {ps : List Str} {sp : Sp} {E : XK} {o e : Expr} {es : List Expr} {ta : TE} {t : TA} {apos pos : Pos}
theorem AvM.call0 {pl : Sem Bool} (A : AvM X.prog X.w X.K X.mg X.base CX k C m ps sp) (c : Cls X.K C) (hr : Room j X.A) (hk : k ≤ j) (hx : Passes CX X E) (he : PE X o ta)
    (ht : eval (.Call (.Attribute o m apos) [] [] pos) X.env = (do
      let ov ← eval o X.env
      standAt apos.atName
      let (f, first) ← holding [ov] (getMethod ov m pl)
      callWith pos f first (backTo pos (starEach [] X.env)) (backToKw pos (keywordEach [] X.env))) := by rfl) :
    PE X (.Call (.Attribute o m apos) [] [] pos) (tMeth C m sp [] E ta tNil) := by
  obtain ⟨f, fd, F, hm, b⟩ := A
  exact pe_meth0 he c hm F (hr.mono hk) b .nil hx ht
theorem AvM.call {pl : Sem Bool} (A : AvM X.prog X.w X.K X.mg X.base CX k C m ps sp) (c : Cls X.K C) (hr : Room j X.A) (hk : k ≤ j) (hx : Passes CX X E) (he : PE X o ta) (ha : PA X (e :: es) t)
    (hst : starEach (e :: es) X.env = (false, eval e X.env) :: starEach es X.env := by rfl) (hpl : (backTo pos (starEach es X.env)).any (·.1) = false := by rfl)
    (ht : eval (.Call (.Attribute o m apos) (e :: es) [] pos) X.env = (do
      let ov ← eval o X.env
      standAt apos.atName
      let (f, first) ← holding [ov] (getMethod ov m pl)
      callWith pos f first (backTo pos (starEach (e :: es) X.env)) (backToKw pos (keywordEach [] X.env))) := by rfl) :
    PE X (.Call (.Attribute o m apos) (e :: es) [] pos) (tMeth C m sp [] E ta t) := by
  obtain ⟨f, fd, F, hm, b⟩ := A
  exact pe_meth he c hm F (hr.mono hk) b .nil hx ha hst hpl ht
end
section
variable {X : Cx} {k j : Nat} {x : Str} {ps : List Str} {sp : Sp} {W : WX} {e : Expr} {es : List Expr} {t : TA} {p pos : Pos}
/-- a call of a def that may raise: what it raises is handed on -/
theorem Av.callS (A : Av X.prog X.w X.K X.mg X.base (L2.CX X.prog X.w) k x ps sp) (hr : Room j X.A) (hk : k ≤ j) (tk : Takes X W) (ha : PA X (e :: es) t) (hg : Gl X x := by rfl) (hd : (x == ("__debug__" : Str)) = false := by decide)
    (he : starEach (e :: es) X.env = (false, eval e X.env) :: starEach es X.env := by rfl) (hpl : (backTo pos (starEach es X.env)).any (·.1) = false := by rfl) : PE X (.Call (.Name x p) (e :: es) [] pos) (tCallS sp (WE W) t) := by
  obtain ⟨f, fd, F, m, kp, b⟩ := A
  exact pe_callS F (hr.mono hk) hg m kp b (fun σ => passAt tk σ) ha hd he hpl
end
/-- a house log with n widths that can be and l houses left; its class is at C -/
def LogAt (C : Addr) (H : Hp) (g : Addr) (n l : Nat) : Prop := ∃ dx fs tc xs, H g = some (.ins C dx fs) ∧ fs.lookup ("can" : Str) = some (.ref tc) ∧ H tc = some (.tup xs) ∧ xs.length = n ∧ fs.lookup ("left_over" : Str) = some (.int (l : Nat)) ∧
  fs.lookup ("can_be" : Str) = none ∧ fs.lookup ("houses_left" : Str) = none
theorem LogAt.same {C : Addr} {H H' : Hp} {g : Addr} {n l : Nat} (h : LogAt C H g n l) (s : Same H H') : LogAt C H' g n l := by
  obtain ⟨dx, fs, tc, xs, a, b, c, d⟩ := h
  exact ⟨dx, fs, tc, xs, s _ _ a, b, s _ _ c, d⟩
theorem LogAt.kp {C st : Addr} {H H' : Hp} {g : Addr} {n l : Nat} (h : LogAt C H g n l) (hs : StAt H st) (s : Kp st H H') : LogAt C H' g n l := by
  obtain ⟨dx, fs, tc, xs, a, b, c, d⟩ := h
  exact ⟨dx, fs, tc, xs, s _ _ (hs.ne_oth a fun _ z => nomatch z) a, b, s _ _ (hs.ne_oth c fun _ z => nomatch z) c, d⟩
theorem PsIt.nil {H : Hp} : PsIt H [] [] := ⟨rfl, fun i v c a => by simp at a⟩
theorem PsIt.snoc {H : Hp} {vs : List V} {ps : List (Cs × Fl)} {v : V} {p : Cs × Fl} (h : PsIt H vs ps) (hv : PrAt H v p) : PsIt H (vs ++ [v]) (ps ++ [p]) := by
  refine ⟨by rw [List.length_append, List.length_append, h.1]; rfl, fun i u d a b => ?_⟩
  by_cases hi : i < vs.length
  · rw [List.getElem?_append_left hi] at a
    rw [List.getElem?_append_left (by rw [← h.1]; exact hi)] at b
    exact h.2 i u d a b
  · rw [List.getElem?_append_right (Nat.le_of_not_lt hi)] at a
    rw [List.getElem?_append_right (by rw [← h.1]; exact Nat.le_of_not_lt hi), ← h.1] at b
    have e : i - vs.length = 0 := by
      obtain ⟨z, _⟩ := List.getElem?_eq_some_iff.mp a
      simpa using z
    rw [e] at a b
    cases (show some v = some u from a)
    cases (show some p = some d from b)
    exact hv
/-- no list among the pairs' first parts -/
def NoL (ps : List (Cs × Fl)) : Prop := ∀ p ∈ ps, ∀ fs, p.1 ≠ .lst fs
theorem PrAt.updL {H : Hp} {v : V} {p : Cs × Fl} {D : Addr} {zs : List V} {o : HO} (h : PrAt H v p) (e : H D = some (.lst zs)) (n : ∀ fs, p.1 ≠ .lst fs) : PrAt (upd H D o) v p := by
  obtain ⟨t, c, ev, q, z⟩ := h
  refine ⟨t, c, ev, by rw [upd_ne (ne_of q e fun z => nomatch z)]; exact q, ?_⟩
  obtain ⟨p1, p2⟩ := p
  cases p1 with
  | fl f => exact z
  | tup fs =>
    obtain ⟨a, e1, e2⟩ := z
    exact ⟨a, e1, by rw [upd_ne (ne_of e2 e fun z => nomatch z)]; exact e2⟩
  | lst fs => exact absurd rfl (n fs)
theorem PsIt.updL {H : Hp} {vs : List V} {ps : List (Cs × Fl)} {D : Addr} {zs : List V} {o : HO} (h : PsIt H vs ps) (e : H D = some (.lst zs)) (n : NoL ps) : PsIt (upd H D o) vs ps :=
  ⟨h.1, fun i v p a b => (h.2 i v p a b).updL e (n p (List.mem_of_getElem? b))⟩
end K70

namespace K70
open PySem PySem.Spec PyProof.Rows L2
abbrev s_HouseLog_can_be : Stmt := inClass (topS 13) 6
theorem sc_HouseLog_can_be : FnScope ["self"] ["self"] (defScope s_HouseLog_can_be) := ⟨rfl, rfl, rfl, by decide +kernel, rfl, by decide +kernel, by decide +kernel⟩
abbrev s_HouseLog_houses_left : Stmt := inClass (topS 13) 7
theorem sc_HouseLog_houses_left : FnScope ["self"] ["self"] (defScope s_HouseLog_houses_left) := ⟨rfl, rfl, rfl, by decide +kernel, rfl, by decide +kernel, by decide +kernel⟩
abbrev s_state_of : Stmt := topS 16
theorem sc_state_of : FnScope ["houselog"] ["houselog"] (defScope s_state_of) := ⟨rfl, rfl, rfl, by decide +kernel, rfl, by decide +kernel, by decide +kernel⟩
abbrev s_halvings : Stmt := topS 14
theorem sc_halvings : FnScope ["number", "count", "reached"] ["number"] (defScope s_halvings) := ⟨rfl, rfl, rfl, by decide +kernel, rfl, by decide +kernel, by decide +kernel⟩
abbrev s_least_count : Stmt := topS 25
theorem sc_least_count : FnScope ["state", "number", "left"] ["state"] (defScope s_least_count) := ⟨rfl, rfl, rfl, by decide +kernel, rfl, by decide +kernel, by decide +kernel⟩
def spCan (C : Addr) : Sp := fun vs H Q _ => ∃ (g : Addr) (n l : Nat), vs = [.ref g] ∧ LogAt C H g n l ∧ n ≤ 100 ∧ ∀ (H' : Hp) (r : Addr) (xs : List V), Same H H' → H' r = some (.lst xs) → xs.length = n → Q (.ref r) H'
def spLeft (C : Addr) : Sp := fun vs H Q _ => ∃ (g : Addr) (n l : Nat), vs = [.ref g] ∧ LogAt C H g n l ∧ Q (.int (l : Nat)) H
def spState (C : Addr) : Sp := fun vs H Q _ => ∃ (g : Addr) (n l : Nat), vs = [.ref g] ∧ LogAt C H g n l ∧ n ≤ 100 ∧ ∀ (H' : Hp) (s : Addr), Same H H' → H s = none → H' s = some (.tup [.int (n : Nat), .int (l : Nat)]) → Q (.ref s) H'
def spHalv : Sp := fun vs H Q _ => ∃ n : Nat, vs = [.int (n : Nat)] ∧ n ≤ 24 ∧ ∀ k : Int, Q (.int k) H
def spCount : Sp := fun vs H Q _ => ∃ (s : Addr) (n l : Nat), vs = [.ref s] ∧ H s = some (.tup [.int (n : Nat), .int (l : Nat)]) ∧ n ≤ 24 ∧ ∀ k : Int, Q (.int k) H
section
variable {P : Program} {w : World} {K : PySem.W.Frag} {mg : Str → Option Value} {base : Heap} {f C : Addr} {fd : FuncData}
theorem ok_can_be (F : Fun K "can_be" "HouseLog.can_be" s_HouseLog_can_be f fd) (T : Bs mg) (cl : Cls K C) (na : NoAttr K C "can") : FnOk P w K mg base CX0 1 f fd ["self"] (spCan C) := by
  refine F.ok sc_HouseLog_can_be (fun vs H Q E h => ?_) (fun cdv A outer s H vs Q E hr h => ?_)
  · obtain ⟨g, n, l, rfl, _⟩ := h
    rfl
  obtain ⟨g, n, l, rfl, ⟨dx, fs, tc, xs, hg, hc, ht, hn, hl, _, _⟩, h100, q⟩ := h
  refine ⟨_, (pss_one (ps_ret (pe_callTy call_list_of (by rfl) T.lst bo_lst (pa_cons (pe_fld (pv 0) rfl) pa_nil)))), ?_⟩
  refine ⟨_, rfl, g, C, dx, fs, _, rfl, hg, cl, na, hc, tc, xs, rfl, .inr (.of ht), fun r hr' => ?_⟩
  exact q _ r xs (same_new hr' _) upd_same hn
theorem ok_houses_left (F : Fun K "houses_left" "HouseLog.houses_left" s_HouseLog_houses_left f fd) (T : Bs mg) (cl : Cls K C) (na : NoAttr K C "left_over") : FnOk P w K mg base CX0 1 f fd ["self"] (spLeft C) := by
  refine F.ok sc_HouseLog_houses_left (fun vs H Q E h => ?_) (fun cdv A outer s H vs Q E hr h => ?_)
  · obtain ⟨g, n, l, rfl, _⟩ := h
    rfl
  obtain ⟨g, n, l, rfl, ⟨dx, fs, tc, xs, hg, hc, ht, hn, hl, _, _⟩, q⟩ := h
  refine ⟨_, (pss_one (ps_ret (pe_fld (pv 0) rfl))), ?_⟩
  exact ⟨_, rfl, g, C, dx, fs, _, rfl, hg, cl, na, hl, q⟩
theorem ok_state_of (F : Fun K "state_of" "state_of" s_state_of f fd) (T : Bs mg) (cl : Cls K C) (m_can_be : AvM P w K mg base CX0 1 C "can_be" ["self"] (spCan C)) (m_houses_left : AvM P w K mg base CX0 1 C "houses_left" ["self"] (spLeft C)) :
    FnOk P w K mg base CX0 2 f fd ["houselog"] (spState C) := by
  refine F.ok sc_state_of (fun vs H Q E h => ?_) (fun cdv A outer s H vs Q E hr h => ?_)
  · obtain ⟨g, n, l, rfl, _⟩ := h
    rfl
  obtain ⟨g, n, l, rfl, hg, h100, q⟩ := h
  refine ⟨_, (pss_one (ps_ret (pe_tup (pa_cons (pe_callB call_len_seq (by rfl) T.len bo_len (pa_cons (m_can_be.call0 cl hr (by decide) pass0 (pv 0)) pa_nil)) (pa_cons (m_houses_left.call0 cl hr (by decide) pass0 (pv 0)) pa_nil))))), ?_⟩
  obtain ⟨dx, fs, tc, xs, a1, a2, a3, a4, a5, a6, a7⟩ := id hg
  refine ⟨_, rfl, g, dx, fs, rfl, a1, a6, g, n, l, rfl, hg, h100, fun H' r ys sm hr' hl => ?_⟩
  refine ⟨r, ys, rfl, .inl (.of hr'), ?_⟩
  refine ⟨_, rfl, g, dx, fs, rfl, sm _ _ a1, a7, g, n, l, rfl, hg.same sm, two_line (by show 2 ≤ 1000; decide), fun p hp => ?_⟩
  refine q _ p (sm.new hp _) (sm.free hp) ?_
  rw [upd_same, hl]
theorem ok_halvings (F : Fun K "halvings" "halvings" s_halvings f fd) : FnOk P w K mg base CX0 1 f fd ["number"] spHalv := by
  refine F.ok sc_halvings (fun vs H Q E h => ?_) (fun cdv A outer s H vs Q E hr h => ?_)
  · obtain ⟨n, rfl, _⟩ := h
    rfl
  obtain ⟨n, rfl, hn, q⟩ := h
  refine ⟨_, (pss_cons (ps_set (i := 1) sc_halvings.nd rfl (.inl rfl) pe_int)
      (pss_cons (ps_set (i := 2) sc_halvings.nd rfl (.inl rfl) pe_int)
      (pss_cons (ps_while PassesOwn.never (pt_cmpR op_lt (pv 2) (pv 0) (nomark _)) (pss_cons (ps_aug (i := 2) sc_halvings.nd rfl (.inl rfl) pe_int iop_mul)
      (pss_one (ps_aug (i := 1) sc_halvings.nd rfl (.inl rfl) pe_int ip_add))))
      (pss_one (ps_ret (pv 1)))))), ?_⟩
  refine ⟨fun m σ H' => H' = H ∧ ∃ c r : Int, σ = [some (.int (n : Nat)), some (.int c), some (.int r)] ∧ 1 ≤ r ∧ r ≤ 48 ∧ m = (48 - r).toNat, ⟨47, rfl, 0, 1, rfl, by omega, by omega, rfl⟩, ?_⟩
  rintro m σ H' ⟨rfl, c, r, rfl, h1, h2, rfl⟩
  refine ⟨_, rfl, _, rfl, _, _, rfl, rfl, _, rfl, iteD (fun cc => ?_) fun cc => ⟨_, rfl, q c⟩⟩
  refine ⟨fun σ' H2 => H2 = H' ∧ ∃ c' r' : Int, σ' = [some (.int (n : Nat)), some (.int c'), some (.int r')] ∧ r < r' ∧ r' ≤ 48, ?_, ?_⟩
  · rintro σ' H2 ⟨rfl, c', r', rfl, h3, h4⟩
    exact ⟨(48 - r').toNat, by omega, rfl, c', r', rfl, by omega, h4, rfl⟩
  · refine ⟨_, rfl, _, _, rfl, rfl, .inl ⟨by omega, by omega⟩, _, rfl, _, _, rfl, rfl, rfl, _, _, rfl, by omega, by omega⟩
theorem ok_least_count (F : Fun K "least_count" "least_count" s_least_count f fd) (T : Bs mg) (a_halvings : Av P w K mg base CX0 1 "halvings" ["number"] spHalv) : FnOk P w K mg base CX0 2 f fd ["state"] spCount := by
  refine F.ok sc_least_count (fun vs H Q E h => ?_) (fun cdv A outer s H vs Q E hr h => ?_)
  · obtain ⟨s, n, l, rfl, _⟩ := h
    rfl
  obtain ⟨s, n, l, rfl, hs, hn, q⟩ := h
  refine ⟨_, (pss_cons (ps_asg (pv 0) (pg_tup (by rfl) (pgs_cons (pg_name (i := 1) sc_least_count.nd rfl (.inl rfl)) (pgs_cons (pg_name (i := 2) sc_least_count.nd rfl (.inl rfl)) pgs_nil))))
      (pss_cons (ps_if (pt_cmpR op_eq (pv 1) pe_int (nomark _)) (pss_one (ps_ret pe_int)) pss_nil)
      (pss_one (ps_ret (pe_callB (call_min2 rfl) (by rfl) T.min bo_min (pa_cons (pe_callTy call_int1 (by rfl) T.int bo_int (pa_cons (pv 2) pa_nil)) (pa_cons (pe_callTy call_int1 (by rfl) T.int bo_int (pa_cons (a_halvings.call hr (by decide) pass0 (pa_cons (pv 1) pa_nil)) pa_nil)) pa_nil))))))), ?_⟩
  refine ⟨_, rfl, s, _, rfl, .of hs, rfl, _, _, rfl, _, _, rfl, rfl, ?_⟩
  refine ⟨_, rfl, rfl, _, rfl, iteD (fun c => q 0) fun c => ?_⟩
  refine ⟨_, rfl, .inl ⟨_, rfl, ?_⟩⟩
  refine ⟨_, rfl, n, rfl, hn, fun k => .inl ⟨_, rfl, _, _, rfl, ?_⟩⟩
  exact q _
end
end K70

namespace K70
open PySem PySem.Spec PyProof.Rows L2
abbrev s_house_paper : Stmt := topS 24
theorem sc_house_paper : FnScope ["houselog", "states", "seen", "place", "state", "below", "led"] ["houselog"] (defScope s_house_paper) := ⟨rfl, rfl, rfl, by decide +kernel, rfl, by decide +kernel, by decide +kernel⟩
/-- pairs of a case of two numbers and a number -/
def IntP (ps : List (Cs × Fl)) : Prop := ∀ p ∈ ps, ∃ a b k : Int, p = (.tup [.int a, .int b], .int k)
theorem IntP.noL {ps : List (Cs × Fl)} (h : IntP ps) : NoL ps := fun p hp fs e => by
  obtain ⟨a, b, k, rfl⟩ := h p hp
  cases e
def spPaper (C : Addr) : Sp := fun vs H Q _ => ∃ (g : Addr) (n l : Nat), vs = [.ref g] ∧ LogAt C H g n l ∧ 1 ≤ n ∧ n ≤ 24 ∧ l ≤ 8 ∧ (n = 1 ∨ 1 ≤ l) ∧
  ∀ (H' : Hp) (p : Addr) (ps : List (Cs × Fl)), Same H H' → H p = none → PsAt H' p ps → IntP ps → ps.length ≤ 225 → Q (.ref p) H'
/-- the table of the states that were seen -/
def SeenIs (kvs : List (List Key × V)) (cs : List (Nat × Nat)) : Prop := ∀ c : Nat × Nat, (valV kvs (key c)).isSome = decide (c ∈ cs)
theorem SeenIs.put {kvs : List (List Key × V)} {cs : List (Nat × Nat)} (h : SeenIs kvs cs) (c : Nat × Nat) (v : V) : SeenIs (putK kvs (key c) v) (cs ++ [c]) := fun d => by
  rw [valV_put]
  by_cases e : d = c
  · rw [if_pos (by rw [e])]
    rw [e]
    simp
  · rw [if_neg (fun z => e (key_inj z)), h d]
    have : (d ∈ cs ++ [c]) ↔ d ∈ cs := by simp [e]
    simp [this]
/-- what the loops of house_paper keep: D the states, S the table -/
structure PapInv (H0 : Hp) (D S : Addr) (n l : Nat) (cs : List (Nat × Nat)) (H : Hp) : Prop where
  xs : ∃ xs, H D = some (.lst xs) ∧ StIt H xs cs
  kv : ∃ kvs, H S = some (.dT kvs) ∧ SeenIs kvs cs ∧ kvs.length ≤ cs.length
  nd : cs.Nodup
  box : ∀ c ∈ cs, Good c ∧ c.1 ≤ n ∧ c.2 ≤ l
  sm : Same H0 H
def Rst (D S : Addr) (H H' : Hp) : Prop := ∀ b o, b ≠ D → b ≠ S → H b = some o → H' b = some o
theorem PapInv.len {H0 : Hp} {D S : Addr} {n l : Nat} {cs : List (Nat × Nat)} {H : Hp} (h : PapInv H0 D S n l cs H) (hn : n ≤ 24) (hl : l ≤ 8) : cs.length ≤ 225 :=
  nodup_box (N := 24) cs h.nd fun c hc => ⟨by have := (h.box c hc).2.1; omega, by have := (h.box c hc).2.2; omega⟩
theorem PapInv.add {H0 : Hp} {D S : Addr} {n l : Nat} {cs : List (Nat × Nat)} {H : Hp} (h : PapInv H0 D S n l cs H) (hD : H0 D = none) (hS : H0 S = none) {t : Addr} {c : Nat × Nat} {xs : List V} {kvs : List (List Key × V)} (e : H D = some (.lst xs)) (e2 : H S = some (.dT kvs)) (hs : SeenIs kvs cs) (hk : kvs.length ≤ cs.length) (si : StIt H xs cs)
    (ht : H t = some (.tup [.int (c.1 : Nat), .int (c.2 : Nat)])) (hc : c ∉ cs) (hb : Good c ∧ c.1 ≤ n ∧ c.2 ≤ l) :
    PapInv H0 D S n l (cs ++ [c]) (upd (upd H S (.dT (putK kvs (key c) (.bl true)))) D (.lst (xs ++ [.ref t]))) ∧ Rst D S H (upd (upd H S (.dT (putK kvs (key c) (.bl true)))) D (.lst (xs ++ [.ref t]))) := by
  have nDS : D ≠ S := ne_of e e2 fun z => nomatch z
  have rst : Rst D S H (upd (upd H S (.dT (putK kvs (key c) (.bl true)))) D (.lst (xs ++ [.ref t]))) := fun b o n1 n2 q => by rw [upd_ne n1, upd_ne n2]; exact q
  have tup : ∀ b ys, H b = some (.tup ys) → (upd (upd H S (.dT (putK kvs (key c) (.bl true)))) D (.lst (xs ++ [.ref t]))) b = some (.tup ys) := fun b ys q =>
    rst b _ (ne_of q e fun z => nomatch z) (ne_of q e2 fun z => nomatch z) q
  refine ⟨⟨⟨_, upd_same, ?_⟩, ⟨_, by rw [upd_ne (Ne.symm nDS), upd_same], hs.put c _, ?_⟩, ?_, ?_, ?_⟩, rst⟩
  · refine StIt.snoc ⟨si.1, fun i v d a b => ?_⟩ ⟨t, rfl, tup _ _ ht⟩
    obtain ⟨t', ev, q⟩ := si.2 i v d a b
    exact ⟨t', ev, tup _ _ q⟩
  · have := length_putK kvs (key c) (.bl true)
    rw [List.length_append]
    show _ ≤ cs.length + 1
    omega
  · exact nd_snoc h.nd hc
  · intro d hd
    rcases List.mem_append.mp hd with z | z
    · exact h.box d z
    · rw [List.mem_singleton.mp z]; exact hb
  · exact (h.sm.updL hS).updL hD
section
variable {P : Program} {w : World} {K : PySem.W.Frag} {mg : Str → Option Value} {base : Heap} {f C : Addr} {fd : FuncData}
theorem ok_house_paper (F : Fun K "house_paper" "house_paper" s_house_paper f fd) (T : Bs mg) (a_state_of : Av P w K mg base CX0 2 "state_of" ["houselog"] (spState C)) (a_led_states : Av P w K mg base CX0 2 "led_states" ["state", "below"] spLed)
    (a_least_count : Av P w K mg base CX0 2 "least_count" ["state"] spCount) : FnOk P w K mg base CX0 3 f fd ["houselog"] (spPaper C) := by
  refine F.ok sc_house_paper (fun vs H Q E h => ?_) (fun cdv A outer s H vs Q E hr h => ?_)
  · obtain ⟨g, n, l, rfl, _⟩ := h
    rfl
  obtain ⟨g, n, l, rfl, hg, h1, hn, hl, hgd, q⟩ := h
  have hu := hu_of hr
  refine ⟨_, (pss_cons (ps_set (i := 1) sc_house_paper.nd rfl (.inl rfl) (pe_lst (pa_cons (a_state_of.call hr (by decide) pass0 (pa_cons (pv 0) pa_nil)) pa_nil)))
      (pss_cons (ps_set (i := 2) sc_house_paper.nd rfl (.inl rfl) (pe_dispT hu (pe_ix ix_list (pv 1) pe_int (fun _ _ => rfl)) pe_bl))
      (pss_cons (ps_set (i := 3) sc_house_paper.nd rfl (.inl rfl) pe_int)
      (pss_cons (ps_while PassesOwn.never (pt_cmpR op_lt (pv 3) (pe_callB call_len_seq (by rfl) T.len bo_len (pa_cons (pv 1) pa_nil)) (nomark _)) (pss_cons (ps_set (i := 4) sc_house_paper.nd rfl (.inl rfl) (pe_ix ix_list (pv 1) (pv 3) (fun _ _ => rfl)))
      (pss_cons (ps_aug (i := 3) sc_house_paper.nd rfl (.inl rfl) pe_int ip_add)
      (pss_one (ps_for PassesOwn.never rfl (pi_range2 (by rfl) T.range (pa_cons pe_int (pa_cons (pe_ix ix_tup (pv 4) pe_int (fun _ _ => rfl)) pa_nil))) (pg_name (i := 5) sc_house_paper.nd rfl (.inl rfl)) (pss_one (ps_for PassesOwn.never rfl (pi_list (a_led_states.call hr (by decide) pass0 (pa_cons (pv 4) (pa_cons (pv 5) pa_nil)))) (pg_name (i := 6) sc_house_paper.nd rfl (.inl rfl)) (pss_one (ps_if (pt_cmp (pc_dnotin hu (pv 6) (pv 2))) (pss_cons (ps_dput hu (pv 2) (pv 6) pe_bl rfl)
      (pss_one (ps_expr (pe_bm PySem.F.plainAttrs_list PySem.F.slot_list_append PySem.F.type_list_append mt_append (pv 1) (pa_cons (pv 6) pa_nil))))) pss_nil)))))))))
      (pss_one (ps_ret (pe_lc (own := [("state", 4)]) rfl sc_house_paper.nd (pi_list (pv 1)) (blkOk_by (N := ["houselog", "states", "seen", "place", "state", "below", "led"]) (sc := defScope s_house_paper) (by decide +kernel)) (fun _ _ _ _ _ => (pg_name (i := 4) sc_house_paper.nd rfl (.inl rfl))) (fun _ _ _ _ _ => pts_nil) (fun _ _ _ _ _ => (pe_tup (pa_cons (pv 4) (pa_cons (a_least_count.call hr (by decide) pass0 (pa_cons (pv 4) pa_nil)) pa_nil))))))))))), ?_⟩
  refine ⟨_, rfl, g, n, l, rfl, hg, by omega, fun H1 t sm1 ht0 ht => ⟨two_line (by show 1 ≤ 1000; decide), fun D hD => ?_⟩⟩
  have eD1 := upd_same (H := H1) (a := D) (o := .lst [.ref t])
  have sm2 := sm1.new hD (.lst [.ref t])
  have et2 := same_new hD (.lst [.ref t]) _ _ ht
  intro S hS
  have nDS : D ≠ S := ne_of_none eD1 hS
  have hS0 : H S = none := sm2.free hS
  have hD0 : H D = none := sm1.free hD
  have eD2 : (upd (upd H1 D (.lst [.ref t])) S (.dT [])) D = some (.lst [.ref t]) := by rw [upd_ne nDS]; exact eD1
  have et3 := same_new hS (.dT []) _ _ et2
  refine ⟨_, rfl, D, _, 0, _, rfl, rfl, .of eD2, rfl, _, _, rfl, upd_same, t, key (n, l), rfl, et3, ?_⟩
  have hH : ∀ o, upd (upd (upd H1 D (.lst [.ref t])) S (.dT [])) S o = upd (upd H1 D (.lst [.ref t])) S o := fun o => upd_upd
  rw [hH]
  have sm3 := sm2.new hS (.dT [(key (n, l), .bl true)])
  have i0 : PapInv H D S n l [(n, l)] (upd (upd H1 D (.lst [.ref t])) S (.dT [(key (n, l), .bl true)])) := by
    refine ⟨⟨_, by rw [upd_ne nDS]; exact eD1, StIt.cons ⟨t, rfl, by rw [upd_ne (ne_of_none et2 hS)]; exact et2⟩ StIt.nil⟩, ⟨_, upd_same, fun c => ?_, Nat.le_refl _⟩, by simp, fun c hc => ?_, sm3⟩
    · by_cases e : c = (n, l)
      · rw [e]
        rw [valV_pos rfl]
        simp
      · rw [valV_neg (fun z => e (key_inj z).symm), valV_nil]
        simp [e]
    · rw [List.mem_singleton.mp hc]
      exact ⟨⟨h1, hgd⟩, Nat.le_refl _, Nat.le_refl _⟩
  refine ⟨fun m σ H' => ∃ (pl : Nat) (cs : List (Nat × Nat)) (o4 o5 o6 : Option V), σ = [some (.ref g), some (.ref D), some (.ref S), some (.int (pl : Nat)), o4, o5, o6] ∧ pl ≤ cs.length ∧ PapInv H D S n l cs H' ∧ m = 300 - pl,
    ⟨300, 0, [(n, l)], none, none, none, rfl, Nat.zero_le _, i0, rfl⟩, ?_⟩
  rintro m σ H' ⟨pl, cs, o4, o5, o6, rfl, hpl, iv, rfl⟩
  obtain ⟨xs, eD, si⟩ := id iv.xs
  have clen := iv.len hn hl
  refine ⟨_, rfl, _, rfl, D, xs, rfl, .inl (.of eD), _, _, rfl, rfl, _, rfl, iteD (fun cc => ?_) fun cc => ?_⟩
  · -- one state more
    have hlt : pl < xs.length := by omega
    refine ⟨fun σ' H2 => ∃ (cs' : List (Nat × Nat)) (o4 o5 o6 : Option V), σ' = [some (.ref g), some (.ref D), some (.ref S), some (.int ((pl : Int) + 1)), o4, o5, o6] ∧ cs.length ≤ cs'.length ∧ PapInv H D S n l cs' H2, ?_, ?_⟩
    · rintro σ' H2 ⟨cs', o4, o5, o6, rfl, hle, iv2⟩
      refine ⟨300 - (pl + 1), by omega, pl + 1, cs', o4, o5, o6, congrArg (fun z => [some (V.ref g), some (V.ref D), some (V.ref S), some (V.int z), o4, o5, o6]) (by omega), ?_, iv2, rfl⟩
      have := si.1
      omega
    · have hx : xs[pl]? = some xs[pl] := List.getElem?_eq_getElem hlt
      obtain ⟨c, hc, ts, ets, hts⟩ := si.get hx
      have hcm := List.mem_of_getElem? hc
      have gc := iv.box c hcm
      have tD : ts ≠ D := ne_of hts eD fun z => nomatch z
      refine ⟨_, rfl, _, rfl, D, xs, (pl : Nat), xs[pl], rfl, rfl, .of eD, atI_nat hx, ?_⟩
      rw [ets]
      refine ⟨_, rfl, _, _, rfl, rfl, ?_⟩
      have gc1 : 1 ≤ c.1 := gc.1.1
      have gcn : c.1 ≤ n := gc.2.1
      refine ⟨_, rfl, ts, _, 0, _, rfl, rfl, .of hts, rfl, 1, (c.1 : Nat), rfl, ⟨by omega, by omega, by omega, by omega⟩, ?_⟩
      refine for_range (lo := 1) (n := ((c.1 : Int) - 1).toNat) (fun j σ H2 => ∃ (cs' : List (Nat × Nat)) (o5 o6 : Option V), σ = [some (.ref g), some (.ref D), some (.ref S), some (.int ((pl : Int) + 1)), some (.ref ts), o5, o6] ∧
        cs.length ≤ cs'.length ∧ PapInv H D S n l cs' H2 ∧ Rst D S H' H2) ⟨cs, o5, o6, rfl, Nat.le_refl _, iv, fun _ _ _ _ q => q⟩ ?_ ?_
      · rintro j σ H2 hj ⟨cs2, o5, o6, rfl, hle2, iv2, rs2⟩
        have hl1 : 1 ≤ c.2 := gc.1.2.resolve_left (by omega)
        have ej : (1 : Int) + (j : Nat) = ((j + 1 : Nat) : Int) := by omega
        obtain ⟨kvs0, eS0, _⟩ := id iv.kv
        have hts2 : H2 ts = some (.tup [.int (c.1 : Nat), .int (c.2 : Nat)]) := rs2 _ _ tD (ne_of hts eS0 fun z => nomatch z) hts
        refine ⟨_, rfl, _, rfl, ts, c.1, c.2, j + 1, congrArg (fun z => [V.ref ts, V.int z]) ej, hts2, hl1, by omega, by omega, fun H3 r ys s3 hr3 er sy => ?_⟩
        refine ⟨r, rfl, ⟨_, .of er⟩, ?_⟩
        obtain ⟨xs2, eD2', si2⟩ := id iv2.xs
        obtain ⟨kvs2, eS2, sk2, lk2⟩ := id iv2.kv
        have iv3 : PapInv H D S n l cs2 H3 := ⟨⟨xs2, s3 _ _ eD2', si2.same s3⟩, ⟨kvs2, s3 _ _ eS2, sk2, lk2⟩, iv2.nd, iv2.box, iv2.sm.trans s3⟩
        have rD : r ≠ D := (ne_of_none eD2' hr3).symm
        have rS : r ≠ S := (ne_of_none eS2 hr3).symm
        refine for_list (K := K) (a := r) (xs := ys) (fun m σ H4 => ∃ (cs' : List (Nat × Nat)) (o6 : Option V), σ = [some (.ref g), some (.ref D), some (.ref S), some (.int ((pl : Int) + 1)), some (.ref ts), some (.int (1 + (j : Nat))), o6] ∧
          cs.length ≤ cs'.length ∧ PapInv H D S n l cs' H4 ∧ Rst D S H3 H4) ⟨cs2, o6, rfl, hle2, iv3, fun _ _ _ _ q => q⟩ (fun m σ H4 _ ⟨_, _, _, _, _, r4⟩ => .of (r4 _ _ rD rS er)) ?_ ?_
        · rintro m y σ H4 hy ⟨cs4, o6, rfl, hle4, iv4, rs4⟩
          obtain ⟨d, hd, td, etd, htd⟩ := sy.get hy
          subst etd
          obtain ⟨xs4, eD4, si4⟩ := id iv4.xs
          obtain ⟨kvs4, eS4, sk4, lk4⟩ := id iv4.kv
          have htd4 : H4 td = some (.tup [.int (d.1 : Nat), .int (d.2 : Nat)]) := rs4 _ _ (ne_of htd (s3 _ _ eD2') fun z => nomatch z) (ne_of htd (s3 _ _ eS2) fun z => nomatch z) htd
          have gd := led_good (n := c.1) (l := c.2) (b := j + 1) (by omega) (by omega) hl1 d (List.mem_of_getElem? hd)
          have c4 := iv4.len hn hl
          refine ⟨_, rfl, _, rfl, S, _, rfl, DGet.t (k := key d) eS4 htd4, _, rfl, ?_⟩
          rw [sk4 d]
          refine iteN (fun hnot => ?_) fun hin => ⟨cs4, _, rfl, hle4, iv4, rs4⟩
          have lz : kvs4.length < sizeLine := small1000 (by omega)
          obtain ⟨iv5, rs5⟩ := iv4.add hD0 hS0 eD4 eS4 sk4 lk4 si4 htd4 hnot ⟨gd.1, by omega, by have := gd.2.2; have := gc.2.2; omega⟩
          refine ⟨_, rfl, _, rfl, S, _, rfl, DPut.t (k := key d) eS4 htd4 lz, ?_⟩
          have nDS4 : D ≠ S := nDS
          have eD5 : (upd H4 S (.dT (putK kvs4 (key d) (.bl true)))) D = some (.lst xs4) := by rw [upd_ne nDS]; exact eD4
          refine ⟨_, rfl, .inl ⟨rfl, _, SqL.of eD5⟩, _, rfl, D, xs4, _, rfl, rfl, eD5, small1000 (by have := si4.1; omega), ?_⟩
          refine ⟨cs4 ++ [d], _, rfl, by rw [List.length_append]; omega, iv5, fun b o n1 n2 q => rs5 b o n1 n2 (rs4 b o n1 n2 q)⟩
        · rintro σ H4 ⟨cs4, o6, rfl, hle4, iv4, rs4⟩
          exact ⟨cs4, _, o6, rfl, hle4, iv4, fun b o n1 n2 q => rs4 b o n1 n2 (s3 _ _ (rs2 b o n1 n2 q))⟩
      · rintro σ H2 ⟨cs2, o5, o6, rfl, hle2, iv2, rs2⟩
        exact ⟨cs2, _, o5, o6, rfl, hle2, iv2⟩
  · -- the pairs
    refine ⟨_, rfl, D, rfl, ⟨_, .of eD⟩, fun L hL => ?_⟩
    refine lc_list (K := K) (a := D) (xs := xs) (fun m H3 => ∃ acc ps, H3 L = some (.lst acc) ∧ PsIt H3 acc ps ∧ IntP ps ∧ ps.length = m ∧ Same H' H3) ⟨[], [], upd_same, PsIt.nil, (fun _ h => nomatch h), rfl, same_new hL _⟩ (fun m H3 _ ⟨_, _, _, _, _, _, s3⟩ => .of (s3 _ _ eD)) ?_ ?_
    · rintro m y H3 hy ⟨acc, ps, eL, pi, nl, lm, s3⟩
      obtain ⟨c, hc, tc, etc, htc⟩ := si.get hy
      subst etc
      have gc := iv.box c (List.mem_of_getElem? hc)
      have lt : m < xs.length := (List.getElem?_eq_some_iff.mp hy).1
      refine ⟨rfl, _, rfl, _, rfl, tc, c.1, c.2, rfl, s3 _ _ htc, by have := gc.2.1; omega, fun k => ⟨two_line (by show 2 ≤ 1000; decide), fun p hp => ?_⟩⟩
      have nL : L ≠ p := ne_of_none eL hp
      have eL2 : (upd H3 p (.tup [.ref tc, .int k])) L = some (.lst acc) := by rw [upd_ne nL]; exact eL
      refine ⟨acc, eL2, small1000 (by rw [pi.1, lm]; have := si.1; omega), acc ++ [.ref p], ps ++ [(.tup [.int (c.1 : Nat), .int (c.2 : Nat)], .int k)], upd_same, ?_, ?_, by rw [List.length_append, lm]; rfl, (s3.new hp _).updL hL⟩
      · refine PsIt.snoc ((pi.same (same_new hp _)).updL eL2 nl.noL) (PrAt.updL (p := (.tup [.int (c.1 : Nat), .int (c.2 : Nat)], .int k)) ⟨p, .ref tc, rfl, upd_same, tc, rfl, ?_⟩ eL2 fun _ z => nomatch z)
        exact same_new hp _ _ _ (s3 _ _ htc)
      · intro x hx
        rcases List.mem_append.mp hx with z | z
        · exact nl x z
        · exact ⟨_, _, _, List.mem_singleton.mp z⟩
    · rintro H3 ⟨acc, ps, eL, pi, nl, lm, s3⟩
      exact q H3 L ps (iv.sm.trans s3) (iv.sm.free hL) ⟨acc, eL, pi⟩ nl (by rw [lm]; have := si.1; omega)
end
end K70

namespace K70
open PySem PySem.Spec PyProof.Rows L2
abbrev s_check_house_paper : Stmt := topS 23
theorem sc_check_house_paper : FnScope ["houselog", "v", "pairs", "start", "found", "place", "pair", "reason"] ["houselog", "v", "pairs"] (defScope s_check_house_paper) := ⟨rfl, rfl, rfl, by decide +kernel, rfl, by decide +kernel, by decide +kernel⟩
def spCheck (C CP CN : Addr) : Sp := fun vs H Q E => ∃ (g : Addr) (n l : Nat) (x : Fl) (p : Addr) (ps : List (Cs × Fl)), vs = [.ref g, x.v, .ref p] ∧ LogAt C H g n l ∧ n ≤ 24 ∧ PsAt H p ps ∧ ps.length ≤ 1000 ∧
  (inRange x 0 none = false → ∀ d, H d = none → E (.ref CN) (some d) (upd H d (.xd [(("what" : Str), .str ("probes" : Str)), (("value" : Str), x.v)]))) ∧
  (∀ i, x = .int i → 0 ≤ i → (verdict (n, l) ps i = none → ∀ H', Same H H' → Q (.bl true) H') ∧
    (∀ (k : Nat) (r : Str), verdict (n, l) ps i = some (k, r) → ∀ H' d, Same H H' → H' d = none → E (.ref CP) (some d) (upd H' d (.xd [(("place" : Str), .int (k : Nat)), (("reason" : Str), .str r)]))))
section
variable {P : Program} {w : World} {K : PySem.W.Frag} {mg : Str → Option Value} {base : Heap} {f C CP CN : Addr} {fd : FuncData}
theorem ok_check_house_paper (F : Fun K "check_house_paper" "check_house_paper" s_check_house_paper f fd) (T : Bs mg) (TP : BadTxt P K mg "BadPaper" "place" "reason" CP)
    (a_check_number : Av P w K mg base (L2.CX P w) 3 "check_number" ["what", "value", "low", "high"] (spChk CN)) (a_state_of : Av P w K mg base CX0 2 "state_of" ["houselog"] (spState C))
    (a_greatest_counts : Av P w K mg base CX0 3 "greatest_counts" ["pairs", "start"] spTops) (a_house_fault : Av P w K mg base CX0 3 "house_fault" ["found", "pair", "start"] spFault)
    (a_stands : Av P w K mg base CX0 1 "stands" ["found", "state", "count"] spStands) : FnOk P w K mg base (L2.CX P w) 4 f fd ["houselog", "v", "pairs"] (spCheck C CP CN) := by
  refine F.okX sc_check_house_paper (fun vs H Q E h => ?_) (fun cdv A outer s H vs Q E hr h => ?_)
  · obtain ⟨g, n, l, x, p, ps, rfl, _⟩ := h
    rfl
  obtain ⟨g, n, l, x, p, ps, rfl, hg, hn, hp, hlen, qN, qV⟩ := h
  have hu := hu_of hr
  refine ⟨_, (pss_cons (ps_expr (a_check_number.callS hr (by decide) (takes_of rfl rfl rfl rfl) (pa_cons pe_str (pa_cons (pv 1) (pa_cons pe_int (pa_cons pe_non pa_nil))))))
      (pss_cons (ps_set (i := 3) sc_check_house_paper.nd rfl (.inl rfl) (a_state_of.call hr (by decide) pass0 (pa_cons (pv 0) pa_nil)))
      (pss_cons (ps_set (i := 4) sc_check_house_paper.nd rfl (.inl rfl) (a_greatest_counts.call hr (by decide) pass0 (pa_cons (pv 2) (pa_cons (pv 3) pa_nil))))
      (pss_cons (ps_for (passes_of rfl) rfl (pi_enum (by rfl) T.enum (pa_cons (pv 2) pa_nil)) (pg_tup (by rfl) (pgs_cons (pg_name (i := 5) sc_check_house_paper.nd rfl (.inl rfl)) (pgs_cons (pg_name (i := 6) sc_check_house_paper.nd rfl (.inl rfl)) pgs_nil))) (pss_cons (ps_set (i := 7) sc_check_house_paper.nd rfl (.inl rfl) (a_house_fault.call hr (by decide) pass0 (pa_cons (pv 4) (pa_cons (pv 6) (pa_cons (pv 3) pa_nil)))))
      (pss_one (ps_if (pt_cmpR op_notN (pv 7) pe_non (nomark _)) (pss_one (ps_raise rfl (takes_of rfl rfl rfl rfl) (pmk_bad TP (by decide) hr (pa_cons (pv 5) (pa_cons (pv 7) pa_nil)) rfl))) pss_nil))))
      (pss_cons (ps_if (pt_not (pt_val (a_stands.call hr (by decide) pass0 (pa_cons (pv 4) (pa_cons (pv 3) (pa_cons (pv 1) pa_nil)))))) (pss_one (ps_raise rfl (takes_of rfl rfl rfl rfl) (pmk_bad TP (by decide) hr (pa_cons (pe_callB call_len_seq (by rfl) T.len bo_len (pa_cons (pv 2) pa_nil)) (pa_cons pe_str pa_nil)) rfl))) pss_nil)
      (pss_one (ps_ret pe_bl))))))), ?_⟩
  refine ⟨_, rfl, ("probes" : Str), x, 0, none, rfl, fun ir => ?_, fun ir => qN ir⟩
  have ex : ∃ i, x = .int i ∧ 0 ≤ i := by
    unfold inRange at ir
    cases e : isNum x with
    | none => rw [e] at ir; cases ir
    | some i =>
      rw [e] at ir
      refine ⟨i, ?_, by simpa [inHi] using ir⟩
      cases x <;> simp [isNum] at e
      rw [e]
  obtain ⟨i, rfl, hi⟩ := ex
  obtain ⟨qf, qb⟩ := qV i rfl hi
  refine ⟨_, rfl, g, n, l, rfl, hg, by omega, fun H1 s sm1 hs0 hs => ?_⟩
  obtain ⟨xs, ep, hxs⟩ := hp
  refine ⟨_, rfl, _, rfl, p, s, ps, n, l, rfl, ⟨xs, sm1 _ _ ep, hxs.same sm1⟩, hlen, hs, fun H2 d kvs sm2 hd0 hd tp => ?_⟩
  refine ⟨_, rfl, p, xs, rfl, .of (sm2 _ _ (sm1 _ _ ep)), ?_⟩
  refine for_it walk_enum (fun j σ H3 => (∃ o5 o6 o7, σ = [some (.ref g), some (.int i), some (.ref p), some (.ref s), some (.ref d), o5, o6, o7]) ∧ Same H2 H3 ∧ ∀ (j' : Nat) (q : Cs × Fl), j' < j → ps[j']? = some q → fault (n, l) (tops (n, l) ps) q = none)
    ⟨⟨none, none, none, rfl⟩, Same.refl H2, fun _ _ z => absurd z (Nat.not_lt_zero _)⟩ (fun j σ H3 _ ⟨_, s3, _⟩ => .of (s3 _ _ (sm2 _ _ (sm1 _ _ ep)))) ?_ ?_
  · rintro j y σ H3 H4 hj ⟨⟨o5, o6, o7, rfl⟩, s3, all⟩ ⟨t, a, b, rfl, ht, rfl, ha, hb⟩
    cases ha
    obtain ⟨q, hq, pq⟩ := hxs.get hb
    have s4 : Same H2 (upd H3 t (.tup [.int (j : Nat), b])) := s3.new ht _
    have sm : Same H (upd H3 t (.tup [.int (j : Nat), b])) := sm1.trans (sm2.trans s4)
    refine ⟨t, _, rfl, .of upd_same, rfl, _, _, rfl, _, _, rfl, rfl, ?_⟩
    refine ⟨_, rfl, _, rfl, _, rfl, d, b, s, kvs, tops (n, l) ps, q, n, l, rfl, s4 _ _ hd, tp, pq.same sm, s4 _ _ (sm2 _ _ hs), hn, fun H5 s5 => ?_⟩
    cases ef : fault (n, l) (tops (n, l) ps) q with
    | none =>
      refine ⟨_, rfl, rfl, _, rfl, iteF ⟨⟨_, _, _, rfl⟩, s4.trans s5, fun j' q' hj' hq' => ?_⟩⟩
      by_cases z : j' = j
      · rw [z] at hq'
        rw [hq] at hq'
        cases hq'
        exact ef
      · exact all j' q' (by omega) hq'
    | some r =>
      refine ⟨_, rfl, rfl, _, rfl, iteT ⟨_, rfl, _, rfl, _, _, rfl, fun e he => ?_⟩⟩
      refine qb j r ?_ H5 e (sm.trans s5) he
      unfold verdict
      rw [firstBad_at ps 0 j q r all hq ef, Nat.zero_add]
  · rintro σ H3 ⟨⟨o5, o6, o7, rfl⟩, s3, all⟩
    have sm : Same H H3 := sm1.trans (sm2.trans s3)
    have fb : firstBad (fault (n, l) (tops (n, l) ps)) ps 0 = none := firstBad_none ps 0 fun j' q' hq' => all j' q' (by have := (List.getElem?_eq_some_iff.mp hq').1; have := hxs.1; omega) hq'
    refine ⟨_, rfl, _, rfl, _, rfl, d, _, i, kvs, tops (n, l) ps, (n, l), rfl, s3 _ _ hd, tp, ⟨s, rfl, s3 _ _ (sm2 _ _ hs)⟩, ?_⟩
    have ve : verdict (n, l) ps i = if stands (tops (n, l) ps) (n, l) i = true then none else some (ps.length, ("start" : Str)) := by
      unfold verdict
      rw [fb]
    refine ⟨_, rfl, ?_⟩
    cases es : stands (tops (n, l) ps) (n, l) i with
    | true => exact iteF (qf (by rw [ve, es]; rfl) H3 sm)
    | false =>
      refine iteT ⟨_, rfl, p, xs, rfl, .inl (.of (sm _ _ ep)), _, _, rfl, fun e he => ?_⟩
      rw [hxs.1]
      exact qb ps.length "start" (by rw [ve, es]; rfl) H3 e sm he
end
end K70

namespace K70
open PySem PySem.Spec PyProof.Rows L2
/-! ### lists of whole numbers -/
theorem flat_ints (l : List Int) : (l.map V.int).all flatV = true := by
  rw [List.all_map]
  exact List.all_eq_true.mpr fun _ _ => rfl
theorem inV_ints (p : Int) (l : List Int) : inV (.int p) (l.map V.int) = decide (p ∈ l) := by
  unfold inV
  induction l with
  | nil => rfl
  | cons a l ih =>
    rw [List.map_cons, List.any_cons, ih]
    show ((a == p) || decide (p ∈ l)) = _
    by_cases e : a = p
    · subst e; simp
    · have e1 : (a == p) = false := by simpa using e
      have e2 : ¬ p = a := fun z => e z.symm
      rw [e1, Bool.false_or]
      simp [e2]
theorem cut_from (xs : List V) (k : Nat) : cutV xs (some (k : Int)) none = xs.drop k := by
  unfold cutV
  rw [HT.sIx_nat, HT.sIx_none]
  by_cases h : k ≤ xs.length
  · rw [Nat.min_eq_left h, List.take_of_length_le (by rw [List.length_drop]; exact Nat.le_refl _)]
  · rw [Nat.min_eq_right (by omega), List.drop_of_length_le (Nat.le_refl _), List.drop_of_length_le (by omega)]
    simp
theorem cut_to (xs : List V) (k : Nat) : cutV xs none (some (k : Int)) = xs.take k := by
  unfold cutV
  rw [HT.sIx_nat, HT.sIx_none, List.drop_zero, Nat.sub_zero]
  by_cases h : k ≤ xs.length
  · rw [Nat.min_eq_left h]
  · rw [Nat.min_eq_right (by omega), List.take_of_length_le (Nat.le_refl _), List.take_of_length_le (by omega)]
theorem cut_mid (xs : List V) (j k : Nat) (h : j ≤ xs.length) : cutV xs (some (j : Int)) (some (k : Int)) = (xs.drop j).take (k - j) := by
  unfold cutV
  rw [HT.sIx_nat, HT.sIx_nat, Nat.min_eq_left h]
  by_cases h : k ≤ xs.length
  · rw [Nat.min_eq_left h]
  · rw [Nat.min_eq_right (by omega), List.take_of_length_le (by rw [List.length_drop]; exact Nat.le_refl _), List.take_of_length_le (by rw [List.length_drop]; omega)]
/-! ### the log's game -/
def okP (can : List Int) (p : Int) (o : Option Int) : Prop := p ∈ can.drop 1 ∧ ∀ t, o = some t → t ∈ can ∧ t < p
def nxt (can : List Int) (left : Nat) (p : Int) : Option Int → List Int × Nat
  | none => (can.filter (fun w => decide (p ≤ w)), left)
  | some t => if left = 1 then ([t], 0) else (can.filter (fun w => decide (w ≤ t)), left - 1)
theorem take_ints {l : List Int} {i : Nat} {x : V} (h : (l.map V.int)[i]? = some x) : ∃ a, l[i]? = some a ∧ x = .int a := by
  rw [List.getElem?_map] at h
  cases e : l[i]? with
  | none => rw [e] at h; cases h
  | some a => rw [e] at h; cases h; exact ⟨a, rfl, rfl⟩
theorem take_snoc {α : Type} {l : List α} {i : Nat} {x : α} (h : l[i]? = some x) : l.take (i + 1) = l.take i ++ [x] := by
  rw [List.take_add_one, h]
  rfl
theorem filter_yes {f : Int → Bool} {l : List Int} {i : Nat} {x : Int} (h : l[i]? = some x) (hf : f x = true) : ((l.take (i + 1)).filter f).map V.int = ((l.take i).filter f).map V.int ++ [.int x] := by
  rw [take_snoc h, List.filter_append, List.map_append]
  simp [hf]
theorem filter_no {f : Int → Bool} {l : List Int} {i : Nat} {x : Int} (h : l[i]? = some x) (hf : f x = false) : ((l.take (i + 1)).filter f).map V.int = ((l.take i).filter f).map V.int := by
  rw [take_snoc h, List.filter_append, List.map_append]
  simp [hf]
theorem filter_len {f : Int → Bool} {l : List Int} {i : Nat} (h : l.length ≤ 100) : (((l.take i).filter f).map V.int).length < sizeLine := by
  rw [List.length_map]
  have := List.length_filter_le f (l.take i)
  have := List.length_take_le i l
  have := List.length_take_le' i l
  exact small1000 (by omega)
abbrev s_after_told : Stmt := topS 12
theorem sc_after_told : FnScope ["can", "left", "probe", "told", "width"] ["can", "left", "probe", "told"] (defScope s_after_told) := ⟨rfl, rfl, rfl, by decide +kernel, rfl, by decide +kernel, by decide +kernel⟩
abbrev s_law_after : Stmt := topS 36
theorem sc_law_after : FnScope ["_law_now", "_law_probe", "_law_told", "_law_can", "_law_left", "_law_width"] ["_law_now", "_law_probe", "_law_told"] (defScope s_law_after) := ⟨rfl, rfl, rfl, by decide +kernel, rfl, by decide +kernel, by decide +kernel⟩
def AfterOut (can : List Int) (left : Nat) (p : Int) (o : Option Int) (H : Hp) (Q : VK) : Prop := ∀ (H' : Hp) (t c' : Addr), Same H H' → H t = none → H c' = none → H' t = some (.tup [.ref c', .int ((nxt can left p o).2 : Nat)]) → H' c' = some (.lst ((nxt can left p o).1.map V.int)) → Q (.ref t) H'
def spAfter : Sp := fun vs H Q _ => ∃ (c : Addr) (left : Nat) (can : List Int) (p : Int) (o : Option Int), vs = [.ref c, .int (left : Nat), .int p, hiV o] ∧ H c = some (.lst (can.map V.int)) ∧ can.length ≤ 100 ∧ okP can p o ∧ 1 ≤ left ∧ AfterOut can left p o H Q
def spAfterL : Sp := fun vs H Q _ => ∃ (n c : Addr) (left : Nat) (can : List Int) (p : Int) (o : Option Int), vs = [.ref n, .int p, hiV o] ∧ H n = some (.tup [.ref c, .int (left : Nat)]) ∧ H c = some (.lst (can.map V.int)) ∧ can.length ≤ 100 ∧ okP can p o ∧ 1 ≤ left ∧ AfterOut can left p o H Q
section
variable {P : Program} {w : World} {K : PySem.W.Frag} {mg : Str → Option Value} {base : Heap} {f C : Addr} {fd : FuncData}
theorem ok_after_told (F : Fun K "after_told" "after_told" s_after_told f fd) (T : Bs mg) (a_is_integer : Av P w K mg base CX0 1 "is_integer" ["value"] spInt) : FnOk P w K mg base CX0 2 f fd ["can", "left", "probe", "told"] spAfter := by
  refine F.ok sc_after_told (fun vs H Q E h => ?_) (fun cdv A outer s H vs Q E hr h => ?_)
  · obtain ⟨c, left, can, p, o, rfl, _⟩ := h
    rfl
  obtain ⟨c, left, can, p, o, rfl, hc, hcl, ⟨hp, ho⟩, hl, q⟩ := h
  refine ⟨_, (pss_cons (ps_if (PW.pt (pw_or (pt_not (pt_val (a_is_integer.call hr (by decide) pass0 (pa_cons (pv 2) pa_nil)))) (pw_or1 (pt_cmpR op_notIn_seq (pv 2) (pe_slice sl_list (pv 0) (po_some pe_int) po_none) (by rfl))))) (pss_one (ps_ret pe_non)) pss_nil)
      (pss_cons (ps_if (pt_cmpR op_isN (pv 3) pe_non (nomark _)) (pss_one (ps_ret (pe_tup (pa_cons (pe_lc (own := [("width", 4)]) rfl sc_after_told.nd (pi_list (pv 0)) (blkOk_by (N := ["can", "left", "probe", "told", "width"]) (sc := defScope s_after_told) (by decide +kernel)) (fun _ _ _ _ _ => (pg_name (i := 4) sc_after_told.nd rfl (.inl rfl))) (fun _ _ _ _ _ => (pts_one (pt_cmpR op_ge (pv 4) (pv 2) (nomark _)))) (fun _ _ _ _ _ => (pv 4))) (pa_cons (pv 1) pa_nil))))) pss_nil)
      (pss_cons (ps_if (PW.pt (pw_or (pt_not (pt_val (a_is_integer.call hr (by decide) pass0 (pa_cons (pv 3) pa_nil)))) (pw_or (pt_cmpR op_notIn_seq (pv 3) (pv 0) (by rfl)) (pw_or1 (pt_cmpR op_ge (pv 3) (pv 2) (nomark _)))))) (pss_one (ps_ret pe_non)) pss_nil)
      (pss_cons (ps_if (pt_cmpR op_eq (pv 1) pe_int (nomark _)) (pss_one (ps_ret (pe_tup (pa_cons (pe_lst (pa_cons (pv 3) pa_nil)) (pa_cons pe_int pa_nil))))) pss_nil)
      (pss_one (ps_ret (pe_tup (pa_cons (pe_lc (own := [("width", 4)]) rfl sc_after_told.nd (pi_list (pv 0)) (blkOk_by (N := ["can", "left", "probe", "told", "width"]) (sc := defScope s_after_told) (by decide +kernel)) (fun _ _ _ _ _ => (pg_name (i := 4) sc_after_told.nd rfl (.inl rfl))) (fun _ _ _ _ _ => (pts_one (pt_cmpR op_le (pv 4) (pv 3) (nomark _)))) (fun _ _ _ _ _ => (pv 4))) (pa_cons (pe_op op_sub (pv 1) pe_int) pa_nil))))))))), ?_⟩
  refine ⟨_, rfl, .int p, rfl, _, rfl, iteF ?_⟩
  refine ⟨_, rfl, _, rfl, 1, rfl, c, _, rfl, .of hc, fun r hr' => ?_⟩
  refine ⟨r, _, rfl, .inl (.of upd_same), rfl, ?_, false, ?_, iteF ?_⟩
  · rw [show (1 : Int) = ((1 : Nat) : Int) from rfl, cut_from, ← List.map_drop]; exact flat_ints _
  · rw [show (1 : Int) = ((1 : Nat) : Int) from rfl, cut_from, ← List.map_drop, inV_ints, decide_eq_true hp]; rfl
  have s1 := same_new hr' (.lst (cutV (can.map V.int) (some 1) none))
  cases o with
  | none =>
    refine ⟨_, rfl, rfl, _, rfl, iteT ?_⟩
    refine ⟨_, rfl, c, rfl, ⟨_, .of (s1 _ _ hc)⟩, fun D hD => ?_⟩
    refine lc_list (K := K) (a := c) (xs := can.map V.int) (fun i H' => H' D = some (.lst (((can.take i).filter (fun w => decide (p ≤ w))).map V.int)) ∧ Same (upd H r (.lst (cutV (can.map V.int) (some 1) none))) H') ⟨upd_same, same_new hD _⟩ (fun i H' _ ⟨_, s2⟩ => .of (s2 _ _ (s1 _ _ hc))) ?_ ?_
    · rintro i x H' hx ⟨eD, s2⟩
      obtain ⟨a, ha, rfl⟩ := take_ints hx
      refine ⟨rfl, _, rfl, _, rfl, _, _, rfl, rfl, _, rfl, iteD (fun cc => ?_) fun cc => ?_⟩
      · refine ⟨_, rfl, _, eD, filter_len hcl, ?_, s2.updL hD⟩
        rw [upd_same, filter_yes ha (decide_eq_true cc)]
      · exact ⟨by rw [filter_no ha (decide_eq_false cc)]; exact eD, s2⟩
    · rintro H' ⟨eD, s2⟩
      rw [List.length_map, List.take_length] at eD
      refine ⟨_, rfl, two_line (by show 2 ≤ 1000; decide), fun t ht => ?_⟩
      refine q _ t D ((s1.trans s2).new ht _) ((s1.trans s2).free ht) (s1.free hD) upd_same ?_
      rw [upd_ne (ne_of_none eD ht)]
      exact eD
  | some t =>
    obtain ⟨ht, htp⟩ := ho t rfl
    refine ⟨_, rfl, rfl, _, rfl, iteF ?_⟩
    refine ⟨_, rfl, .int t, rfl, _, rfl, iteF ?_⟩
    refine ⟨_, rfl, _, rfl, c, _, rfl, .inl (.of (s1 _ _ hc)), rfl, flat_ints _, false, ?_, iteF ?_⟩
    · show V.bl (!inV (.int t) _) = V.bl false
      rw [inV_ints, decide_eq_true ht]; rfl
    refine ⟨_, rfl, _, rfl, _, _, rfl, rfl, _, rfl, iteD (fun cc => absurd cc (by omega)) fun _ => ?_⟩
    refine ⟨_, rfl, rfl, _, rfl, iteD (fun cc => ?_) fun cc => ?_⟩
    · have c1 : left = 1 := by have := V.int.inj cc; omega
      refine ⟨_, rfl, two_line (by show 1 ≤ 1000; decide), fun D hD => ⟨two_line (by show 2 ≤ 1000; decide), fun u hu => ?_⟩⟩
      have e : nxt can left p (some t) = ([t], 0) := if_pos c1
      refine q _ u D ((s1.new hD _).new hu _) ((s1.new hD _).free hu) (s1.free hD) (by rw [upd_same, e]; rfl) ?_
      rw [upd_ne (ne_of_none upd_same hu), upd_same, e]
      rfl
    · have c1 : left ≠ 1 := fun z => cc (by rw [z]; rfl)
      have e : nxt can left p (some t) = (can.filter (fun w => decide (w ≤ t)), left - 1) := if_neg c1
      refine ⟨_, rfl, c, rfl, ⟨_, .of (s1 _ _ hc)⟩, fun D hD => ?_⟩
      refine lc_list (K := K) (a := c) (xs := can.map V.int) (fun i H' => H' D = some (.lst (((can.take i).filter (fun w => decide (w ≤ t))).map V.int)) ∧ Same (upd H r (.lst (cutV (can.map V.int) (some 1) none))) H') ⟨upd_same, same_new hD _⟩ (fun i H' _ ⟨_, s2⟩ => .of (s2 _ _ (s1 _ _ hc))) ?_ ?_
      · rintro i x H' hx ⟨eD, s2⟩
        obtain ⟨a, ha, rfl⟩ := take_ints hx
        refine ⟨rfl, _, rfl, _, rfl, _, _, rfl, rfl, _, rfl, iteD (fun cc => ?_) fun cc => ?_⟩
        · refine ⟨_, rfl, _, eD, filter_len hcl, ?_, s2.updL hD⟩
          rw [upd_same, filter_yes ha (decide_eq_true cc)]
        · exact ⟨by rw [filter_no ha (decide_eq_false cc)]; exact eD, s2⟩
      · rintro H' ⟨eD, s2⟩
        rw [List.length_map, List.take_length] at eD
        refine ⟨_, rfl, _, _, rfl, rfl, two_line (by show 2 ≤ 1000; decide), fun u hu => ?_⟩
        refine q _ u D ((s1.trans s2).new hu _) ((s1.trans s2).free hu) (s1.free hD) ?_ ?_
        · rw [upd_same, e]
          exact congrArg (fun z => some (HO.tup [V.ref D, V.int z])) (by omega)
        · rw [upd_ne (ne_of_none eD hu), e]
          exact eD
theorem ok_law_after (F : Fun K "_law_after" "_law_after" s_law_after f fd) (T : Bs mg) : FnOk P w K mg base CX0 1 f fd ["_law_now", "_law_probe", "_law_told"] spAfterL := by
  refine F.ok sc_law_after (fun vs H Q E h => ?_) (fun cdv A outer s H vs Q E hr h => ?_)
  · obtain ⟨n, c, left, can, p, o, rfl, _⟩ := h
    rfl
  obtain ⟨n, c, left, can, p, o, rfl, hn, hc, hcl, ⟨hp, ho⟩, hl, q⟩ := h
  refine ⟨_, (pss_cons (ps_asg (pv 0) (pg_tup (by rfl) (pgs_cons (pg_name (i := 3) sc_law_after.nd rfl (.inl rfl)) (pgs_cons (pg_name (i := 4) sc_law_after.nd rfl (.inl rfl)) pgs_nil))))
      (pss_cons (ps_if (PW.pt (pw_or (pt_not (pt_val (pe_callB call_isi (by rfl) T.isi bo_isi (pa_cons (pv 1) (pa_cons (pe_bltn (v := .ty "int") (by rfl) T.int bo_int rfl) pa_nil))))) (pw_or (pt_val (pe_callB call_isi (by rfl) T.isi bo_isi (pa_cons (pv 1) (pa_cons (pe_bltn (v := .ty "bool") (by rfl) T.bool bo_bool rfl) pa_nil)))) (pw_or1 (pt_cmpR op_notIn_seq (pv 1) (pe_slice sl_list (pv 3) (po_some pe_int) po_none) (by rfl)))))) (pss_one (ps_ret pe_non)) pss_nil)
      (pss_cons (ps_if (pt_cmpR op_isN (pv 2) pe_non (nomark _)) (pss_one (ps_ret (pe_tup (pa_cons (pe_lc (own := [("_law_width", 5)]) rfl sc_law_after.nd (pi_list (pv 3)) (blkOk_by (N := ["_law_now", "_law_probe", "_law_told", "_law_can", "_law_left", "_law_width"]) (sc := defScope s_law_after) (by decide +kernel)) (fun _ _ _ _ _ => (pg_name (i := 5) sc_law_after.nd rfl (.inl rfl))) (fun _ _ _ _ _ => (pts_one (pt_cmpR op_ge (pv 5) (pv 1) (nomark _)))) (fun _ _ _ _ _ => (pv 5))) (pa_cons (pv 4) pa_nil))))) pss_nil)
      (pss_cons (ps_if (PW.pt (pw_or (pt_not (pt_val (pe_callB call_isi (by rfl) T.isi bo_isi (pa_cons (pv 2) (pa_cons (pe_bltn (v := .ty "int") (by rfl) T.int bo_int rfl) pa_nil))))) (pw_or (pt_val (pe_callB call_isi (by rfl) T.isi bo_isi (pa_cons (pv 2) (pa_cons (pe_bltn (v := .ty "bool") (by rfl) T.bool bo_bool rfl) pa_nil)))) (pw_or (pt_cmpR op_notIn_seq (pv 2) (pv 3) (by rfl)) (pw_or1 (pt_cmpR op_ge (pv 2) (pv 1) (nomark _))))))) (pss_one (ps_ret pe_non)) pss_nil)
      (pss_cons (ps_if (pt_cmpR op_eq (pv 4) pe_int (nomark _)) (pss_one (ps_ret (pe_tup (pa_cons (pe_lst (pa_cons (pv 2) pa_nil)) (pa_cons pe_int pa_nil))))) pss_nil)
      (pss_one (ps_ret (pe_tup (pa_cons (pe_lc (own := [("_law_width", 5)]) rfl sc_law_after.nd (pi_list (pv 3)) (blkOk_by (N := ["_law_now", "_law_probe", "_law_told", "_law_can", "_law_left", "_law_width"]) (sc := defScope s_law_after) (by decide +kernel)) (fun _ _ _ _ _ => (pg_name (i := 5) sc_law_after.nd rfl (.inl rfl))) (fun _ _ _ _ _ => (pts_one (pt_cmpR op_le (pv 5) (pv 2) (nomark _)))) (fun _ _ _ _ _ => (pv 5))) (pa_cons (pe_op op_sub (pv 4) pe_int) pa_nil)))))))))), ?_⟩
  refine ⟨_, rfl, n, _, rfl, .of hn, rfl, _, _, rfl, _, _, rfl, rfl, ?_⟩
  refine ⟨_, rfl, _, _, _, _, true, rfl, .ty "int", (Fl.int p).ty, (Fl.int p).kI, true, rfl, iteF ?_⟩
  refine ⟨_, rfl, _, _, _, _, false, rfl, .ty "bool", (Fl.int p).ty, (Fl.int p).kB, false, rfl, iteF ?_⟩
  refine ⟨_, rfl, _, rfl, 1, rfl, c, _, rfl, .of hc, fun r hr' => ?_⟩
  refine ⟨r, _, rfl, .inl (.of upd_same), rfl, ?_, false, ?_, iteF ?_⟩
  · rw [show (1 : Int) = ((1 : Nat) : Int) from rfl, cut_from, ← List.map_drop]; exact flat_ints _
  · rw [show (1 : Int) = ((1 : Nat) : Int) from rfl, cut_from, ← List.map_drop, inV_ints, decide_eq_true hp]; rfl
  have s1 := same_new hr' (.lst (cutV (can.map V.int) (some 1) none))
  cases o with
  | none =>
    refine ⟨_, rfl, rfl, _, rfl, iteT ?_⟩
    refine ⟨_, rfl, c, rfl, ⟨_, .of (s1 _ _ hc)⟩, fun D hD => ?_⟩
    refine lc_list (K := K) (a := c) (xs := can.map V.int) (fun i H' => H' D = some (.lst (((can.take i).filter (fun w => decide (p ≤ w))).map V.int)) ∧ Same (upd H r (.lst (cutV (can.map V.int) (some 1) none))) H') ⟨upd_same, same_new hD _⟩ (fun i H' _ ⟨_, s2⟩ => .of (s2 _ _ (s1 _ _ hc))) ?_ ?_
    · rintro i x H' hx ⟨eD, s2⟩
      obtain ⟨a, ha, rfl⟩ := take_ints hx
      refine ⟨rfl, _, rfl, _, rfl, _, _, rfl, rfl, _, rfl, iteD (fun cc => ?_) fun cc => ?_⟩
      · refine ⟨_, rfl, _, eD, filter_len hcl, ?_, s2.updL hD⟩
        rw [upd_same, filter_yes ha (decide_eq_true cc)]
      · exact ⟨by rw [filter_no ha (decide_eq_false cc)]; exact eD, s2⟩
    · rintro H' ⟨eD, s2⟩
      rw [List.length_map, List.take_length] at eD
      refine ⟨_, rfl, two_line (by show 2 ≤ 1000; decide), fun t ht => ?_⟩
      refine q _ t D ((s1.trans s2).new ht _) ((s1.trans s2).free ht) (s1.free hD) upd_same ?_
      rw [upd_ne (ne_of_none eD ht)]
      exact eD
  | some t =>
    obtain ⟨ht, htp⟩ := ho t rfl
    refine ⟨_, rfl, rfl, _, rfl, iteF ?_⟩
    refine ⟨_, rfl, _, _, _, _, true, rfl, .ty "int", (Fl.int t).ty, (Fl.int t).kI, true, rfl, iteF ?_⟩
    refine ⟨_, rfl, _, _, _, _, false, rfl, .ty "bool", (Fl.int t).ty, (Fl.int t).kB, false, rfl, iteF ?_⟩
    refine ⟨_, rfl, _, rfl, c, _, rfl, .inl (.of (s1 _ _ hc)), rfl, flat_ints _, false, ?_, iteF ?_⟩
    · show V.bl (!inV (.int t) _) = V.bl false
      rw [inV_ints, decide_eq_true ht]; rfl
    refine ⟨_, rfl, _, rfl, _, _, rfl, rfl, _, rfl, iteD (fun cc => absurd cc (by omega)) fun _ => ?_⟩
    refine ⟨_, rfl, rfl, _, rfl, iteD (fun cc => ?_) fun cc => ?_⟩
    · have c1 : left = 1 := by have := V.int.inj cc; omega
      refine ⟨_, rfl, two_line (by show 1 ≤ 1000; decide), fun D hD => ⟨two_line (by show 2 ≤ 1000; decide), fun u hu => ?_⟩⟩
      have e : nxt can left p (some t) = ([t], 0) := if_pos c1
      refine q _ u D ((s1.new hD _).new hu _) ((s1.new hD _).free hu) (s1.free hD) (by rw [upd_same, e]; rfl) ?_
      rw [upd_ne (ne_of_none upd_same hu), upd_same, e]
      rfl
    · have c1 : left ≠ 1 := fun z => cc (by rw [z]; rfl)
      have e : nxt can left p (some t) = (can.filter (fun w => decide (w ≤ t)), left - 1) := if_neg c1
      refine ⟨_, rfl, c, rfl, ⟨_, .of (s1 _ _ hc)⟩, fun D hD => ?_⟩
      refine lc_list (K := K) (a := c) (xs := can.map V.int) (fun i H' => H' D = some (.lst (((can.take i).filter (fun w => decide (w ≤ t))).map V.int)) ∧ Same (upd H r (.lst (cutV (can.map V.int) (some 1) none))) H') ⟨upd_same, same_new hD _⟩ (fun i H' _ ⟨_, s2⟩ => .of (s2 _ _ (s1 _ _ hc))) ?_ ?_
      · rintro i x H' hx ⟨eD, s2⟩
        obtain ⟨a, ha, rfl⟩ := take_ints hx
        refine ⟨rfl, _, rfl, _, rfl, _, _, rfl, rfl, _, rfl, iteD (fun cc => ?_) fun cc => ?_⟩
        · refine ⟨_, rfl, _, eD, filter_len hcl, ?_, s2.updL hD⟩
          rw [upd_same, filter_yes ha (decide_eq_true cc)]
        · exact ⟨by rw [filter_no ha (decide_eq_false cc)]; exact eD, s2⟩
      · rintro H' ⟨eD, s2⟩
        rw [List.length_map, List.take_length] at eD
        refine ⟨_, rfl, _, _, rfl, rfl, two_line (by show 2 ≤ 1000; decide), fun u hu => ?_⟩
        refine q _ u D ((s1.trans s2).new hu _) ((s1.trans s2).free hu) (s1.free hD) ?_ ?_
        · rw [upd_same, e]
          exact congrArg (fun z => some (HO.tup [V.ref D, V.int z])) (by omega)
        · rw [upd_ne (ne_of_none eD hu), e]
          exact eD
end
end K70

namespace K70
open PySem PySem.Spec PyProof.Rows L2
/-! ### defs with a star, own classes -/
theorem ps_dead {X : Cx} {st : Stmt} : PS X st (fun _ _ _ => False) := ⟨fun _ _ _ _ _ _ h => h.elim⟩
theorem passF {P : Program} {w : World} {X : Cx} : Passes (L2.CX P w) X (fun _ _ _ => False) := by
  rintro pins σ H s e s' I ⟨a, B, H', cls, d, ea, fl, hok, ub, na, os, ag, he⟩
  exact he.elim
theorem _root_.L2.Fun.okStar {P : Program} {w : World} {K : PySem.W.Frag} {mg : Str → Option Value} {base : Heap} {x qual : Str} {st : Stmt} {f : Addr} {fd : FuncData} {N ps : List Str} {pv : Str} {k : Nat} {sp : Sp} (F : Fun K x qual st f fd) (S : FnScope N (ps ++ [pv]) (defScope st))
    (hb : ∀ (kV doc pm : Value) (an : Option Addr) (cdv ct : Value) (us rest : List Value), us.length = ps.length → bindArgs (PySem.W.fnOf x qual (defArgs st) (defBody st) (defScope st) .none kV doc pm an cdv ct) ⟨us ++ rest, []⟩ = (newTuple rest >>= fun t => pure (ps.zip us ++ [(pv, t)])))
    (hbody : ∀ (cdv : Value) (A : Around) (outer : List Env) (s : Shared) (H : Hp) (vs : List V) (Q : VK) (E : XK), Room k (A.deeper (envOfC qual (defScope st) s.heap.objs.size f cdv)) → sp vs H Q E →
      ∃ t, PSs (cxOf (L2.CX P w) P w K mg base N qual (defScope st) f cdv A outer s H E) (defBody st) t ∧ t { nx := fun _ H' => Q .non H', rt := Q } (start N vs) H) :
    L2.FnR P w K mg base (L2.CX P w) (k + 1) f (fun vs H Q E => ∃ ws rest, vs = ws ++ rest ∧ ws.length = ps.length ∧ rest.length ≤ sizeLine ∧ ∀ p, H p = Option.none → sp (ws ++ [V.ref p]) (upd H p (.tup rest)) Q E) := by
  obtain ⟨oc, od, kV, doc, pm, an, cdv, ct, osl, rfl, lk, hcd⟩ := F.ex
  exact StX.fn_star lk hcd S StX.cxUp (fun us rest h => hb kV doc pm an cdv ct us rest h) fun A outer s H vs Q E hr hsp => hbody cdv A outer s H vs Q E hr hsp
/-- the class at C is the text's x; it makes instances by sp -/
def AvC (P : Program) (w : World) (K : PySem.W.Frag) (mg : Str → Option Value) (base : Heap) (k : Nat) (x : Str) (C : Addr) (sp : Sp) : Prop :=
  ∃ f, Mk K C f ∧ L2.FnR P w K mg base (L2.CX P w) k f sp ∧ mg x = some (.ref C)
section
variable {X : Cx} {k j : Nat} {C : Addr} {x : Str} {sp : Sp} {E : XK} {e : Expr} {es : List Expr} {te : TE} {t : TA} {p pos sp_ : Pos}
theorem AvC.make (A : AvC X.prog X.w X.K X.mg X.base k x C sp) (hr : Room j X.A) (hk : k + 1 ≤ j) (hx : Passes (L2.CX X.prog X.w) X E) (ha : PA X (e :: es) t) (hg : Gl X x := by rfl) (hd : (x == ("__debug__" : Str)) = false := by decide)
    (he : starEach (e :: es) X.env = (false, eval e X.env) :: starEach es X.env := by rfl) (hpl : (backTo pos (starEach es X.env)).any (·.1) = false := by rfl) : PE X (.Call (.Name x p) (e :: es) [] pos) (StX.tMakeR C sp E t) := by
  obtain ⟨f, M, F, m⟩ := A
  exact StX.pe_makeR M F (hr.mono hk) hg m hx ha hd he hpl
theorem AvC.makeS1 (A : AvC X.prog X.w X.K X.mg X.base k x C sp) (hr : Room j X.A) (hk : k + 1 ≤ j) (hx : Passes (L2.CX X.prog X.w) X E) (he : PE X e te) (hg : Gl X x := by rfl) (hd : (x == ("__debug__" : Str)) = false := by decide)
    (hst : starEach [.Starred e sp_] X.env = [(true, eval e X.env)] := by rfl) :
    PE X (.Call (.Name x p) [.Starred e sp_] [] pos) (fun σ H Q => te σ H fun y H1 => ∃ a vs, y = V.ref a ∧ (SqT X.K H1 a vs ∨ SqL X.K H1 a vs) ∧ ∀ o dx, H1 o = Option.none → H1 dx = Option.none → dx ≠ o →
      sp (V.ref o :: vs) (upd (upd H1 dx (.own o)) o (.ins C dx [])) (fun v H2 => v = .non ∧ Q (.ref o) H2) E) := by
  obtain ⟨f, M, F, m⟩ := A
  exact pe_makeS1 M F (hr.mono hk) hg m hx he hd hst
theorem AvC.makeS2 (A : AvC X.prog X.w X.K X.mg X.base k x C sp) (hr : Room j X.A) (hk : k + 1 ≤ j) (hx : Passes (L2.CX X.prog X.w) X E) (ha : PA X (e :: es) t) (hg : Gl X x := by rfl) (hd : (x == ("__debug__" : Str)) = false := by decide)
    (he : starEach (e :: es) X.env = (false, eval e X.env) :: starEach es X.env := by rfl) (hst : (backTo pos (starEach es X.env)).any (·.1) = true := by rfl) : PE X (.Call (.Name x p) (e :: es) [] pos) (StX.tMakeR C sp E t) := by
  obtain ⟨f, M, F, m⟩ := A
  exact pe_makeS2 M F (hr.mono hk) hg m hx ha hd he hst
theorem AvM.or_ {CX : CXT} {ps : List Str} (A : AvM X.prog X.w X.K X.mg X.base CX k C "__or__" ps sp) (hr : Room j X.A) (hk : k ≤ j) (c : PySem.W.selfFirst X.K C = true) (hx : Passes CX X E) :
    OpR X (binaryOp .BitOr) (fun x y H Q => ∃ a b dx dy fs gs, x = .ref a ∧ y = .ref b ∧ H a = some (.ins C dx fs) ∧ H b = some (.ins C dy gs) ∧ sp [.ref a, .ref b] H Q E) := by
  obtain ⟨f, fd, F, hm, b⟩ := A
  exact op_own c hm.at_ hm.fn F (hr.mono hk) b hx
end
structure OwnC (K : PySem.W.Frag) (C : Addr) : Prop where
  cl : Cls K C
  ha : PySem.W.findIn K (.ref C) "__class__" = some (some (.builtin "object.__class__"))
  hn : PySem.W.specialIn K (.builtin "object.__class__") "__get__" = some (some (.builtin "getset_descriptor.__get__"))
  htk : PySem.W.takesIn K (.builtin "object.__class__") = some true
  hm : PySem.W.mroIn K C (.type "object") = some true
theorem OwnC.ty {K : PySem.W.Frag} {H : Hp} {C a dx : Addr} {fs : List (Str × V)} (o : OwnC K C) (e : H a = some (.ins C dx fs)) : TyX K H (.ref a) (.ref C) := .base (.ins e o.cl o.ha o.hn o.htk o.hm)
theorem kit_self {K : PySem.W.Frag} {C : Addr} : PySem.W.kitOne K (.ref C) (.ref C) = some true := if_pos (beq_self_eq_true _)
/-! ### Widths -/
abbrev s_Widths_init : Stmt := inClass (topS 29) 0
theorem sc_Widths_init : FnScope ["self", "widths", "place", "width"] ["self", "widths"] (defScope s_Widths_init) := ⟨rfl, rfl, rfl, by decide +kernel, rfl, by decide +kernel, by decide +kernel⟩
abbrev s_Widths_or : Stmt := inClass (topS 29) 7
theorem sc_Widths_or : FnScope ["self", "other", "others", "widths", "width"] ["self", "other"] (defScope s_Widths_or) := ⟨rfl, rfl, rfl, by decide +kernel, rfl, by decide +kernel, by decide +kernel⟩
def okW (ns : List Int) : Prop := 1 ≤ ns.length ∧ ns.length ≤ 24 ∧ (∀ a ∈ ns, 1 ≤ a ∧ a ≤ 100000) ∧ ns.Pairwise (· < ·)
def WAt (C : Addr) (H : Hp) (a : Addr) (ns : List Int) : Prop := ∃ dx t, H a = some (.ins C dx [(("numbers" : Str), .ref t)]) ∧ H t = some (.tup (ns.map V.int))
theorem WAt.same {C : Addr} {H H' : Hp} {a : Addr} {ns : List Int} (h : WAt C H a ns) (s : Same H H') : WAt C H' a ns := by
  obtain ⟨dx, t, e1, e2⟩ := h
  exact ⟨dx, t, s _ _ e1, s _ _ e2⟩
theorem WAt.kp {C st : Addr} {H H' : Hp} {a : Addr} {ns : List Int} (h : WAt C H a ns) (hs : StAt H st) (s : Kp st H H') : WAt C H' a ns := by
  obtain ⟨dx, t, e1, e2⟩ := h
  exact ⟨dx, t, s _ _ (hs.ne_oth e1 fun _ z => nomatch z) e1, s _ _ (hs.ne_oth e2 fun _ z => nomatch z) e2⟩
def spWBody (C : Addr) : Sp := fun vs H Q _ => ∃ (o p dx : Addr) (ns : List Int), vs = [.ref o, .ref p] ∧ H o = some (.ins C dx []) ∧ H p = some (.tup (ns.map V.int)) ∧ okW ns ∧ ∀ H', Kp o H H' → H' o = some (.ins C dx [(("numbers" : Str), .ref p)]) → Q .non H'
def spWInit (C : Addr) : Sp := fun vs H Q _ => ∃ (o dx : Addr) (ns : List Int), vs = .ref o :: ns.map V.int ∧ H o = some (.ins C dx []) ∧ okW ns ∧ ∀ H', Kp o H H' → WAt C H' o ns → Q .non H'
theorem w_made {C : Addr} {H1 : Hp} {ns : List Int} {Q : VK} {E : XK} (hw : okW ns) (q : ∀ (H' : Hp) (o : Addr), Same H1 H' → H1 o = none → WAt C H' o ns → Q (.ref o) H') :
    ∀ x dx, H1 x = Option.none → H1 dx = Option.none → dx ≠ x → spWInit C (V.ref x :: ns.map V.int) (upd (upd H1 dx (.own x)) x (.ins C dx [])) (fun v H2 => v = .non ∧ Q (.ref x) H2) E := by
  intro x dx hx hdx hne
  refine ⟨x, dx, ns, rfl, upd_same, hw, fun H' kp wa => ⟨rfl, q H' x (fun b o hb => ?_) hx wa⟩⟩
  have n1 : b ≠ x := ne_of_none hb hx
  have n2 : b ≠ dx := ne_of_none hb hdx
  exact kp b o n1 (by rw [upd_ne n1, upd_ne n2]; exact hb)
/-- the sum of two: the numbers of the second are all greater -/
def spOr (C : Addr) : Sp := fun vs H Q _ => ∃ (a b : Addr) (ns ms : List Int), vs = [.ref a, .ref b] ∧ WAt C H a ns ∧ WAt C H b ms ∧ okW (ns ++ ms) ∧ ∀ (H' : Hp) (o : Addr), Same H H' → H o = none → WAt C H' o (ns ++ ms) → Q (.ref o) H'
section
variable {P : Program} {w : World} {K : PySem.W.Frag} {mg : Str → Option Value} {base : Heap} {f C CN : Addr} {fd : FuncData}
theorem ok_Widths_init {t1 t2 : Tok} (F : Fun K "__init__" "Widths.__init__" s_Widths_init f fd) (T : Bs mg) (cl : Cls K C) (na : NoAttr K C "numbers") (m_MOST_WIDTHS : mg "MOST_WIDTHS" = some (.int 24 t1)) (m_MOST_WIDTH : mg "MOST_WIDTH" = some (.int 100000 t2))
    (a_check_number : Av P w K mg base (L2.CX P w) 3 "check_number" ["what", "value", "low", "high"] (spChk CN)) : L2.FnR P w K mg base (L2.CX P w) 4 f (spWInit C) := by
  have R := F.okStar (P := P) (w := w) (mg := mg) (base := base) (k := 3) (ps := ["self"]) (pv := "widths") (sp := spWBody C) sc_Widths_init (fun kV doc pm an cdv ct => StX.bind_star1 (B := fun l => bindArgs (PySem.W.fnOf "__init__" "Widths.__init__" (defArgs s_Widths_init) (defBody s_Widths_init) (defScope s_Widths_init) .none kV doc pm an cdv ct) ⟨l, []⟩) (fun _ => rfl) fun _ _ _ => rfl) (fun cdv A outer s H vs Q E hr h => ?_)
  · intro A outer s H us vs Q E hr e0 r h
    obtain ⟨o, dx, ns, rfl, ho, hw, q⟩ := h
    refine R A outer s H us _ Q E hr e0 r ⟨[.ref o], ns.map V.int, rfl, rfl, two_line (by rw [List.length_map]; have := hw.2.1; omega), fun p hp => ⟨o, p, dx, ns, rfl, ?_, upd_same, hw, fun H' kp e => ?_⟩⟩
    · rw [upd_ne (ne_of_none ho hp)]; exact ho
    · have no : p ≠ o := (ne_of_none ho hp).symm
      exact q H' (fun b u n hb => kp b u n (by rw [upd_ne (ne_of_none hb hp)]; exact hb)) ⟨dx, p, e, kp p _ no upd_same⟩
  · obtain ⟨o, p, dx, ns, rfl, ho, hp, ⟨h1, h24, hb, hpw⟩, q⟩ := h
    refine ⟨_, (pss_cons (ps_expr (a_check_number.callS hr (by decide) (takes_of rfl rfl rfl rfl) (pa_cons pe_str (pa_cons (pe_callB call_len_seq (by rfl) T.len bo_len (pa_cons (pv 1) pa_nil)) (pa_cons pe_int (pa_cons (pe_glob (v := .int 24) rfl m_MOST_WIDTHS ⟨_, rfl⟩) pa_nil))))))
      (pss_cons (ps_for (passes_of rfl) rfl (pi_enumT (by rfl) T.enum (pa_cons (pv 1) pa_nil)) (pg_tup (by rfl) (pgs_cons (pg_name (i := 2) sc_Widths_init.nd rfl (.inl rfl)) (pgs_cons (pg_name (i := 3) sc_Widths_init.nd rfl (.inl rfl)) pgs_nil))) (pss_cons (ps_expr (a_check_number.callS hr (by decide) (takes_of rfl rfl rfl rfl) (pa_cons pe_str (pa_cons (pv 3) (pa_cons pe_int (pa_cons (pe_glob (v := .int 100000) rfl m_MOST_WIDTH ⟨_, rfl⟩) pa_nil))))))
      (pss_one (ps_if (PW.pt (pw_and (pt_cmpR op_gt (pv 2) pe_int (nomark _)) (pw_and1 (pt_cmpR op_le (pv 3) (pe_ix ix_tup (pv 1) (pe_op op_sub (pv 2) pe_int) (fun _ _ => rfl)) (nomark _))))) (pss_one ps_dead) pss_nil))))
      (pss_one (ps_fld (pv 0) (pe_callTy call_tuple_of (by rfl) T.tup bo_tup (pa_cons (pv 1) pa_nil)) rfl)))), ?_⟩
    refine ⟨_, rfl, p, _, rfl, .inr (.of hp), ("widths" : Str), .int ns.length, 1, some 24, ?_, fun _ => ?_, fun ir => ?_⟩
    · rw [List.length_map]; rfl
    · refine ⟨_, rfl, p, _, rfl, .of hp, ?_⟩
      refine for_it walk_enumT (fun j σ H3 => (∃ o2 o3, σ = [some (.ref o), some (.ref p), o2, o3]) ∧ Same H H3) ⟨⟨none, none, rfl⟩, Same.refl H⟩ (fun j σ H3 _ ⟨_, s3⟩ => .of (s3 _ _ hp)) ?_ ?_
      · rintro j y σ H3 H4 hj ⟨⟨o2, o3, rfl⟩, s3⟩ ⟨t, a, b, rfl, ht, rfl, ha, hbb⟩
        cases ha
        obtain ⟨x, hx, rfl⟩ := take_ints hbb
        have s4 := s3.new ht (.tup [.int (j : Nat), .int x])
        refine ⟨t, _, rfl, .of upd_same, rfl, _, _, rfl, _, _, rfl, rfl, ?_⟩
        have xb := hb x (List.mem_of_getElem? hx)
        refine ⟨_, rfl, ("width" : Str), .int x, 1, some 100000, rfl, fun _ => ?_, fun ir => ?_⟩
        · refine ⟨_, rfl, _, _, rfl, rfl, _, rfl, iteD (fun c => ?_) fun c => ⟨⟨_, _, rfl⟩, s4⟩⟩
          have hj0 : j - 1 + 1 = j := by omega
          have hj1 : j - 1 < ns.length := by have := (List.getElem?_eq_some_iff.mp hx).1; omega
          have hy : ns[j - 1]? = some ns[j - 1] := List.getElem?_eq_getElem hj1
          have lt : ns[j - 1] < x := by
            obtain ⟨hjl, ex⟩ := List.getElem?_eq_some_iff.mp hx
            rw [← ex]
            exact List.pairwise_iff_getElem.mp hpw (j - 1) j hj1 hjl (by omega)
          refine ⟨_, rfl, _, rfl, _, rfl, _, _, rfl, rfl, p, _, (j : Int) - 1, .int ns[j - 1], rfl, rfl, .of (s4 _ _ hp), ?_, _, _, rfl, rfl, _, rfl, iteD (fun c2 => absurd c2 (by omega)) fun c2 => ⟨⟨_, _, rfl⟩, s4⟩⟩
          rw [show (j : Int) - 1 = ((j - 1 : Nat) : Int) by omega]
          refine atI_nat ?_
          rw [List.getElem?_map, hy]
          rfl
        · exfalso
          unfold inRange inHi at ir
          simp [isNum] at ir
          omega
      · rintro σ H3 ⟨⟨o2, o3, rfl⟩, s3⟩
        refine ⟨_, rfl, p, _, rfl, .inr ⟨.of (s3 _ _ hp), _, rfl, o, C, dx, [], rfl, s3 _ _ ho, cl, na, by decide, ?_⟩⟩
        refine q _ (fun b u n hb => ?_) upd_same
        rw [upd_ne n]
        exact s3 _ _ hb
    · exfalso
      unfold inRange inHi at ir
      simp [isNum] at ir
      omega
end
end K70

namespace K70
open PySem PySem.Spec PyProof.Rows L2
section
variable {X : Cx} {e : Expr} {ta : TE} {f : Str} {pos : Pos}
theorem pe_fldK {K : PySem.W.Frag} (he : PE X e ta) (hb : attributeBase e f X.env (eval e X.env) = eval e X.env) (hK : X.K = K := by rfl) : PE X (.Attribute e f pos) (tFld K ta f) := hK ▸ pe_fld he hb
theorem op_notIn_seqK {K : PySem.W.Frag} (hK : X.K = K := by rfl) : OpR X (compareOp .NotIn) (rIn K true) := hK ▸ op_notIn_seq
theorem op_in_seqK {K : PySem.W.Frag} (hK : X.K = K := by rfl) : OpR X (compareOp .In) (rIn K false) := hK ▸ op_in_seq
end
theorem sorted_eq {a b : List Int} (h : a.Perm b) (ha : a.Pairwise (· ≤ ·)) (hb : b.Pairwise (· < ·)) : a = b :=
  h.eq_of_pairwise (fun x y _ _ h1 h2 => Int.le_antisymm h1 h2) ha (hb.imp fun h => Int.le_of_lt h)
section
variable {P : Program} {w : World} {K : PySem.W.Frag} {mg : Str → Option Value} {base : Heap} {f C CN : Addr} {fd : FuncData}
theorem ok_Widths_or (F : Fun K "__or__" "Widths.__or__" s_Widths_or f fd) (T : Bs mg) (ow : OwnC K C) (na : NoAttr K C "numbers") (m_Widths : mg "Widths" = some (.ref C)) (c_Widths : AvC P w K mg base 4 "Widths" C (spWInit C)) : FnOk P w K mg base CX0 6 f fd ["self", "other"] (spOr C) := by
  refine F.ok sc_Widths_or (fun vs H Q E h => ?_) (fun cdv A outer s H vs Q E hr h => ?_)
  · obtain ⟨a, b, ns, ms, rfl, _⟩ := h
    rfl
  obtain ⟨a, b, ns, ms, rfl, ⟨dx, ta, ea, eta⟩, ⟨dy, tb, eb, etb⟩, hw, q⟩ := h
  have cl := ow.cl
  refine ⟨_, (pss_cons (ps_if (pt_not (pt_val (pe_callB call_isi (by rfl) T.isi bo_isi (pa_cons (pv 1) (pa_cons (pe_glob (v := .ref C) rfl m_Widths rfl) pa_nil))))) (pss_one ps_dead) pss_nil)
      (pss_cons (ps_setLc (i := 2) (own := [("width", 4)]) rfl sc_Widths_or.nd rfl rfl (sw_true rfl rfl rfl (by decide +kernel)) (pi_tup (pe_fld (pv 1) (by rfl))) (blkOk_by (N := ["self", "other", "others", "widths", "width"]) (sc := defScope s_Widths_or) (by decide +kernel)) (fun _ _ _ _ _ => (pg_name (i := 4) sc_Widths_or.nd rfl (.inl rfl))) (fun _ _ _ _ _ => (pts_one (pt_cmpR (op_notIn_seqK (K := K)) (pv 4) (pe_fldK (K := K) (pv 0) (by rfl)) (by rfl)))) (fun _ _ _ _ _ => (pv 4)))
      (pss_cons (ps_set (i := 3) sc_Widths_or.nd rfl (.inl rfl) (pe_callB cr_sorted (by rfl) T.srt bo_srt (pa_cons (pe_lc (own := [("width", 4)]) rfl sc_Widths_or.nd (pi_list (pe_op op_cat (pe_callTy call_list_of (by rfl) T.lst bo_lst (pa_cons (pe_fld (pv 0) (by rfl)) pa_nil)) (pv 2))) (blkOk_by (N := ["self", "other", "others", "widths", "width"]) (sc := defScope s_Widths_or) (by decide +kernel)) (fun _ _ _ _ _ => (pg_name (i := 4) sc_Widths_or.nd rfl (.inl rfl))) (fun _ _ _ _ _ => pts_nil) (fun _ _ _ _ _ => (pe_callTy call_int1 (by rfl) T.int bo_int (pa_cons (pv 4) pa_nil)))) pa_nil)))
      (pss_one (ps_ret (c_Widths.makeS1 hr (by decide) passF (pv 3))))))), ?_⟩
  refine ⟨_, rfl, _, _, _, _, true, rfl, .own C, ow.ty eb, kit_self, true, rfl, iteF ?_⟩
  have h24 : ns.length + ms.length ≤ 24 := by have := hw.2.1; rw [List.length_append] at this; exact this
  have pw := List.pairwise_append.mp hw.2.2.2
  have notin : ∀ x ∈ ms, decide (x ∈ ns) = false := fun x hx => decide_eq_false fun z => absurd (pw.2.2 x z x hx) (Int.lt_irrefl _)
  refine ⟨_, rfl, b, C, dy, _, _, rfl, eb, cl, na, rfl, tb, rfl, ⟨_, .of etb⟩, fun D hD => ?_⟩
  refine lc_it walk_tup (fun i H' => H' D = some (.lst ((ms.take i).map V.int)) ∧ Same H H') ⟨upd_same, same_new hD _⟩ (fun i H' _ ⟨_, s2⟩ => .of (s2 _ _ etb)) ?_ ?_
  · rintro i x H' H'' hi ⟨eD, s2⟩ ⟨rfl, hx⟩
    obtain ⟨v, hv, rfl⟩ := take_ints hx
    refine ⟨rfl, _, rfl, _, rfl, a, C, dx, _, _, rfl, s2 _ _ ea, cl, na, rfl, ta, _, rfl, .inr (.of (s2 _ _ eta)), rfl, flat_ints _, true, ?_, iteT ?_⟩
    · rw [inV_ints, notin v (List.mem_of_getElem? hv)]; rfl
    · refine ⟨_, rfl, _, eD, small1000 (by rw [List.length_map]; have := List.length_take_le' i ms; omega), ?_, s2.updL hD⟩
      rw [upd_same, take_snoc hv, List.map_append]
      rfl
  rintro H1 ⟨eD, s1⟩
  rw [List.length_map, List.take_length] at eD
  refine ⟨_, rfl, a, C, dx, _, _, rfl, s1 _ _ ea, cl, na, rfl, ta, _, rfl, .inr (.of (s1 _ _ eta)), fun r hr' => ?_⟩
  have eD2 : (upd H1 r (.lst (ns.map V.int))) D = some (.lst (ms.map V.int)) := by rw [upd_ne (ne_of_none eD hr')]; exact eD
  refine ⟨_, rfl, r, D, _, _, rfl, rfl, upd_same, eD2, two_line (by rw [List.length_map, List.length_map]; omega), fun e he => ?_⟩
  rw [← List.map_append]
  refine ⟨e, rfl, ⟨_, .of upd_same⟩, fun G hG => ?_⟩
  have s2 := (s1.new hr' (.lst (ns.map V.int))).new he (.lst ((ns ++ ms).map V.int))
  refine lc_it walk_list (fun i H' => H' G = some (.lst (((ns ++ ms).take i).map V.int)) ∧ Same (upd (upd H1 r (.lst (ns.map V.int))) e (.lst ((ns ++ ms).map V.int))) H') ⟨upd_same, same_new hG _⟩ (fun i H' _ ⟨_, s3⟩ => .of (s3 _ _ upd_same)) ?_ ?_
  · rintro i x H' H'' hi ⟨eG, s3⟩ ⟨rfl, hx⟩
    obtain ⟨v, hv, rfl⟩ := take_ints hx
    refine ⟨rfl, _, rfl, .inl ⟨_, rfl, _, eG, small1000 (by rw [List.length_map]; have := List.length_take_le' i (ns ++ ms); rw [List.length_append] at this; omega), ?_, s3.updL hG⟩⟩
    rw [upd_same, take_snoc hv, List.map_append]
    rfl
  rintro H2 ⟨eG, s3⟩
  rw [List.length_map, List.take_length] at eG
  refine ⟨G, ns ++ ms, rfl, .of eG, by rw [List.length_append]; omega, fun ns' p hp hs hpn => ?_⟩
  have e1 := sorted_eq hp hs hw.2.2.2
  subst e1
  have s4 := (s2.trans s3).new hpn (.lst ((ns ++ ms).map V.int))
  refine ⟨_, rfl, p, _, rfl, .inr (.of upd_same), w_made hw fun H' o s5 ho wa => ?_⟩
  exact q H' o (s4.trans s5) (s4.free ho) wa
end
end K70

namespace K70
open PySem PySem.Spec PyProof.Rows L2
theorem pg_tupK {X : Cx} {pos : Pos} {K : PySem.W.Frag} {es : List Expr} {k : Nat} {t : TGs} {n : Nat} (h : PGs X es t) (hc : X.calm = true := by rfl) (hK : X.K = K := by rfl)
    (hn : (assignEach es X.env).length = n := by rfl) (hst : (assignEach es X.env).findIdx? (·.1) = none := by rfl) : PG X (.Tuple es k pos) (gTup K n t) := hK ▸ pg_tup hc h hn hst
/-! ### the pairs that were told -/
def runPs (c : List Int × Nat) (ps : List (Int × Option Int)) : List Int × Nat := ps.foldl (fun c q => nxt c.1 c.2 q.1 q.2) c
theorem runPs_snoc (c : List Int × Nat) (ps : List (Int × Option Int)) (q : Int × Option Int) : runPs c (ps ++ [q]) = nxt (runPs c ps).1 (runPs c ps).2 q.1 q.2 := by
  unfold runPs
  rw [List.foldl_append]
  rfl
def okPs (c : List Int × Nat) (ps : List (Int × Option Int)) : Prop := ∀ (i : Nat) q, ps[i]? = some q → okP (runPs c (ps.take i)).1 q.1 q.2 ∧ 1 ≤ (runPs c (ps.take i)).2
theorem okPs_nil (c : List Int × Nat) : okPs c [] := fun i q h => by simp at h
theorem okPs_snoc {c : List Int × Nat} {ps : List (Int × Option Int)} {q : Int × Option Int} (h : okPs c ps) (hq : okP (runPs c ps).1 q.1 q.2) (hl : 1 ≤ (runPs c ps).2) : okPs c (ps ++ [q]) := fun i r hr => by
  by_cases hi : i < ps.length
  · rw [List.getElem?_append_left hi] at hr
    rw [List.take_append_of_le_length (Nat.le_of_lt hi)]
    exact h i r hr
  · have hlt := (List.getElem?_eq_some_iff.mp hr).1
    rw [List.length_append] at hlt
    have e : i = ps.length := by
      have : ([q] : List (Int × Option Int)).length = 1 := rfl
      omega
    subst e
    rw [List.getElem?_append_right (Nat.le_refl _), Nat.sub_self] at hr
    cases hr
    rw [List.take_append_of_le_length (Nat.le_refl _), List.take_length]
    exact ⟨hq, hl⟩
def can0 (ns : List Int) (h : Nat) : List Int × Nat := if h = 0 then ([ns.getLastD 0], 0) else (ns, h)
theorem nxt_len {can : List Int} {left m : Nat} {p : Int} {o : Option Int} (h : can.length ≤ m) (h1 : 1 ≤ m) : (nxt can left p o).1.length ≤ m := by
  cases o with
  | none =>
    have := List.length_filter_le (fun w => decide (p ≤ w)) can
    show (can.filter _).length ≤ m
    omega
  | some t =>
    by_cases e : left = 1
    · rw [show nxt can left p (some t) = ([t], 0) from if_pos e]; exact h1
    · rw [show nxt can left p (some t) = (can.filter (fun w => decide (w ≤ t)), left - 1) from if_neg e]
      have := List.length_filter_le (fun w => decide (w ≤ t)) can
      show (can.filter _).length ≤ m
      omega
theorem nxt_left {can : List Int} {left : Nat} {p : Int} {o : Option Int} : (nxt can left p o).2 ≤ left := by
  cases o with
  | none => exact Nat.le_refl _
  | some t =>
    by_cases e : left = 1
    · rw [show nxt can left p (some t) = ([t], 0) from if_pos e]; exact Nat.zero_le _
    · rw [show nxt can left p (some t) = (can.filter (fun w => decide (w ≤ t)), left - 1) from if_neg e]; exact Nat.sub_le _ _
theorem runPs_len {c : List Int × Nat} {m : Nat} (h : c.1.length ≤ m) (h1 : 1 ≤ m) : ∀ ps : List (Int × Option Int), (runPs c ps).1.length ≤ m := by
  intro ps
  unfold runPs
  induction ps generalizing c with
  | nil => exact h
  | cons q r ih => exact ih (nxt_len h h1)
theorem can0_len {ns : List Int} {h : Nat} (hw : okW ns) : (can0 ns h).1.length ≤ 24 := by
  unfold can0
  split
  · show 1 ≤ 24; omega
  · exact hw.2.1
/-! ### as values -/
def PqV (H : Hp) (v : V) (q : Int × Option Int) : Prop := ∃ t, v = .ref t ∧ H t = some (.tup [.int q.1, hiV q.2])
def PqIt (H : Hp) (vs : List V) (qs : List (Int × Option Int)) : Prop := vs.length = qs.length ∧ ∀ (i : Nat) v q, vs[i]? = some v → qs[i]? = some q → PqV H v q
theorem PqIt.keep {H H' : Hp} {vs : List V} {qs : List (Int × Option Int)} (h : PqIt H vs qs) (k : ∀ b xs, H b = some (.tup xs) → H' b = some (.tup xs)) : PqIt H' vs qs := ⟨h.1, fun i v q a b => by
  obtain ⟨t, e, z⟩ := h.2 i v q a b
  exact ⟨t, e, k _ _ z⟩⟩
theorem PqIt.same {H H' : Hp} {vs : List V} {qs : List (Int × Option Int)} (h : PqIt H vs qs) (s : Same H H') : PqIt H' vs qs := h.keep fun b xs e => s _ _ e
theorem PqIt.nil {H : Hp} : PqIt H [] [] := ⟨rfl, fun i v c a => by simp at a⟩
theorem PqIt.snoc {H : Hp} {vs : List V} {ps : List (Int × Option Int)} {v : V} {p : Int × Option Int} (h : PqIt H vs ps) (hv : PqV H v p) : PqIt H (vs ++ [v]) (ps ++ [p]) := by
  refine ⟨by rw [List.length_append, List.length_append, h.1]; rfl, fun i u d a b => ?_⟩
  by_cases hi : i < vs.length
  · rw [List.getElem?_append_left hi] at a
    rw [List.getElem?_append_left (by rw [← h.1]; exact hi)] at b
    exact h.2 i u d a b
  · rw [List.getElem?_append_right (Nat.le_of_not_lt hi)] at a
    rw [List.getElem?_append_right (by rw [← h.1]; exact Nat.le_of_not_lt hi), ← h.1] at b
    have e : i - vs.length = 0 := by
      obtain ⟨z, _⟩ := List.getElem?_eq_some_iff.mp a
      simpa using z
    rw [e] at a b
    cases (show some v = some u from a)
    cases (show some p = some d from b)
    exact hv
theorem PqIt.get {H : Hp} {vs : List V} {qs : List (Int × Option Int)} (h : PqIt H vs qs) {i : Nat} {v : V} (a : vs[i]? = some v) : ∃ q, qs[i]? = some q ∧ PqV H v q := by
  obtain ⟨z, _⟩ := List.getElem?_eq_some_iff.mp a
  have b : qs[i]? = some (qs[i]'(by rw [← h.1]; exact z)) := List.getElem?_eq_getElem _
  exact ⟨_, b, h.2 i v _ a b⟩
def logFs (w tp tc : Addr) (h : Nat) (l : Nat) : List (Str × V) := [(("widths" : Str), .ref w), (("houses" : Str), .int (h : Nat)), (("pairs" : Str), .ref tp), (("can" : Str), .ref tc), (("left_over" : Str), .int (l : Nat))]
def LogF (C CW : Addr) (H : Hp) (g : Addr) (ns : List Int) (h : Nat) (qs : List (Int × Option Int)) : Prop := ∃ dx w tp tc pv, H g = some (.ins C dx (logFs w tp tc h (runPs (can0 ns h) qs).2)) ∧ WAt CW H w ns ∧ H tp = some (.tup pv) ∧ PqIt H pv qs ∧
  H tc = some (.tup ((runPs (can0 ns h) qs).1.map V.int))
theorem LogF.same {C CW : Addr} {H H' : Hp} {g : Addr} {ns : List Int} {h : Nat} {qs : List (Int × Option Int)} (a : LogF C CW H g ns h qs) (s : Same H H') : LogF C CW H' g ns h qs := by
  obtain ⟨dx, w, tp, tc, pv, e1, e2, e3, e4, e5⟩ := a
  exact ⟨dx, w, tp, tc, pv, s _ _ e1, e2.same s, s _ _ e3, e4.same s, s _ _ e5⟩
theorem LogF.at_ {C CW : Addr} {H : Hp} {g : Addr} {ns : List Int} {h : Nat} {qs : List (Int × Option Int)} (a : LogF C CW H g ns h qs) : LogAt C H g (runPs (can0 ns h) qs).1.length (runPs (can0 ns h) qs).2 := by
  obtain ⟨dx, w, tp, tc, pv, e1, e2, e3, e4, e5⟩ := a
  exact ⟨dx, _, tc, _, e1, rfl, e5, by rw [List.length_map], rfl, rfl, rfl⟩
abbrev s_HouseLog_init : Stmt := inClass (topS 13) 0
theorem sc_HouseLog_init : FnScope ["self", "widths", "houses", "pairs", "can", "left", "place", "probe", "told", "found"] ["self", "widths", "houses", "pairs"] (defScope s_HouseLog_init) := ⟨rfl, rfl, rfl, by decide +kernel, rfl, by decide +kernel, by decide +kernel⟩
abbrev s_HouseLog_told : Stmt := inClass (topS 13) 5
theorem sc_HouseLog_told : FnScope ["self", "probe", "answer", "pairs"] ["self", "probe", "answer"] (defScope s_HouseLog_told) := ⟨rfl, rfl, rfl, by decide +kernel, rfl, by decide +kernel, by decide +kernel⟩
def spHBody (C CW : Addr) : Sp := fun vs H Q _ => ∃ (o w pt dx : Addr) (ns : List Int) (h : Nat) (qs : List (Int × Option Int)) (pv : List V), vs = [.ref o, .ref w, .int (h : Nat), .ref pt] ∧ H o = some (.ins C dx []) ∧ WAt CW H w ns ∧ okW ns ∧ h ≤ 8 ∧
  H pt = some (.tup pv) ∧ PqIt H pv qs ∧ okPs (can0 ns h) qs ∧ qs.length ≤ 100 ∧ ∀ H', Kp o H H' → LogF C CW H' o ns h qs → Q .non H'
def spHInit (C CW : Addr) : Sp := fun vs H Q _ => ∃ (o w dx : Addr) (ns : List Int) (h : Nat) (qs : List (Int × Option Int)) (pv : List V), vs = .ref o :: .ref w :: .int (h : Nat) :: pv ∧ H o = some (.ins C dx []) ∧ WAt CW H w ns ∧ okW ns ∧ h ≤ 8 ∧
  PqIt H pv qs ∧ okPs (can0 ns h) qs ∧ qs.length ≤ 100 ∧ ∀ H', Kp o H H' → LogF C CW H' o ns h qs → Q .non H'
theorem h_made {C CW w : Addr} {H1 : Hp} {ns : List Int} {h : Nat} {qs : List (Int × Option Int)} {pv : List V} {Q : VK} {E : XK} (hw : okW ns) (hh : h ≤ 8) (wa : WAt CW H1 w ns) (pq : PqIt H1 pv qs) (ok : okPs (can0 ns h) qs) (hl : qs.length ≤ 100)
    (q : ∀ (H' : Hp) (o : Addr), Same H1 H' → H1 o = none → LogF C CW H' o ns h qs → Q (.ref o) H') :
    ∀ x dx, H1 x = Option.none → H1 dx = Option.none → dx ≠ x → spHInit C CW (V.ref x :: .ref w :: .int (h : Nat) :: pv) (upd (upd H1 dx (.own x)) x (.ins C dx [])) (fun v H2 => v = .non ∧ Q (.ref x) H2) E := by
  intro x dx hx hdx hne
  have hx2 : (upd H1 dx (.own x)) x = none := by rw [upd_ne (Ne.symm hne)]; exact hx
  have s2 : Same H1 (upd (upd H1 dx (.own x)) x (.ins C dx [])) := (same_new hdx _).new hx2 _
  refine ⟨x, w, dx, ns, h, qs, pv, rfl, upd_same, wa.same s2, hw, hh, pq.same s2, ok, hl, fun H' kp la => ⟨rfl, q H' x (fun b o hb => ?_) hx la⟩⟩
  have n1 : b ≠ x := ne_of_none hb hx
  exact kp b o n1 (s2 _ _ hb)
def spToldM (C CW : Addr) : Sp := fun vs H Q _ => ∃ (g : Addr) (p : Int) (o : Option Int) (ns : List Int) (h : Nat) (qs : List (Int × Option Int)), vs = [.ref g, .int p, hiV o] ∧ LogF C CW H g ns h qs ∧ okW ns ∧ h ≤ 8 ∧ okPs (can0 ns h) (qs ++ [(p, o)]) ∧ qs.length ≤ 90 ∧
  ∀ (H' : Hp) (g' : Addr), Same H H' → H g' = none → LogF C CW H' g' ns h (qs ++ [(p, o)]) → Q (.ref g') H'
theorem atI_last {xs : List Int} (h : 1 ≤ xs.length) : atI (xs.map V.int) (-1) = some (.int (xs.getLastD 0)) := by
  have e : ixN (xs.map V.int).length (-1) = some (xs.length - 1) := by
    unfold ixN
    rw [List.length_map, if_neg (by omega), if_pos (by omega)]
    exact congrArg some (by omega)
  unfold atI
  rw [e]
  show (xs.map V.int)[xs.length - 1]? = _
  rw [List.getElem?_map, List.getElem?_eq_getElem (by omega)]
  show some (V.int _) = _
  rw [List.getLastD_eq_getLast?, List.getLast?_eq_getElem?, List.getElem?_eq_getElem (by omega)]
  rfl
section
variable {P : Program} {w : World} {K : PySem.W.Frag} {mg : Str → Option Value} {base : Heap} {f C CW CN : Addr} {fd : FuncData}
theorem ok_HouseLog_init {t1 : Tok} (F : Fun K "__init__" "HouseLog.__init__" s_HouseLog_init f fd) (T : Bs mg) (cl : Cls K C) (clw : Cls K CW) (nan : NoAttr K CW "numbers") (na1 : NoAttr K C "widths") (na2 : NoAttr K C "houses") (na3 : NoAttr K C "pairs") (na4 : NoAttr K C "can") (na5 : NoAttr K C "left_over")
    (m_MOST_HOUSES : mg "MOST_HOUSES" = some (.int 8 t1)) (a_check_number : Av P w K mg base (L2.CX P w) 3 "check_number" ["what", "value", "low", "high"] (spChk CN)) (a_after_told : Av P w K mg base CX0 2 "after_told" ["can", "left", "probe", "told"] spAfter) :
    L2.FnR P w K mg base (L2.CX P w) 4 f (spHInit C CW) := by
  have R := F.okStar (P := P) (w := w) (mg := mg) (base := base) (k := 3) (ps := ["self", "widths", "houses"]) (pv := "pairs") (sp := spHBody C CW) sc_HouseLog_init
    (fun kV doc pm an cdv ct => bind_star3 (B := fun l => bindArgs (PySem.W.fnOf "__init__" "HouseLog.__init__" (defArgs s_HouseLog_init) (defBody s_HouseLog_init) (defScope s_HouseLog_init) .none kV doc pm an cdv ct) ⟨l, []⟩) (fun _ _ _ => rfl) fun _ _ _ _ _ => rfl) (fun cdv A outer s H vs Q E hr h => ?_)
  · intro A outer s H us vs Q E hr e0 r hh
    obtain ⟨o, w, dx, ns, h, qs, pvs, rfl, ho, wa, hw, h8, pq, ok, hl, q⟩ := hh
    refine R A outer s H us _ Q E hr e0 r ⟨[.ref o, .ref w, .int (h : Nat)], pvs, rfl, rfl, two_line (by rw [pq.1]; omega), fun p hp => ⟨o, w, p, dx, ns, h, qs, pvs, rfl, ?_, wa.same (same_new hp _), hw, h8, upd_same, pq.same (same_new hp _), ok, hl, fun H' kp e => ?_⟩⟩
    · rw [upd_ne (ne_of_none ho hp)]; exact ho
    · exact q H' (fun b u n hb => kp b u n (by rw [upd_ne (ne_of_none hb hp)]; exact hb)) e
  · obtain ⟨o, w, pt, dx, ns, h, qs, pvs, rfl, ho, ⟨dw, tw, ew, etw⟩, hw, h8, hpt, pq, ok, hl, q⟩ := h
    refine ⟨_, (pss_cons (ps_expr (a_check_number.callS hr (by decide) (takes_of rfl rfl rfl rfl) (pa_cons pe_str (pa_cons (pv 2) (pa_cons pe_int (pa_cons (pe_glob (v := .int 8) rfl m_MOST_HOUSES ⟨_, rfl⟩) pa_nil))))))
      (pss_cons (ps_set (i := 4) sc_HouseLog_init.nd rfl (.inl rfl) (pe_ifExp (pt_cmpR op_gt (pv 2) pe_int (nomark _)) (pe_callTy call_list_of (by rfl) T.lst bo_lst (pa_cons (pe_fld (pv 1) (by rfl)) pa_nil)) (pe_lst (pa_cons (pe_ix ix_tup (pe_fld (pv 1) (by rfl)) (pe_un un_neg pe_int) (fun _ _ => rfl)) pa_nil))))
      (pss_cons (ps_set (i := 5) sc_HouseLog_init.nd rfl (.inl rfl) (pv 2))
      (pss_cons (ps_for (passes_of rfl) rfl (pi_enumT (by rfl) T.enum (pa_cons (pv 3) pa_nil)) (pg_tup (by rfl) (pgs_cons (pg_name (i := 6) sc_HouseLog_init.nd rfl (.inl rfl)) (pgs_cons (pg_tup (by rfl) (pgs_cons (pg_name (i := 7) sc_HouseLog_init.nd rfl (.inl rfl)) (pgs_cons (pg_name (i := 8) sc_HouseLog_init.nd rfl (.inl rfl)) pgs_nil))) pgs_nil))) (pss_cons (ps_set (i := 9) sc_HouseLog_init.nd rfl (.inl rfl) (a_after_told.call hr (by decide) pass0 (pa_cons (pv 4) (pa_cons (pv 5) (pa_cons (pv 7) (pa_cons (pv 8) pa_nil))))))
      (pss_cons (ps_if (pt_cmpR op_isN (pv 9) pe_non (nomark _)) (pss_one ps_dead) pss_nil)
      (pss_one (ps_asg (pv 9) (pg_tup (by rfl) (pgs_cons (pg_name (i := 4) sc_HouseLog_init.nd rfl (.inl rfl)) (pgs_cons (pg_name (i := 5) sc_HouseLog_init.nd rfl (.inl rfl)) pgs_nil))))))))
      (pss_cons (ps_fld (pv 0) (pv 1) rfl)
      (pss_cons (ps_fld (pv 0) (pv 2) rfl)
      (pss_cons (ps_fld (pv 0) (pe_callTy call_tuple_of (by rfl) T.tup bo_tup (pa_cons (pe_lc (own := [("probe", 7), ("told", 8)]) rfl sc_HouseLog_init.nd (pi_tup (pv 3)) (blkOk_by (N := ["self", "widths", "houses", "pairs", "can", "left", "place", "probe", "told", "found"]) (sc := defScope s_HouseLog_init) (by decide +kernel)) (fun _ _ _ _ _ => (pg_tupK (K := K) (n := 2) (pgs_cons (pg_name (i := 7) sc_HouseLog_init.nd rfl (.inl rfl)) (pgs_cons (pg_name (i := 8) sc_HouseLog_init.nd rfl (.inl rfl)) pgs_nil)))) (fun _ _ _ _ _ => pts_nil) (fun _ _ _ _ _ => (pe_tup (pa_cons (pv 7) (pa_cons (pv 8) pa_nil))))) pa_nil)) rfl)
      (pss_cons (ps_fld (pv 0) (pe_callTy call_tuple_of (by rfl) T.tup bo_tup (pa_cons (pv 4) pa_nil)) rfl)
      (pss_one (ps_fld (pv 0) (pv 5) rfl)))))))))), ?_⟩
    refine ⟨_, rfl, ("houses" : Str), .int (h : Nat), 0, some 8, rfl, fun _ => ?_, fun ir => ?_⟩
    · by_cases h0 : h = 0
      case' pos =>
        have c0 : can0 ns h = ([ns.getLastD 0], 0) := if_pos h0
        refine ⟨_, rfl, _, _, rfl, rfl, _, rfl, iteD (fun c => absurd c (by omega)) fun _ => ?_⟩
        refine ⟨_, rfl, w, CW, dw, _, _, rfl, ew, clw, nan, rfl, 1, rfl, tw, _, -1, .int (ns.getLastD 0), rfl, rfl, .of etw, atI_last hw.1, two_line (by show 1 ≤ 1000; decide), fun c hc => ?_⟩
        have s1 := same_new hc (.lst [.int (ns.getLastD 0)])
        have ec : (upd H c (.lst [.int (ns.getLastD 0)])) c = some (.lst ((can0 ns h).1.map V.int)) := by rw [upd_same, c0]; rfl
        have e2 : (can0 ns h).2 = h := by rw [c0, h0]
        generalize upd H c (.lst [.int (ns.getLastD 0)]) = H1 at s1 ec ⊢
      case' neg =>
        have c0 : can0 ns h = (ns, h) := if_neg h0
        refine ⟨_, rfl, _, _, rfl, rfl, _, rfl, iteD (fun _ => ?_) fun c => absurd c (by omega)⟩
        refine ⟨_, rfl, w, CW, dw, _, _, rfl, ew, clw, nan, rfl, tw, _, rfl, .inr (.of etw), fun c hc => ?_⟩
        have s1 := same_new hc (.lst (ns.map V.int))
        have ec : (upd H c (.lst (ns.map V.int))) c = some (.lst ((can0 ns h).1.map V.int)) := by rw [upd_same, c0]
        have e2 : (can0 ns h).2 = h := by rw [c0]
        generalize upd H c (.lst (ns.map V.int)) = H1 at s1 ec ⊢
      all_goals
        refine ⟨_, rfl, _, rfl, pt, _, rfl, .of (s1 _ _ hpt), ?_⟩
        refine for_it walk_enumT (fun j σ H3 => ∃ (c : Addr) (o6 o7 o8 o9 : Option V), σ = [some (.ref o), some (.ref w), some (.int (h : Nat)), some (.ref pt), some (.ref c), some (.int (runPs (can0 ns h) (qs.take j)).2), o6, o7, o8, o9] ∧ Same H H3 ∧
          H3 c = some (.lst ((runPs (can0 ns h) (qs.take j)).1.map V.int))) ⟨c, none, none, none, none, ?_, s1, ec⟩ (fun j σ H3 _ ⟨_, _, _, _, _, _, s3, _⟩ => .of (s3 _ _ hpt)) ?_ ?_
        · show _ = [some (V.ref o), some (V.ref w), some (V.int (h : Nat)), some (V.ref pt), some (V.ref c), some (V.int ((can0 ns h).2 : Nat)), none, none, none, none]
          rw [e2]
          rfl
        · rintro j y σ H3 H4 hj ⟨c, o6, o7, o8, o9, rfl, s3, ec3⟩ ⟨t, a, b, rfl, ht, rfl, ha, hbb⟩
          cases ha
          obtain ⟨q1, hq1, tq, rfl, etq⟩ := pq.get hbb
          have s4 := s3.new ht (.tup [.int (j : Nat), .ref tq])
          have etq4 := s4 _ _ etq
          obtain ⟨ok1, ok2⟩ := ok j q1 hq1
          have l24 : (runPs (can0 ns h) (qs.take j)).1.length ≤ 24 := runPs_len (can0_len hw) (by decide) _
          refine ⟨t, _, rfl, .of upd_same, rfl, _, _, rfl, _, _, rfl, tq, _, rfl, .of etq4, rfl, _, _, rfl, _, _, rfl, rfl, rfl, ?_⟩
          refine ⟨_, rfl, _, rfl, _, rfl, _, rfl, c, (runPs (can0 ns h) (qs.take j)).2, (runPs (can0 ns h) (qs.take j)).1, q1.1, q1.2, rfl, same_new ht _ _ _ ec3, by omega, ok1, ok2, fun H5 t5 c5 s5 ht5 hc5 et5 ec5 => ?_⟩
          refine ⟨_, rfl, rfl, _, rfl, iteF ?_⟩
          refine ⟨_, rfl, t5, _, rfl, .of et5, rfl, _, _, rfl, _, _, rfl, rfl, ?_⟩
          have er : runPs (can0 ns h) (qs.take (j + 1)) = nxt (runPs (can0 ns h) (qs.take j)).1 (runPs (can0 ns h) (qs.take j)).2 q1.1 q1.2 := by rw [take_snoc hq1, runPs_snoc]
          refine ⟨c5, some (.int (j : Nat)), some (.int q1.1), some (hiV q1.2), some (.ref t5), ?_, s4.trans s5, by rw [er]; exact ec5⟩
          rw [er]
          rfl
        · rintro σ H3 ⟨c, o6, o7, o8, o9, rfl, s3, ec3⟩
          rw [pq.1, List.take_length] at ec3
          rw [pq.1, List.take_length]
          have tupo : ∀ {H' : Hp} {F1 : List (Str × V)} {u : HO}, H' o = some (.ins C dx F1) → ∀ b xs, H' b = some (.tup xs) → (upd H' o u) b = some (.tup xs) := fun e1 b xs e => by
            rw [upd_ne (ne_of e e1 fun z => nomatch z)]; exact e
          refine ⟨_, rfl, _, rfl, o, C, dx, [], rfl, s3 _ _ ho, cl, na1, by decide, ?_⟩
          generalize e4 : upd H3 o _ = H4
          have eo4 : H4 o = some (.ins C dx [(("widths" : Str), .ref w)]) := by rw [← e4]; exact upd_same
          have kp4 : Kp o H H4 := fun b u n hb => by rw [← e4, upd_ne n]; exact s3 _ _ hb
          have ec4 : H4 c = some (.lst ((runPs (can0 ns h) qs).1.map V.int)) := by rw [← e4, upd_ne (ne_of ec3 (s3 _ _ ho) fun z => nomatch z)]; exact ec3
          refine ⟨_, rfl, _, rfl, o, C, dx, _, rfl, eo4, cl, na2, by show 1 < 1000; decide, ?_⟩
          generalize e5 : upd H4 o _ = H5
          have eo5 : H5 o = some (.ins C dx [(("widths" : Str), .ref w), (("houses" : Str), .int (h : Nat))]) := by rw [← e5]; exact upd_same
          have kp5 : Kp o H H5 := kp4.trans (by rw [← e5]; exact Kp.at)
          have ec5 : H5 c = some (.lst ((runPs (can0 ns h) qs).1.map V.int)) := by rw [← e5, upd_ne (ne_of ec4 eo4 fun z => nomatch z)]; exact ec4
          have npt : pt ≠ o := ne_of hpt ho fun z => nomatch z
          have pq5 : PqIt H5 pvs qs := pq.keep fun b xs e => kp5 b _ (ne_of e ho fun z => nomatch z) e
          refine ⟨_, rfl, pt, rfl, ⟨_, .of (kp5 _ _ npt hpt)⟩, fun D hD => ?_⟩
          refine lc_it walk_tup (fun i H' => ∃ acc, H' D = some (.lst acc) ∧ PqIt H' acc (qs.take i) ∧ Same H5 H') ⟨[], upd_same, PqIt.nil, same_new hD _⟩ (fun i H' _ ⟨_, _, _, s6⟩ => .of (s6 _ _ (kp5 _ _ npt hpt))) ?_ ?_
          · rintro i x H' H'' hi ⟨acc, eD, pa, s6⟩ ⟨rfl, hx⟩
            obtain ⟨q1, hq1, tq, rfl, etq⟩ := pq5.get hx
            refine ⟨tq, _, rfl, .of (s6 _ _ etq), rfl, _, _, rfl, _, _, rfl, rfl, rfl, _, rfl, _, rfl, two_line (by show 2 ≤ 1000; decide), fun p hp => ?_⟩
            have nD : D ≠ p := ne_of_none eD hp
            have lz : acc.length < sizeLine := small1000 (by rw [pa.1]; have := List.length_take_le' i qs; omega)
            refine ⟨acc, by rw [upd_ne nD]; exact eD, lz, acc ++ [.ref p], upd_same, ?_, (s6.new hp _).updL hD⟩
            rw [take_snoc hq1]
            have kk : ∀ (u u' : HO) b xs, H'' b = some (.tup xs) → (upd (upd H'' p u) D u') b = some (.tup xs) := fun u u' b xs e => by
              rw [upd_ne (ne_of e eD fun z => nomatch z), upd_ne (ne_of_none e hp)]; exact e
            refine PqIt.snoc (pa.keep (kk _ _)) ⟨p, rfl, ?_⟩
            rw [upd_ne (Ne.symm nD), upd_same]
          rintro H6 ⟨acc, eD, pa, s6⟩
          rw [pq.1, List.take_length] at pa
          refine ⟨D, acc, rfl, .inl ⟨.of eD, fun l hl' => ?_⟩⟩
          have s7 := s6.new hl' (.tup acc)
          have el7 := upd_same (H := H6) (a := l) (o := .tup acc)
          have pa7 := pa.same (same_new hl' (.tup acc))
          generalize upd H6 l (.tup acc) = H7 at s7 el7 pa7
          have eo7 := s7 _ _ eo5
          refine ⟨_, rfl, o, C, dx, _, rfl, eo7, cl, na3, by show 2 < 1000; decide, ?_⟩
          generalize e8 : upd H7 o _ = H8
          have eo8 : H8 o = some (.ins C dx [(("widths" : Str), .ref w), (("houses" : Str), .int (h : Nat)), (("pairs" : Str), .ref l)]) := by rw [← e8]; exact upd_same
          have kp8 : Kp o H H8 := fun b u n hb => by rw [← e8, upd_ne n]; exact s7 _ _ (kp5 b u n hb)
          have el8 : H8 l = some (.tup acc) := by rw [← e8]; exact tupo eo7 _ _ el7
          have pa8 : PqIt H8 acc qs := pa7.keep fun b xs e => by rw [← e8]; exact tupo eo7 _ _ e
          have ec8 : H8 c = some (.lst ((runPs (can0 ns h) qs).1.map V.int)) := by rw [← e8, upd_ne (ne_of (s7 _ _ ec5) eo7 fun z => nomatch z)]; exact s7 _ _ ec5
          refine ⟨_, rfl, c, _, rfl, .inl ⟨.of ec8, fun m hm => ?_⟩⟩
          have s9 := same_new hm (.tup ((runPs (can0 ns h) qs).1.map V.int))
          have em9 := upd_same (H := H8) (a := m) (o := .tup ((runPs (can0 ns h) qs).1.map V.int))
          generalize upd H8 m (.tup ((runPs (can0 ns h) qs).1.map V.int)) = H9 at s9 em9
          have eo9 := s9 _ _ eo8
          refine ⟨_, rfl, o, C, dx, _, rfl, eo9, cl, na4, by show 3 < 1000; decide, ?_⟩
          generalize e10 : upd H9 o _ = H10
          have eo10 : H10 o = some (.ins C dx [(("widths" : Str), .ref w), (("houses" : Str), .int (h : Nat)), (("pairs" : Str), .ref l), (("can" : Str), .ref m)]) := by rw [← e10]; exact upd_same
          have tu10 : ∀ b xs, H9 b = some (.tup xs) → H10 b = some (.tup xs) := fun b xs e => by rw [← e10]; exact tupo eo9 _ _ e
          have kp10 : Kp o H H10 := fun b u n hb => by rw [← e10, upd_ne n]; exact s9 _ _ (kp8 b u n hb)
          refine ⟨_, rfl, _, rfl, o, C, dx, _, rfl, eo10, cl, na5, by show 4 < 1000; decide, ?_⟩
          have kpf : ∀ u, Kp o H (upd H10 o u) := fun u b x n hb => by rw [upd_ne n]; exact kp10 b x n hb
          have now : w ≠ o := ne_of ew ho fun z => by cases z
          have ntw : tw ≠ o := ne_of etw ho fun z => nomatch z
          refine q _ (kpf _) ⟨dx, w, l, m, acc, upd_same, ⟨dw, tw, kpf _ _ _ now ew, kpf _ _ _ ntw etw⟩, tupo eo10 _ _ (tu10 _ _ (s9 _ _ el8)), pa8.keep fun b xs e => tupo eo10 _ _ (tu10 _ _ (s9 _ _ e)), tupo eo10 _ _ (tu10 _ _ em9)⟩
    · exfalso
      unfold inRange inHi at ir
      simp [isNum] at ir
      omega
theorem ok_HouseLog_told (F : Fun K "told" "HouseLog.told" s_HouseLog_told f fd) (T : Bs mg) (cl : Cls K C) (na1 : NoAttr K C "widths") (na2 : NoAttr K C "houses") (na3 : NoAttr K C "pairs")
    (c_HouseLog : AvC P w K mg base 4 "HouseLog" C (spHInit C CW)) : FnOk P w K mg base CX0 6 f fd ["self", "probe", "answer"] (spToldM C CW) := by
  refine F.ok sc_HouseLog_told (fun vs H Q E h => ?_) (fun cdv A outer s H vs Q E hr h => ?_)
  · obtain ⟨g, p, o, ns, h, qs, rfl, _⟩ := h
    rfl
  obtain ⟨g, p, o, ns, h, qs, rfl, ⟨dx, w, tp, tc, pvs, eg, wa, etp, pq, etc⟩, hw, h8, ok, hl, q⟩ := h
  refine ⟨_, (pss_cons (ps_set (i := 3) sc_HouseLog_told.nd rfl (.inl rfl) (pe_op op_catA (pe_fld (pv 0) (by rfl)) (pe_tup (pa_cons (pe_tup (pa_cons (pv 1) (pa_cons (pv 2) pa_nil))) pa_nil))))
      (pss_one (ps_ret (c_HouseLog.makeS2 hr (by decide) passF (pa_cons (pe_fld (pv 0) (by rfl)) (pa_cons (pe_fld (pv 0) (by rfl)) (StX.pa_star (pv 3) pa_nil))))))), ?_⟩
  refine ⟨_, rfl, g, C, dx, _, _, rfl, eg, cl, na3, rfl, _, rfl, _, rfl, two_line (by show 2 ≤ 1000; decide), fun t ht => ⟨two_line (by show 1 ≤ 1000; decide), fun r hr' => ?_⟩⟩
  have s2 := (same_new ht (.tup [.int p, hiV o])).new hr' (.tup [.ref t])
  have et := same_new hr' (.tup [.ref t]) _ _ (upd_same (H := H) (a := t) (o := .tup [.int p, hiV o]))
  have er := upd_same (H := upd H t (.tup [.int p, hiV o])) (a := r) (o := .tup [.ref t])
  generalize upd (upd H t (.tup [.int p, hiV o])) r (.tup [.ref t]) = H2 at s2 et er ⊢
  refine ⟨tp, r, pvs, [.ref t], rfl, rfl, .of (s2 _ _ etp), .of er, two_line (by rw [pq.1]; show qs.length + 1 ≤ 1000; omega), fun z => ?_, fun _ z => absurd z (by simp), fun _ _ m hm => ?_⟩
  case' refine_1 =>
    have s3 := s2
    have ex : H2 r = some (.tup (pvs ++ [.ref t])) := by rw [er, z]; rfl
    have et3 := et
  case' refine_2 =>
    have s3 := s2.new hm (.tup (pvs ++ [.ref t]))
    have ex := upd_same (H := H2) (a := m) (o := .tup (pvs ++ [.ref t]))
    have et3 := same_new hm (.tup (pvs ++ [.ref t])) _ _ et
    generalize upd H2 m (.tup (pvs ++ [.ref t])) = H3 at s3 ex et3 ⊢
  all_goals
    refine ⟨_, rfl, g, C, dx, _, _, rfl, s3 _ _ eg, cl, na1, rfl, _, rfl, g, C, dx, _, _, rfl, s3 _ _ eg, cl, na2, rfl, _, rfl, _, _, rfl, .inl (.of ex), ?_⟩
    refine h_made (pv := (pvs ++ [.ref t]) ++ []) hw h8 (wa.same s3) ?_ ok (by rw [List.length_append]; show qs.length + 1 ≤ 100; omega) fun H' g' s4 hg' lf => q H' g' (s3.trans s4) (s3.free hg') lf
    rw [List.append_nil]
    exact (pq.same s3).snoc ⟨t, rfl, et3⟩
end
end K70

namespace K70
open PySem PySem.Spec PyProof.Rows L2
abbrev s_law_start : Stmt := topS 31
theorem sc_law_start : FnScope ["_law_script", "_law_first_here"] ["_law_script"] (defScope s_law_start) := ⟨rfl, rfl, rfl, by decide +kernel, rfl, by decide +kernel, by decide +kernel⟩
abbrev s_law_draw : Stmt := topS 32
theorem sc_law_draw : FnScope ["_law_script", "_law_state", "_law_limit", "_law_number", "_law_cell", "_law_mixed"] ["_law_script", "_law_state", "_law_limit"] (defScope s_law_draw) := ⟨rfl, rfl, rfl, by decide +kernel, rfl, by decide +kernel, by decide +kernel⟩
def spStartK (K : PySem.W.Frag) : Sp := fun vs H Q _ => ∃ (a : Addr) (ns : List Int), vs = [.ref a] ∧ SqL K H a (ns.map V.int) ∧ ∀ (H' : Hp) (st : Addr), Same H H' → H st = none → StAt H' st → Q (.ref st) H'
/-- a drawn number below the limit; only the state at st changes -/
def spDraw (K : PySem.W.Frag) : Sp := fun vs H Q _ => ∃ (a st : Addr) (ns : List Int) (lim : Int), vs = [.ref a, .ref st, .int lim] ∧ Scr K H a ns ∧ StAt H st ∧ 1 ≤ lim ∧ lim ≤ 1000000 ∧ ∀ (n : Int) (H' : Hp), 0 ≤ n → n < lim → Kp st H H' → StAt H' st → Q (.int n) H'
section
variable {P : Program} {w : World} {K : PySem.W.Frag} {mg : Str → Option Value} {base : Heap} {f C CW CN : Addr} {fd : FuncData}
theorem ok_law_start (F : Fun K "_law_start" "_law_start" s_law_start f fd) (T : Bs mg) : FnOk P w K mg base CX0 1 f fd ["_law_script"] (spStartK K) := by
  refine F.ok sc_law_start (fun vs H Q E h => ?_) (fun cdv A outer s H vs Q E hr h => ?_)
  · obtain ⟨a, ns, rfl, _⟩ := h
    rfl
  obtain ⟨a, ns, rfl, hs, q⟩ := h
  refine ⟨_, (pss_cons (ps_set (i := 1) sc_law_start.nd rfl (.inl rfl) pe_int)
      (pss_cons (ps_if (pt_cmpR op_gt (pe_callB call_len_seq (by rfl) T.len bo_len (pa_cons (pv 0) pa_nil)) pe_int (nomark _)) (pss_one (ps_set (i := 1) sc_law_start.nd rfl (.inl rfl) (pe_ix ix_list (pv 0) pe_int (fun _ _ => rfl)))) pss_nil)
      (pss_one (ps_ret (pe_lst (pa_cons (pe_callB call_abs (by rfl) T.abs bo_abs (pa_cons (pe_callTy call_int1 (by rfl) T.int bo_int (pa_cons (pv 1) pa_nil)) pa_nil)) (pa_cons (pe_callTy call_int1 (by rfl) T.int bo_int (pa_cons (pe_cmpR op_ge (pe_callB call_abs (by rfl) T.abs bo_abs (pa_cons (pe_callTy call_int1 (by rfl) T.int bo_int (pa_cons (pv 1) pa_nil)) pa_nil)) (pe_op op_pow pe_int pe_int) (nomark _)) pa_nil)) (pa_cons pe_int (pa_cons pe_int pa_nil))))))))), ?_⟩
  refine ⟨_, rfl, a, _, rfl, .inl hs, _, _, rfl, rfl, _, rfl, iteD (fun c => ?_) fun c => ?_⟩
  case' refine_1 =>
    have hl : 0 < ns.length := by rw [List.length_map] at c; omega
    refine ⟨_, rfl, a, _, 0, .int ns[0], rfl, rfl, hs, atI_nat (j := 0) (by rw [List.getElem?_map, List.getElem?_eq_getElem hl]; rfl), ?_⟩
    generalize ns[0] = x
  case' refine_2 =>
    generalize hx : (0 : Int) = x
  all_goals
    refine ⟨_, rfl, .inl ⟨_, rfl, _, rfl, ?_⟩⟩
    refine ⟨_, rfl, .inl ⟨_, rfl, _, rfl, _, _, rfl, rfl, ⟨by decide, by decide, by decide⟩, _, _, rfl, rfl, .inr ⟨_, rfl, two_line (by show 4 ≤ 1000; decide), fun st hst => ?_⟩⟩⟩
    exact q _ st (same_new hst _) hst ⟨_, _, _, _, upd_same⟩
theorem ok_law_draw (F : Fun K "_law_draw" "_law_draw" s_law_draw f fd) (T : Bs mg) : FnOk P w K mg base CX0 1 f fd ["_law_script", "_law_state", "_law_limit"] (spDraw K) := by
  refine F.ok sc_law_draw (fun vs H Q E h => ?_) (fun cdv A outer s H vs Q E hr h => ?_)
  · obtain ⟨a, st, ns, lim, rfl, _⟩ := h
    rfl
  obtain ⟨sc, st, ns, lim, rfl, hsc, hst, hl1, hl2, q⟩ := h
  obtain ⟨a, b, c, d, e⟩ := id hst
  refine ⟨_, (pss_cons (ps_asg (pe_op op_add (pe_ix ix_list (pv 1) pe_int (fun _ _ => rfl)) pe_int) (pg_sub (pv 1) pe_int set_list))
      (pss_cons (ps_if (PW.pt (pw_and (pt_cmpR op_eq (pe_ix ix_list (pv 1) pe_int (fun _ _ => rfl)) pe_int (nomark _)) (pw_and1 (pt_cmpR op_gt (pe_ix ix_list (pv 1) pe_int (fun _ _ => rfl)) pe_int (nomark _))))) (pss_cons (ps_set (i := 3) sc_law_draw.nd rfl (.inl rfl) (pe_op op_modN (pe_callTy call_int1 (by rfl) T.int bo_int (pa_cons (pe_ix ix_list (pv 1) pe_int (fun _ _ => rfl)) pa_nil)) (pv 2)))
      (pss_cons (ps_asg (pe_op op_fdivN (pe_ix ix_list (pv 1) pe_int (fun _ _ => rfl)) (pv 2)) (pg_sub (pv 1) pe_int set_list))
      (pss_one (ps_ret (pv 3))))) pss_nil)
      (pss_cons (ps_asg pe_int (pg_sub (pv 1) pe_int set_list))
      (pss_cons (ps_set (i := 4) sc_law_draw.nd rfl (.inl rfl) pe_int)
      (pss_cons (ps_if (pt_cmpR op_gt (pe_callB call_len_seq (by rfl) T.len bo_len (pa_cons (pv 0) pa_nil)) pe_int (nomark _)) (pss_one (ps_set (i := 4) sc_law_draw.nd rfl (.inl rfl) (pe_ix ix_list (pv 0) (pe_op op_modN (pe_callTy call_int1 (by rfl) T.int bo_int (pa_cons (pe_ix ix_list (pv 1) pe_int (fun _ _ => rfl)) pa_nil)) (pe_callB call_len_seq (by rfl) T.len bo_len (pa_cons (pv 0) pa_nil))) (fun _ _ => rfl)))) pss_nil)
      (pss_cons (ps_asg (pe_op op_add (pe_ix ix_list (pv 1) pe_int (fun _ _ => rfl)) pe_int) (pg_sub (pv 1) pe_int set_list))
      (pss_cons (ps_set (i := 5) sc_law_draw.nd rfl (.inl rfl) (pe_op op_mul (pe_op op_modN (pe_callTy call_int1 (by rfl) T.int bo_int (pa_cons (pe_ix ix_list (pv 1) pe_int (fun _ _ => rfl)) pa_nil)) pe_int) pe_int))
      (pss_cons (ps_set (i := 5) sc_law_draw.nd rfl (.inl rfl) (pe_op op_add (pe_op op_add (pe_op op_add (pv 5) (pe_op op_modN (pe_callTy call_int1 (by rfl) T.int bo_int (pa_cons (pv 4) pa_nil)) pe_int)) (pe_op op_mul pe_int (pe_ix ix_list (pv 1) pe_int (fun _ _ => rfl)))) pe_int))
      (pss_cons (ps_asg (pe_op op_modN (pe_callTy call_int1 (by rfl) T.int bo_int (pa_cons (pv 5) pa_nil)) pe_int) (pg_sub (pv 1) pe_int set_list))
      (pss_cons (ps_set (i := 5) sc_law_draw.nd rfl (.inl rfl) (pe_op op_modN (pe_callTy call_int1 (by rfl) T.int bo_int (pa_cons (pe_op op_add (pe_op op_mul (pe_ix ix_list (pv 1) pe_int (fun _ _ => rfl)) pe_int) (pe_ix ix_list (pv 1) pe_int (fun _ _ => rfl))) pa_nil)) pe_int))
      (pss_one (ps_ret (pe_op op_modN (pe_callTy call_int1 (by rfl) T.int bo_int (pa_cons (pe_op op_fdivN (pv 5) pe_int) pa_nil)) (pv 2)))))))))))))), ?_⟩
  refine ⟨_, rfl, st, _, _, .int d, rfl, rfl, .of e, rfl, _, _, rfl, rfl, _, rfl, st, _, 3, 3, rfl, rfl, e, rfl, ?_⟩
  generalize e1 : upd H st _ = H1
  have s1 : H1 st = some (.lst [.int a, .int b, .int c, .int (d + 1)]) := by rw [← e1]; exact upd_same
  have k1 : Kp st H H1 := by rw [← e1]; exact Kp.at
  have low : ∀ x : Int, 0 ≤ x.fmod lim ∧ x.fmod lim < lim := fun x => ⟨Int.fmod_nonneg_of_pos x (by omega), Int.fmod_lt_of_pos x (by omega)⟩
  refine ⟨_, rfl, st, _, _, .int b, rfl, rfl, .of s1, rfl, rfl, _, rfl, ?_⟩
  by_cases hc : b = 1 ∧ 0 < a
  · refine iteD (fun _ => ?_) fun z => absurd (congrArg V.int hc.1) z
    refine ⟨_, rfl, st, _, _, .int a, rfl, rfl, .of s1, rfl, _, _, rfl, rfl, _, rfl, iteD (fun _ => ?_) fun z => absurd hc.2 z⟩
    refine ⟨_, rfl, st, _, _, .int a, rfl, rfl, .of s1, rfl, .inl ⟨_, rfl, _, rfl, _, _, rfl, rfl, by show lim ≠ 0; omega, ?_⟩⟩
    refine ⟨_, rfl, st, _, _, .int a, rfl, rfl, .of s1, rfl, _, rfl, _, _, rfl, rfl, ⟨by omega, by omega⟩, _, rfl, st, _, 0, 0, rfl, rfl, s1, rfl, ?_⟩
    refine ⟨_, rfl, q _ _ (low a).1 (low a).2 (k1.trans Kp.at) ⟨_, _, _, _, upd_same⟩⟩
  · refine iteD (fun z => ⟨_, rfl, st, _, _, .int a, rfl, rfl, .of s1, rfl, _, _, rfl, rfl, _, rfl, iteD (fun z2 => absurd ⟨V.int.inj z, z2⟩ hc) fun _ => ?_⟩) fun _ => ?_
    all_goals
      refine ⟨_, rfl, st, _, 1, 1, rfl, rfl, s1, rfl, ?_⟩
      generalize e2 : upd H1 st _ = H2
      have s2 : H2 st = some (.lst [.int a, .int 0, .int c, .int (d + 1)]) := by rw [← e2]; exact upd_same
      have k2 : Kp st H H2 := k1.trans (by rw [← e2]; exact Kp.at)
      have q2 := (hsc.kp hst k2).sq
      refine ⟨_, rfl, sc, _, rfl, .inl q2, _, _, rfl, rfl, _, rfl, iteD (fun z => ?_) fun z => ?_⟩
      case' refine_1 =>
        have hl : 0 < ns.length := by rw [List.length_map] at z; omega
        have hpos : (0 : Int) < ((ns.map V.int).length : Nat) := z
        obtain ⟨j, hj, ej⟩ : ∃ j : Nat, j < ns.length ∧ c.fmod ((ns.map V.int).length : Nat) = (j : Int) := by
          have b1 := Int.fmod_nonneg_of_pos c hpos
          have b2 := Int.fmod_lt_of_pos c hpos
          refine ⟨(c.fmod ((ns.map V.int).length : Nat)).toNat, ?_, by omega⟩
          rw [List.length_map] at b1 b2 ⊢
          omega
        refine ⟨_, rfl, _, rfl, st, _, _, .int c, rfl, rfl, .of s2, rfl, .inl ⟨_, rfl, _, rfl, sc, _, rfl, .inl q2, _, _, rfl, rfl, by show (((ns.map V.int).length : Nat) : Int) ≠ 0; omega, sc, _, _, .int ns[j], rfl, rfl, q2, ?_, ?_⟩⟩
        · rw [ej]
          exact atI_nat (by rw [List.getElem?_map, List.getElem?_eq_getElem hj]; rfl)
        generalize ns[j] = x
      all_goals
        refine ⟨_, rfl, st, _, _, .int c, rfl, rfl, .of s2, rfl, _, _, rfl, rfl, _, rfl, st, _, 2, 2, rfl, rfl, s2, rfl, ?_⟩
        generalize e3 : upd H2 st _ = H3
        have s3 : H3 st = some (.lst [.int a, .int 0, .int (c + 1), .int (d + 1)]) := by rw [← e3]; exact upd_same
        have k3 : Kp st H H3 := k2.trans (by rw [← e3]; exact Kp.at)
        refine ⟨_, rfl, st, _, _, .int a, rfl, rfl, .of s3, rfl, .inl ⟨_, rfl, _, _, rfl, rfl, show (2147483647 : Int) ≠ 0 by decide, _, _, rfl, rfl, .inr (by decide), ?_⟩⟩
        refine ⟨_, rfl, _, rfl, .inl ⟨_, rfl, _, _, rfl, rfl, show (2147483629 : Int) ≠ 0 by decide, _, _, rfl, rfl, _, rfl, st, _, _, .int (d + 1), rfl, rfl, .of s3, rfl, _, _, rfl, rfl, .inl (by decide), _, _, rfl, rfl, _, _, rfl, rfl, ?_⟩⟩
        refine ⟨_, rfl, .inl ⟨_, rfl, _, _, rfl, rfl, show (2147483647 : Int) ≠ 0 by decide, _, rfl, st, _, 0, 0, rfl, rfl, s3, rfl, ?_⟩⟩
        generalize e4 : upd H3 st _ = H4
        obtain ⟨m, s4⟩ : ∃ m : Int, H4 st = some (.lst [.int m, .int 0, .int (c + 1), .int (d + 1)]) := ⟨_, by rw [← e4]; exact upd_same⟩
        have k4 : Kp st H H4 := k3.trans (by rw [← e4]; exact Kp.at)
        refine ⟨_, rfl, st, _, _, .int m, rfl, rfl, .of s4, rfl, _, _, rfl, rfl, .inr (by decide), _, rfl, st, _, _, .int (d + 1), rfl, rfl, .of s4, rfl, _, _, rfl, rfl, .inl ⟨_, rfl, _, _, rfl, rfl, show (2147483629 : Int) ≠ 0 by decide, ?_⟩⟩
        refine ⟨_, rfl, _, _, rfl, rfl, ⟨by decide, by decide⟩, .inl ⟨_, rfl, _, rfl, _, _, rfl, rfl, by show lim ≠ 0; omega, ?_⟩⟩
        exact q _ _ (low _).1 (low _).2 k4 ⟨_, _, _, _, s4⟩
end
end K70

namespace K70
open PySem PySem.Spec PyProof.Rows L2
theorem Kp.free {st r : Addr} {H H1 : Hp} (k : Kp st H H1) (h1 : StAt H1 st) (h : H1 r = none) : H r = none := by
  obtain ⟨a, b, c, d, e⟩ := h1
  cases q : H r with
  | none => rfl
  | some o =>
    have n : r ≠ st := fun z => by rw [z, e] at h; cases h
    rw [k r o n q] at h
    cases h
theorem StAt.ne_none {st r : Addr} {H : Hp} (h1 : StAt H st) (h : H r = none) : r ≠ st := fun z => by
  obtain ⟨a, b, c, d, e⟩ := h1
  rw [z, e] at h; cases h
theorem StAt.same {st : Addr} {H H' : Hp} (h : StAt H st) (s : Same H H') : StAt H' st := by
  obtain ⟨a, b, c, d, e⟩ := h
  exact ⟨a, b, c, d, s _ _ e⟩
theorem Kp.updR {st r : Addr} {H H1 : Hp} {o : HO} (k : Kp st H H1) (h : H r = none) : Kp st H (upd H1 r o) := fun b u n q => by rw [upd_ne (ne_of_none q h)]; exact k b u n q
theorem StAt.upd {st r : Addr} {H : Hp} {o : HO} (h : StAt H st) (n : r ≠ st) : StAt (L2.upd H r o) st := by
  obtain ⟨a, b, c, d, e⟩ := h
  exact ⟨a, b, c, d, by rw [upd_ne (Ne.symm n)]; exact e⟩
/-! ### numbers that rise -/
def numOk (ns : List Int) : Prop := 1 ≤ ns.length ∧ (∀ a ∈ ns, 1 ≤ a ∧ a ≤ 9 * (ns.length : Int)) ∧ ns.Pairwise (· < ·)
theorem last_mem {ns : List Int} (h : 1 ≤ ns.length) : ns.getLastD 0 ∈ ns := by
  cases ns with
  | nil => simp at h
  | cons a r =>
    rw [List.getLastD_eq_getLast?]
    rw [List.getLast?_eq_some_getLast (by simp)]
    exact List.getLast_mem _
theorem last_ge {ns : List Int} (hp : ns.Pairwise (· < ·)) : ∀ a ∈ ns, a ≤ ns.getLastD 0 := by
  intro a ha
  obtain ⟨i, hi, e⟩ := List.getElem_of_mem ha
  have hl : ns.getLastD 0 = ns[ns.length - 1]'(by omega) := by
    rw [List.getLastD_eq_getLast?, List.getLast?_eq_getElem?, List.getElem?_eq_getElem (by omega)]
    rfl
  rw [hl, ← e]
  by_cases z : i = ns.length - 1
  · subst z; exact Int.le_refl _
  · exact Int.le_of_lt (List.pairwise_iff_getElem.mp hp i (ns.length - 1) hi (by omega) (by omega))
theorem numOk_one {x : Int} (h : 1 ≤ x) (h9 : x ≤ 9) : numOk [x] := ⟨Nat.le_refl _, fun a ha => by rw [List.mem_singleton.mp ha]; exact ⟨h, by simpa using h9⟩, List.pairwise_singleton _ _⟩
theorem numOk_snoc {ns : List Int} {x : Int} (h : numOk ns) (h1 : ns.getLastD 0 < x) (h2 : x ≤ ns.getLastD 0 + 9) : numOk (ns ++ [x]) := by
  obtain ⟨a1, a2, a3⟩ := h
  have lm := a2 _ (last_mem a1)
  have e : (((ns ++ [x]).length : Nat) : Int) = (ns.length : Int) + 1 := by rw [List.length_append]; rfl
  refine ⟨by rw [List.length_append]; omega, fun a ha => ?_, ?_⟩
  · rw [e]
    rcases List.mem_append.mp ha with z | z
    · have := a2 a z; omega
    · rw [List.mem_singleton.mp z]; omega
  · refine List.pairwise_append.mpr ⟨a3, List.pairwise_singleton _ _, fun a ha b hb => ?_⟩
    rw [List.mem_singleton.mp hb]
    exact Int.lt_of_le_of_lt (last_ge a3 a ha) h1
abbrev s_law_numbers : Stmt := topS 33
theorem sc_law_numbers : FnScope ["_law_script", "_law_state", "_law_most", "_law_numbers_here", "_law_k"] ["_law_script", "_law_state", "_law_most"] (defScope s_law_numbers) := ⟨rfl, rfl, rfl, by decide +kernel, rfl, by decide +kernel, by decide +kernel⟩
abbrev s_law_first : Stmt := topS 35
theorem sc_law_first : FnScope ["_law_numbers_here", "_law_houses_here"] ["_law_numbers_here", "_law_houses_here"] (defScope s_law_first) := ⟨rfl, rfl, rfl, by decide +kernel, rfl, by decide +kernel, by decide +kernel⟩
abbrev s_law_widths : Stmt := topS 34
theorem sc_law_widths : FnScope ["_law_numbers_here"] ["_law_numbers_here"] (defScope s_law_widths) := ⟨rfl, rfl, rfl, by decide +kernel, rfl, by decide +kernel, by decide +kernel⟩
abbrev s_law_house_log : Stmt := topS 37
theorem sc_law_house_log : FnScope ["_law_widths_here", "_law_houses_here", "_law_pairs_here", "_law_log", "_law_pair"] ["_law_widths_here", "_law_houses_here", "_law_pairs_here"] (defScope s_law_house_log) := ⟨rfl, rfl, rfl, by decide +kernel, rfl, by decide +kernel, by decide +kernel⟩
def spNums (K : PySem.W.Frag) : Sp := fun vs H Q _ => ∃ (a st : Addr) (ns : List Int) (m : Nat), vs = [.ref a, .ref st, .int (m : Nat)] ∧ Scr K H a ns ∧ StAt H st ∧ 1 ≤ m ∧ m ≤ 6 ∧
  ∀ (H' : Hp) (r : Addr) (ms : List Int), Kp st H H' → StAt H' st → H r = none → H' r = some (.lst (ms.map V.int)) → numOk ms → ms.length ≤ m → Q (.ref r) H'
theorem cut_last {ns : List Int} (h : 1 ≤ ns.length) : cutV (ns.map V.int) (some (-1)) none = [V.int (ns.getLastD 0)] := by
  have e : cutV (ns.map V.int) (some (-1)) none = (ns.map V.int).drop (ns.length - 1) := by
    rw [← cut_from]
    unfold cutV
    have e1 : HT.sIx (ns.map V.int).length 0 (some (-1)) = ns.length - 1 := by
      unfold HT.sIx
      show (if (-1 : Int) < 0 then ((-1 : Int) + ((ns.map V.int).length : Nat)).toNat else _) = _
      rw [if_pos (by omega), List.length_map]
      omega
    rw [e1, HT.sIx_nat, List.length_map, Nat.min_eq_left (by omega)]
  rw [e, ← List.map_drop]
  have e2 : ns.drop (ns.length - 1) = [ns.getLastD 0] := by
    rw [List.drop_eq_getElem_cons (by omega), List.drop_of_length_le (by omega)]
    rw [List.getLastD_eq_getLast?, List.getLast?_eq_getElem?, List.getElem?_eq_getElem (by omega)]
    rfl
  rw [e2]
  rfl
theorem h_made1 {C CW w : Addr} {H1 : Hp} {ns : List Int} {h : Nat} {qs : List (Int × Option Int)} {pv : List V} {R : VK} {E : XK} {x dx : Addr} (hx : H1 x = none) (hdx : H1 dx = none) (hne : dx ≠ x) (hw : okW ns) (hh : h ≤ 8) (wa : WAt CW H1 w ns) (pq : PqIt H1 pv qs) (ok : okPs (can0 ns h) qs) (hl : qs.length ≤ 100)
    (q : ∀ (H' : Hp), Same H1 H' → LogF C CW H' x ns h qs → R .non H') :
    spHInit C CW (V.ref x :: .ref w :: .int (h : Nat) :: pv) (upd (upd H1 dx (.own x)) x (.ins C dx [])) R E := by
  have hx2 : (upd H1 dx (.own x)) x = none := by rw [upd_ne (Ne.symm hne)]; exact hx
  have s2 : Same H1 (upd (upd H1 dx (.own x)) x (.ins C dx [])) := (same_new hdx _).new hx2 _
  refine ⟨x, w, dx, ns, h, qs, pv, rfl, upd_same, wa.same s2, hw, hh, pq.same s2, ok, hl, fun H' kp la => q H' (fun b o hb => ?_) la⟩
  have n1 : b ≠ x := ne_of_none hb hx
  exact kp b o n1 (s2 _ _ hb)
theorem okPs_take {c : List Int × Nat} {qs : List (Int × Option Int)} (h : okPs c qs) (k : Nat) : okPs c (qs.take k) := fun i q hq => by
  have hi : i < k := by
    have := (List.getElem?_eq_some_iff.mp hq).1
    rw [List.length_take] at this
    omega
  rw [List.getElem?_take_of_lt hi] at hq
  rw [List.take_take, Nat.min_eq_left (Nat.le_of_lt hi)]
  exact h i q hq
def spFirst : Sp := fun vs H Q _ => ∃ (r : Addr) (ns : List Int) (h : Nat), vs = [.ref r, .int (h : Nat)] ∧ H r = some (.lst (ns.map V.int)) ∧ 1 ≤ ns.length ∧ ns.length ≤ 100 ∧
  ∀ (H' : Hp) (t c : Addr), Same H H' → H t = none → H c = none → H' t = some (.tup [.ref c, .int ((can0 ns h).2 : Nat)]) → H' c = some (.lst ((can0 ns h).1.map V.int)) → Q (.ref t) H'
def spWid (C : Addr) : Sp := fun vs H Q _ => ∃ (r : Addr) (ns : List Int), vs = [.ref r] ∧ H r = some (.lst (ns.map V.int)) ∧ okW ns ∧ ns.length ≤ 6 ∧ ∀ (H' : Hp) (o : Addr), Same H H' → H o = none → WAt C H' o ns → Q (.ref o) H'
def spHLog (C CW : Addr) : Sp := fun vs H Q _ => ∃ (w p : Addr) (ns : List Int) (h : Nat) (qs : List (Int × Option Int)) (pvs : List V), vs = [.ref w, .int (h : Nat), .ref p] ∧ WAt CW H w ns ∧ okW ns ∧ h ≤ 8 ∧ H p = some (.lst pvs) ∧ PqIt H pvs qs ∧ okPs (can0 ns h) qs ∧ qs.length ≤ 10 ∧
  ∀ (H' : Hp) (g : Addr), Same H H' → H g = none → LogF C CW H' g ns h qs → Q (.ref g) H'
section
variable {P : Program} {w : World} {K : PySem.W.Frag} {mg : Str → Option Value} {base : Heap} {f C CW CN : Addr} {fd : FuncData}
theorem ok_law_numbers (F : Fun K "_law_numbers" "_law_numbers" s_law_numbers f fd) (T : Bs mg) (a_law_draw : Av P w K mg base CX0 1 "_law_draw" ["_law_script", "_law_state", "_law_limit"] (spDraw K)) : FnOk P w K mg base CX0 2 f fd ["_law_script", "_law_state", "_law_most"] (spNums K) := by
  refine F.ok sc_law_numbers (fun vs H Q E h => ?_) (fun cdv A outer s H vs Q E hr h => ?_)
  · obtain ⟨a, st, ns, m, rfl, _⟩ := h
    rfl
  obtain ⟨sc, st, ns, m, rfl, hsc, hst, hm1, hm6, q⟩ := h
  refine ⟨_, (pss_cons (ps_set (i := 3) sc_law_numbers.nd rfl (.inl rfl) (pe_lst (pa_cons (pe_op op_add pe_int (a_law_draw.call hr (by decide) pass0 (pa_cons (pv 0) (pa_cons (pv 1) (pa_cons pe_int pa_nil))))) pa_nil)))
      (pss_cons (ps_for PassesOwn.never rfl (pi_range1 (by rfl) T.range (pa_cons (a_law_draw.call hr (by decide) pass0 (pa_cons (pv 0) (pa_cons (pv 1) (pa_cons (pv 2) pa_nil)))) pa_nil)) (pg_name (i := 4) sc_law_numbers.nd rfl (.inl rfl)) (pss_one (ps_expr (pe_bm PySem.F.plainAttrs_list PySem.F.slot_list_append PySem.F.type_list_append mt_append (pv 3) (pa_cons (pe_op op_add (pe_op op_add (pe_ix ix_list (pv 3) (pe_un un_neg pe_int) (fun _ _ => rfl)) pe_int) (a_law_draw.call hr (by decide) pass0 (pa_cons (pv 0) (pa_cons (pv 1) (pa_cons pe_int pa_nil))))) pa_nil)))))
      (pss_one (ps_ret (pv 3))))), ?_⟩
  refine ⟨_, rfl, _, rfl, sc, st, ns, 5, rfl, hsc, hst, by decide, by decide, fun n H1 n0 n1 k1 st1 => ⟨_, _, rfl, rfl, two_line (by show 1 ≤ 1000; decide), fun r hr' => ?_⟩⟩
  have hr0 := k1.free st1 hr'
  have nr := st1.ne_none hr'
  have st2 := st1.upd (o := .lst [.int (1 + n)]) nr
  have k2 := k1.updR (o := .lst [.int (1 + n)]) hr0
  have er2 := upd_same (H := H1) (a := r) (o := .lst [.int (1 + n)])
  generalize upd H1 r (.lst [.int (1 + n)]) = H2 at st2 k2 er2 ⊢
  refine ⟨_, rfl, _, rfl, _, rfl, sc, st, ns, m, rfl, hsc.kp hst k2, st2, by omega, by omega, fun cnt H3 c0 c1 k3 st3 => ⟨cnt, rfl, by omega, by omega, ?_⟩⟩
  refine for_range (lo := 0) (n := cnt.toNat) (fun j σ H' => ∃ ok ms, σ = [some (.ref sc), some (.ref st), some (.int (m : Nat)), some (.ref r), ok] ∧ Kp st H H' ∧ StAt H' st ∧ H' r = some (.lst (ms.map V.int)) ∧ ms.length = j + 1 ∧ numOk ms)
    ⟨none, [1 + n], rfl, k2.trans k3, st3, k3 _ _ nr er2, rfl, numOk_one (by omega) (by omega)⟩ ?_ ?_
  · rintro j σ H' hj ⟨ok, ms, rfl, k, st', er, lm, no⟩
    refine ⟨_, rfl, .inl ⟨rfl, _, SqL.of er⟩, _, rfl, 1, rfl, r, _, -1, _, rfl, rfl, .of er, atI_last no.1, _, _, rfl, rfl, _, rfl, _, rfl, sc, st, ns, 9, rfl, hsc.kp hst k, st', by decide, by decide, fun d H4 d0 d1 k4 st4 => ?_⟩
    refine ⟨_, _, rfl, rfl, r, _, _, rfl, rfl, k4 _ _ nr er, small1000 (by rw [List.length_map]; omega), ?_⟩
    refine ⟨_, ms ++ [ms.getLastD 0 + 1 + d], rfl, (k.trans k4).updR hr0, st4.upd nr, ?_, by rw [List.length_append, lm]; rfl, numOk_snoc no (by omega) (by omega)⟩
    rw [upd_same, List.map_append]
    rfl
  · rintro σ H' ⟨ok, ms, rfl, k, st', er, lm, no⟩
    exact ⟨_, rfl, q H' r ms k st' hr0 er no (by omega)⟩
theorem ok_law_first (F : Fun K "_law_first" "_law_first" s_law_first f fd) (T : Bs mg) : FnOk P w K mg base CX0 1 f fd ["_law_numbers_here", "_law_houses_here"] spFirst := by
  refine F.ok sc_law_first (fun vs H Q E h => ?_) (fun cdv A outer s H vs Q E hr h => ?_)
  · obtain ⟨r, ns, h, rfl, _⟩ := h
    rfl
  obtain ⟨r, ns, h, rfl, er, hl, hl2, q⟩ := h
  refine ⟨_, (pss_cons (ps_if (pt_cmpR op_eq (pv 1) pe_int (nomark _)) (pss_one (ps_ret (pe_tup (pa_cons (pe_slice sl_list (pv 0) (po_some (pe_un un_neg pe_int)) po_none) (pa_cons pe_int pa_nil))))) pss_nil)
      (pss_one (ps_ret (pe_tup (pa_cons (pe_callTy call_list_of (by rfl) T.lst bo_lst (pa_cons (pv 0) pa_nil)) (pa_cons (pv 1) pa_nil)))))), ?_⟩
  refine ⟨_, rfl, rfl, _, rfl, iteD (fun c => ?_) fun c => ?_⟩
  · have h0 : h = 0 := by have := V.int.inj c; omega
    have c0 : can0 ns h = ([ns.getLastD 0], 0) := if_pos h0
    refine ⟨_, rfl, 1, rfl, -1, rfl, r, _, rfl, .of er, fun p hp => ?_⟩
    rw [cut_last hl]
    refine ⟨two_line (by show 2 ≤ 1000; decide), fun t ht => q _ t p ((same_new hp _).new ht _) ((same_new hp _).free ht) hp ?_ ?_⟩
    · rw [upd_same, c0]; rfl
    · rw [upd_ne (ne_of_none upd_same ht), upd_same, c0]; rfl
  · have h0 : h ≠ 0 := fun z => c (by rw [z]; rfl)
    have c0 : can0 ns h = (ns, h) := if_neg h0
    refine ⟨_, rfl, r, _, rfl, .inl (.of er), fun p hp => ?_⟩
    refine ⟨_, rfl, two_line (by show 2 ≤ 1000; decide), fun t ht => q _ t p ((same_new hp _).new ht _) ((same_new hp _).free ht) hp ?_ ?_⟩
    · rw [upd_same, c0]
    · rw [upd_ne (ne_of_none upd_same ht), upd_same, c0]
theorem ok_law_widths (F : Fun K "_law_widths" "_law_widths" s_law_widths f fd) (T : Bs mg) (c_Widths : AvC P w K mg base 4 "Widths" C (spWInit C)) : FnOk P w K mg base CX0 6 f fd ["_law_numbers_here"] (spWid C) := by
  refine F.ok sc_law_widths (fun vs H Q E h => ?_) (fun cdv A outer s H vs Q E hr h => ?_)
  · obtain ⟨r, ns, rfl, _⟩ := h
    rfl
  obtain ⟨r, ns, rfl, e, hw, hl, q⟩ := h
  refine ⟨_, (pss_cons (ps_if (pt_cmpR op_eq (pe_callB call_len_seq (by rfl) T.len bo_len (pa_cons (pv 0) pa_nil)) pe_int (nomark _)) (pss_one (ps_ret (c_Widths.make hr (by decide) passF (pa_cons (pe_ix ix_list (pv 0) pe_int (fun _ _ => rfl)) pa_nil)))) pss_nil)
      (pss_cons (ps_if (pt_cmpR op_eq (pe_callB call_len_seq (by rfl) T.len bo_len (pa_cons (pv 0) pa_nil)) pe_int (nomark _)) (pss_one (ps_ret (c_Widths.make hr (by decide) passF (pa_cons (pe_ix ix_list (pv 0) pe_int (fun _ _ => rfl)) (pa_cons (pe_ix ix_list (pv 0) pe_int (fun _ _ => rfl)) pa_nil))))) pss_nil)
      (pss_cons (ps_if (pt_cmpR op_eq (pe_callB call_len_seq (by rfl) T.len bo_len (pa_cons (pv 0) pa_nil)) pe_int (nomark _)) (pss_one (ps_ret (c_Widths.make hr (by decide) passF (pa_cons (pe_ix ix_list (pv 0) pe_int (fun _ _ => rfl)) (pa_cons (pe_ix ix_list (pv 0) pe_int (fun _ _ => rfl)) (pa_cons (pe_ix ix_list (pv 0) pe_int (fun _ _ => rfl)) pa_nil)))))) pss_nil)
      (pss_cons (ps_if (pt_cmpR op_eq (pe_callB call_len_seq (by rfl) T.len bo_len (pa_cons (pv 0) pa_nil)) pe_int (nomark _)) (pss_one (ps_ret (c_Widths.make hr (by decide) passF (pa_cons (pe_ix ix_list (pv 0) pe_int (fun _ _ => rfl)) (pa_cons (pe_ix ix_list (pv 0) pe_int (fun _ _ => rfl)) (pa_cons (pe_ix ix_list (pv 0) pe_int (fun _ _ => rfl)) (pa_cons (pe_ix ix_list (pv 0) pe_int (fun _ _ => rfl)) pa_nil))))))) pss_nil)
      (pss_cons (ps_if (pt_cmpR op_eq (pe_callB call_len_seq (by rfl) T.len bo_len (pa_cons (pv 0) pa_nil)) pe_int (nomark _)) (pss_one (ps_ret (c_Widths.make hr (by decide) passF (pa_cons (pe_ix ix_list (pv 0) pe_int (fun _ _ => rfl)) (pa_cons (pe_ix ix_list (pv 0) pe_int (fun _ _ => rfl)) (pa_cons (pe_ix ix_list (pv 0) pe_int (fun _ _ => rfl)) (pa_cons (pe_ix ix_list (pv 0) pe_int (fun _ _ => rfl)) (pa_cons (pe_ix ix_list (pv 0) pe_int (fun _ _ => rfl)) pa_nil)))))))) pss_nil)
      (pss_one (ps_ret (c_Widths.make hr (by decide) passF (pa_cons (pe_ix ix_list (pv 0) pe_int (fun _ _ => rfl)) (pa_cons (pe_ix ix_list (pv 0) pe_int (fun _ _ => rfl)) (pa_cons (pe_ix ix_list (pv 0) pe_int (fun _ _ => rfl)) (pa_cons (pe_ix ix_list (pv 0) pe_int (fun _ _ => rfl)) (pa_cons (pe_ix ix_list (pv 0) pe_int (fun _ _ => rfl)) (pa_cons (pe_ix ix_list (pv 0) pe_int (fun _ _ => rfl)) pa_nil)))))))))))))), ?_⟩
  have h1 := hw.1
  · match ns, e, hw, q, hl with
    | [], _, hw, _, _ => exact absurd hw.1 (by simp)
    | [x1], e, hw, q, _ =>
      refine ⟨_, rfl, r, _, rfl, .inl (.of e), rfl, _, rfl, iteD (fun _ => ?_) fun c => absurd rfl c⟩
      exact ⟨_, rfl, r, _, 0, .int x1, rfl, rfl, .of e, rfl, w_made (ns := [x1]) hw fun H' o s1 ho wa => q H' o s1 ho wa⟩
    | [x1, x2], e, hw, q, _ =>
      refine ⟨_, rfl, r, _, rfl, .inl (.of e), rfl, _, rfl, iteD (fun c => absurd (V.int.inj c) (by simp)) fun _ => ?_⟩
      refine ⟨_, rfl, r, _, rfl, .inl (.of e), rfl, _, rfl, iteD (fun _ => ?_) fun c => absurd rfl c⟩
      exact ⟨_, rfl, r, _, 0, .int x1, rfl, rfl, .of e, rfl, _, rfl, r, _, 1, .int x2, rfl, rfl, .of e, rfl, w_made (ns := [x1, x2]) hw fun H' o s1 ho wa => q H' o s1 ho wa⟩
    | [x1, x2, x3], e, hw, q, _ =>
      refine ⟨_, rfl, r, _, rfl, .inl (.of e), rfl, _, rfl, iteD (fun c => absurd (V.int.inj c) (by simp)) fun _ => ?_⟩
      refine ⟨_, rfl, r, _, rfl, .inl (.of e), rfl, _, rfl, iteD (fun c => absurd (V.int.inj c) (by simp)) fun _ => ?_⟩
      refine ⟨_, rfl, r, _, rfl, .inl (.of e), rfl, _, rfl, iteD (fun _ => ?_) fun c => absurd rfl c⟩
      exact ⟨_, rfl, r, _, 0, .int x1, rfl, rfl, .of e, rfl, _, rfl, r, _, 1, .int x2, rfl, rfl, .of e, rfl, _, rfl, r, _, 2, .int x3, rfl, rfl, .of e, rfl, w_made (ns := [x1, x2, x3]) hw fun H' o s1 ho wa => q H' o s1 ho wa⟩
    | [x1, x2, x3, x4], e, hw, q, _ =>
      refine ⟨_, rfl, r, _, rfl, .inl (.of e), rfl, _, rfl, iteD (fun c => absurd (V.int.inj c) (by simp)) fun _ => ?_⟩
      refine ⟨_, rfl, r, _, rfl, .inl (.of e), rfl, _, rfl, iteD (fun c => absurd (V.int.inj c) (by simp)) fun _ => ?_⟩
      refine ⟨_, rfl, r, _, rfl, .inl (.of e), rfl, _, rfl, iteD (fun c => absurd (V.int.inj c) (by simp)) fun _ => ?_⟩
      refine ⟨_, rfl, r, _, rfl, .inl (.of e), rfl, _, rfl, iteD (fun _ => ?_) fun c => absurd rfl c⟩
      exact ⟨_, rfl, r, _, 0, .int x1, rfl, rfl, .of e, rfl, _, rfl, r, _, 1, .int x2, rfl, rfl, .of e, rfl, _, rfl, r, _, 2, .int x3, rfl, rfl, .of e, rfl, _, rfl, r, _, 3, .int x4, rfl, rfl, .of e, rfl, w_made (ns := [x1, x2, x3, x4]) hw fun H' o s1 ho wa => q H' o s1 ho wa⟩
    | [x1, x2, x3, x4, x5], e, hw, q, _ =>
      refine ⟨_, rfl, r, _, rfl, .inl (.of e), rfl, _, rfl, iteD (fun c => absurd (V.int.inj c) (by simp)) fun _ => ?_⟩
      refine ⟨_, rfl, r, _, rfl, .inl (.of e), rfl, _, rfl, iteD (fun c => absurd (V.int.inj c) (by simp)) fun _ => ?_⟩
      refine ⟨_, rfl, r, _, rfl, .inl (.of e), rfl, _, rfl, iteD (fun c => absurd (V.int.inj c) (by simp)) fun _ => ?_⟩
      refine ⟨_, rfl, r, _, rfl, .inl (.of e), rfl, _, rfl, iteD (fun c => absurd (V.int.inj c) (by simp)) fun _ => ?_⟩
      refine ⟨_, rfl, r, _, rfl, .inl (.of e), rfl, _, rfl, iteD (fun _ => ?_) fun c => absurd rfl c⟩
      exact ⟨_, rfl, r, _, 0, .int x1, rfl, rfl, .of e, rfl, _, rfl, r, _, 1, .int x2, rfl, rfl, .of e, rfl, _, rfl, r, _, 2, .int x3, rfl, rfl, .of e, rfl, _, rfl, r, _, 3, .int x4, rfl, rfl, .of e, rfl, _, rfl, r, _, 4, .int x5, rfl, rfl, .of e, rfl, w_made (ns := [x1, x2, x3, x4, x5]) hw fun H' o s1 ho wa => q H' o s1 ho wa⟩
    | [x1, x2, x3, x4, x5, x6], e, hw, q, _ =>
      refine ⟨_, rfl, r, _, rfl, .inl (.of e), rfl, _, rfl, iteD (fun c => absurd (V.int.inj c) (by simp)) fun _ => ?_⟩
      refine ⟨_, rfl, r, _, rfl, .inl (.of e), rfl, _, rfl, iteD (fun c => absurd (V.int.inj c) (by simp)) fun _ => ?_⟩
      refine ⟨_, rfl, r, _, rfl, .inl (.of e), rfl, _, rfl, iteD (fun c => absurd (V.int.inj c) (by simp)) fun _ => ?_⟩
      refine ⟨_, rfl, r, _, rfl, .inl (.of e), rfl, _, rfl, iteD (fun c => absurd (V.int.inj c) (by simp)) fun _ => ?_⟩
      refine ⟨_, rfl, r, _, rfl, .inl (.of e), rfl, _, rfl, iteD (fun c => absurd (V.int.inj c) (by simp)) fun _ => ?_⟩
      exact ⟨_, rfl, r, _, 0, .int x1, rfl, rfl, .of e, rfl, _, rfl, r, _, 1, .int x2, rfl, rfl, .of e, rfl, _, rfl, r, _, 2, .int x3, rfl, rfl, .of e, rfl, _, rfl, r, _, 3, .int x4, rfl, rfl, .of e, rfl, _, rfl, r, _, 4, .int x5, rfl, rfl, .of e, rfl, _, rfl, r, _, 5, .int x6, rfl, rfl, .of e, rfl, w_made (ns := [x1, x2, x3, x4, x5, x6]) hw fun H' o s1 ho wa => q H' o s1 ho wa⟩
    | _ :: _ :: _ :: _ :: _ :: _ :: _ :: _, _, _, _, hl => simp at hl
theorem ok_law_house_log (F : Fun K "_law_house_log" "_law_house_log" s_law_house_log f fd) (T : Bs mg) (cl : Cls K C) (c_HouseLog : AvC P w K mg base 4 "HouseLog" C (spHInit C CW)) (m_told : AvM P w K mg base CX0 6 C "told" ["self", "probe", "answer"] (spToldM C CW)) :
    FnOk P w K mg base CX0 7 f fd ["_law_widths_here", "_law_houses_here", "_law_pairs_here"] (spHLog C CW) := by
  refine F.ok sc_law_house_log (fun vs H Q E h => ?_) (fun cdv A outer s H vs Q E hr h => ?_)
  · obtain ⟨w', p, ns, h, qs, pvs, rfl, _⟩ := h
    rfl
  obtain ⟨w', p, ns, h, qs, pvs, rfl, wa, hw, h8, ep, pq, ok, hl, q⟩ := h
  refine ⟨_, (pss_cons (ps_set (i := 3) sc_law_house_log.nd rfl (.inl rfl) (c_HouseLog.make hr (by decide) passF (pa_cons (pv 0) (pa_cons (pv 1) pa_nil))))
      (pss_cons (ps_for PassesOwn.never rfl (pi_list (pv 2)) (pg_name (i := 4) sc_law_house_log.nd rfl (.inl rfl)) (pss_one (ps_set (i := 3) sc_law_house_log.nd rfl (.inl rfl) (m_told.call cl hr (by decide) pass0 (pv 3) (pa_cons (pe_ix ix_tup (pv 4) pe_int (fun _ _ => rfl)) (pa_cons (pe_ix ix_tup (pv 4) pe_int (fun _ _ => rfl)) pa_nil))))))
      (pss_one (ps_ret (pv 3))))), ?_⟩
  refine ⟨_, rfl, _, rfl, fun g0 dx0 hg0 hdx0 hne => h_made1 (pv := []) hg0 hdx0 hne hw h8 wa PqIt.nil (okPs_nil _) (by show 0 ≤ 100; decide) fun H1 s1 lf => ⟨rfl, ?_⟩⟩
  refine ⟨_, rfl, p, rfl, ⟨_, .of (s1 _ _ ep)⟩, ?_⟩
  refine for_list (K := K) (a := p) (xs := pvs) (fun i σ H' => ∃ g o4, σ = [some (.ref w'), some (.int (h : Nat)), some (.ref p), some (.ref g), o4] ∧ Same H H' ∧ H g = none ∧ LogF C CW H' g ns h (qs.take i)) ⟨g0, none, rfl, s1, hg0, lf⟩ (fun i σ H' _ ⟨_, _, _, s2, _⟩ => .of (s2 _ _ ep)) ?_ ?_
  · rintro i x σ H' hx ⟨g, o4, rfl, s2, hg, lf⟩
    obtain ⟨q1, hq1, t, rfl, et⟩ := pq.get hx
    have et2 := s2 _ _ et
    obtain ⟨dx, w2, tp, tc, pv2, eg, rest⟩ := id lf
    have okn : okPs (can0 ns h) (qs.take i ++ [(q1.1, q1.2)]) := by
      have := okPs_take ok (i + 1)
      rw [take_snoc hq1] at this
      exact this
    refine ⟨_, rfl, g, dx, _, rfl, eg, rfl, _, rfl, t, _, 0, .int q1.1, rfl, rfl, .of et2, rfl, _, rfl, t, _, 1, hiV q1.2, rfl, rfl, .of et2, rfl, g, q1.1, q1.2, ns, h, qs.take i, rfl, lf, hw, h8, okn, ?_, fun H3 g3 s3 hg3 lf3 => ?_⟩
    · have := List.length_take_le' i qs
      omega
    refine ⟨g3, _, rfl, s2.trans s3, s2.free hg3, ?_⟩
    rw [take_snoc hq1]
    exact lf3
  · rintro σ H' ⟨g, o4, rfl, s2, hg, lf⟩
    rw [pq.1, List.take_length] at lf
    exact ⟨_, rfl, q H' g s2 hg lf⟩
end
end K70

namespace K70
open PySem PySem.Spec PyProof.Rows L2
section
variable {X : Cx}
theorem ix_listK {K : PySem.W.Frag} (hK : X.K = K := by rfl) : IxR X (rIxL K) := hK ▸ ix_list
theorem ix_tupK {K : PySem.W.Frag} (hK : X.K = K := by rfl) : IxR X (rIxT K) := hK ▸ ix_tup
end
/-! ### the game's cases stay good -/
def Gd (c : List Int × Nat) : Prop := 1 ≤ c.1.length ∧ (c.1.length = 1 ∨ 1 ≤ c.2) ∧ c.1.Pairwise (· < ·)
theorem filter_pos {f : Int → Bool} {l : List Int} {a : Int} (h : a ∈ l) (hf : f a = true) : 1 ≤ (l.filter f).length := by
  have : a ∈ l.filter f := List.mem_filter.mpr ⟨h, hf⟩
  have := List.length_pos_of_mem this
  omega
theorem nxt_gd {can : List Int} {left : Nat} {p : Int} {o : Option Int} (hg : can.Pairwise (· < ·)) (h : okP can p o) (hl : 1 ≤ left) : Gd (nxt can left p o) := by
  cases o with
  | none => exact ⟨filter_pos (List.mem_of_mem_drop h.1) (decide_eq_true (Int.le_refl _)), .inr hl, hg.filter _⟩
  | some t =>
    by_cases e : left = 1
    · rw [show nxt can left p (some t) = ([t], 0) from if_pos e]
      exact ⟨Nat.le_refl _, .inl rfl, List.pairwise_singleton _ _⟩
    · rw [show nxt can left p (some t) = (can.filter (fun w => decide (w ≤ t)), left - 1) from if_neg e]
      exact ⟨filter_pos (h.2 t rfl).1 (decide_eq_true (Int.le_refl _)), .inr (by show 1 ≤ left - 1; omega), hg.filter _⟩
theorem can0_gd {ns : List Int} {h : Nat} (hw : okW ns) : Gd (can0 ns h) := by
  unfold can0
  split
  · exact ⟨Nat.le_refl _, .inl rfl, List.pairwise_singleton _ _⟩
  · exact ⟨hw.1, .inr (by show 1 ≤ h; omega), hw.2.2.2⟩
theorem runPs_gd {c : List Int × Nat} {qs : List (Int × Option Int)} (hc : Gd c) (ok : okPs c qs) : ∀ k, Gd (runPs c (qs.take k)) := by
  intro k
  induction k with
  | zero => exact hc
  | succ k ih =>
    by_cases hk : k < qs.length
    · have hq : qs[k]? = some qs[k] := List.getElem?_eq_getElem hk
      rw [take_snoc hq, runPs_snoc]
      obtain ⟨a, b⟩ := ok k _ hq
      exact nxt_gd ih.2.2 a b
    · rw [List.take_of_length_le (by omega)]
      rw [List.take_of_length_le (by omega)] at ih
      exact ih
theorem runPs_left {c : List Int × Nat} : ∀ qs : List (Int × Option Int), (runPs c qs).2 ≤ c.2 := by
  intro qs
  unfold runPs
  induction qs generalizing c with
  | nil => exact Nat.le_refl _
  | cons q r ih => exact Nat.le_trans (ih) nxt_left
theorem can0_left {ns : List Int} {h : Nat} : (can0 ns h).2 ≤ h := by
  unfold can0
  split
  · exact Nat.zero_le _
  · exact Nat.le_refl _
theorem numOk_okW {ns : List Int} (h : numOk ns) (hl : ns.length ≤ 24) : okW ns := ⟨h.1, hl, fun a ha => by have := h.2.1 a ha; omega, h.2.2⟩
theorem okW_more {ns ms : List Int} (h : numOk ns) (h2 : numOk ms) (l1 : ns.length ≤ 6) (l2 : ms.length ≤ 6) : okW (ms.map fun x => ns.getLastD 0 + x) ∧ okW (ns ++ ms.map fun x => ns.getLastD 0 + x) := by
  have la := h.2.1 _ (last_mem h.1)
  have p2 : (ms.map fun x => ns.getLastD 0 + x).Pairwise (· < ·) := by
    rw [List.pairwise_map]
    exact h2.2.2.imp fun z => by omega
  have b2 : ∀ a ∈ (ms.map fun x => ns.getLastD 0 + x), 1 ≤ a ∧ a ≤ 100000 := fun a ha => by
    obtain ⟨y, hy, rfl⟩ := List.mem_map.mp ha
    have := h2.2.1 y hy
    omega
  have lm : (ms.map fun x => ns.getLastD 0 + x).length = ms.length := List.length_map ..
  refine ⟨⟨by rw [lm]; exact h2.1, by rw [lm]; omega, b2, p2⟩, ⟨by rw [List.length_append]; have := h.1; omega, by rw [List.length_append, lm]; omega, fun a ha => ?_, List.pairwise_append.mpr ⟨h.2.2, p2, fun a ha b hb => ?_⟩⟩⟩
  · rcases List.mem_append.mp ha with z | z
    · have := h.2.1 a z; omega
    · exact b2 a z
  · obtain ⟨y, hy, rfl⟩ := List.mem_map.mp hb
    have := h2.2.1 y hy
    have := last_ge h.2.2 a ha
    omega
def big (N : Nat) : List Int := (List.range N).map fun k : Nat => (2 : Int) + 3 * (0 + (k : Int))
theorem big_len (N : Nat) : (big N).length = N := by unfold big; rw [List.length_map, List.length_range]
theorem big_ok {N : Nat} (h1 : 12 ≤ N) (h2 : N ≤ 24) : okW (big N) := by
  refine ⟨by rw [big_len]; omega, by rw [big_len]; exact h2, fun a ha => ?_, ?_⟩
  · obtain ⟨y, hy, rfl⟩ := List.mem_map.mp ha
    have := List.mem_range.mp hy
    omega
  · unfold big
    rw [List.pairwise_map]
    exact List.pairwise_lt_range.imp fun z => by omega
theorem okW_take {ns : List Int} (h : okW ns) {k : Nat} (hk : 1 ≤ k) : okW (ns.take k) := by
  have := h.1
  have := h.2.1
  refine ⟨by rw [List.length_take]; omega, by rw [List.length_take]; omega, fun a ha => h.2.2.1 a (List.mem_of_mem_take ha), h.2.2.2.sublist (List.take_sublist _ _)⟩
theorem okW_mid {ns : List Int} (h : okW ns) {j k : Nat} (hk : 1 ≤ k) (hj : j < ns.length) : okW ((ns.drop j).take k) := by
  have := h.2.1
  refine ⟨by rw [List.length_take, List.length_drop]; omega, by rw [List.length_take, List.length_drop]; omega, fun a ha => h.2.2.1 a (List.mem_of_mem_drop (List.mem_of_mem_take ha)), h.2.2.2.sublist ((List.take_sublist _ _).trans (List.drop_sublist _ _))⟩
theorem rg6 {N : Nat} (h1 : 12 ≤ N) (h2 : N ≤ 24) : ∃ n, RgC 6 (N : Nat) 6 n ∧ (∀ i, i < n → 6 + 6 * i < N) ∧ N ≤ 6 + 6 * n := by
  have : N = 12 ∨ N = 13 ∨ N = 14 ∨ N = 15 ∨ N = 16 ∨ N = 17 ∨ N = 18 ∨ N = 19 ∨ N = 20 ∨ N = 21 ∨ N = 22 ∨ N = 23 ∨ N = 24 := by omega
  rcases this with rfl | rfl | rfl | rfl | rfl | rfl | rfl | rfl | rfl | rfl | rfl | rfl | rfl
  · exact ⟨1, ⟨by decide, by decide, by decide, by decide⟩, by omega, by omega⟩
  · exact ⟨2, ⟨by decide, by decide, by decide, by decide⟩, by omega, by omega⟩
  · exact ⟨2, ⟨by decide, by decide, by decide, by decide⟩, by omega, by omega⟩
  · exact ⟨2, ⟨by decide, by decide, by decide, by decide⟩, by omega, by omega⟩
  · exact ⟨2, ⟨by decide, by decide, by decide, by decide⟩, by omega, by omega⟩
  · exact ⟨2, ⟨by decide, by decide, by decide, by decide⟩, by omega, by omega⟩
  · exact ⟨2, ⟨by decide, by decide, by decide, by decide⟩, by omega, by omega⟩
  · exact ⟨3, ⟨by decide, by decide, by decide, by decide⟩, by omega, by omega⟩
  · exact ⟨3, ⟨by decide, by decide, by decide, by decide⟩, by omega, by omega⟩
  · exact ⟨3, ⟨by decide, by decide, by decide, by decide⟩, by omega, by omega⟩
  · exact ⟨3, ⟨by decide, by decide, by decide, by decide⟩, by omega, by omega⟩
  · exact ⟨3, ⟨by decide, by decide, by decide, by decide⟩, by omega, by omega⟩
  · exact ⟨3, ⟨by decide, by decide, by decide, by decide⟩, by omega, by omega⟩
abbrev s_law_houses : Stmt := topS 38
theorem sc_law_houses : FnScope ["_law_script", "_law_state", "_law_numbers_here", "_law_widths_here", "_law_kind", "_law_more", "_law_houses_here", "_law_at", "_law_now", "_law_pairs_here", "_law_k", "_law_can", "_law_pair", "_law_log", "_law_number"] ["_law_script", "_law_state"] (defScope s_law_houses) := ⟨rfl, rfl, rfl, by decide +kernel, rfl, by decide +kernel, by decide +kernel⟩
def spHouses (K : PySem.W.Frag) (C : Addr) : Sp := fun vs H Q _ => ∃ (a st : Addr) (ns : List Int), vs = [.ref a, .ref st] ∧ Scr K H a ns ∧ StAt H st ∧ ∀ (H' : Hp) (t nl g c : Addr) (n l : Nat), Kp st H H' → StAt H' st → H t = none → H' t = some (.tup [.ref nl, .ref g, .ref c]) → LogAt C H' g n l →
  H' c = some (.tup [.int (n : Nat), .int (l : Nat)]) → 1 ≤ n → n ≤ 24 → l ≤ 8 → (n = 1 ∨ 1 ≤ l) → Q (.ref t) H'
section
variable {P : Program} {w : World} {K : PySem.W.Frag} {mg : Str → Option Value} {base : Heap} {f C CW CN : Addr} {fd : FuncData}
theorem ok_law_houses (F : Fun K "_law_houses" "_law_houses" s_law_houses f fd) (T : Bs mg) (sf : PySem.W.selfFirst K CW = true) (a_law_draw : Av P w K mg base CX0 1 "_law_draw" ["_law_script", "_law_state", "_law_limit"] (spDraw K))
    (a_law_numbers : Av P w K mg base CX0 2 "_law_numbers" ["_law_script", "_law_state", "_law_most"] (spNums K)) (a_law_widths : Av P w K mg base CX0 6 "_law_widths" ["_law_numbers_here"] (spWid CW)) (m_or : AvM P w K mg base CX0 6 CW "__or__" ["self", "other"] (spOr CW))
    (a_law_first : Av P w K mg base CX0 1 "_law_first" ["_law_numbers_here", "_law_houses_here"] spFirst) (a_law_after : Av P w K mg base CX0 1 "_law_after" ["_law_now", "_law_probe", "_law_told"] spAfterL)
    (a_law_house_log : Av P w K mg base CX0 7 "_law_house_log" ["_law_widths_here", "_law_houses_here", "_law_pairs_here"] (spHLog C CW)) : FnOk P w K mg base CX0 8 f fd ["_law_script", "_law_state"] (spHouses K C) := by
  refine F.ok sc_law_houses (fun vs H Q E h => ?_) (fun cdv A outer s H vs Q E hr h => ?_)
  · obtain ⟨a, st, ns, rfl, _⟩ := h
    rfl
  obtain ⟨sc, st, ns, rfl, hsc, hst, q⟩ := h
  refine ⟨_, (pss_cons (ps_set (i := 2) sc_law_houses.nd rfl (.inr rfl) (a_law_numbers.call hr (by decide) pass0 (pa_cons (pv 0) (pa_cons (pv 1) (pa_cons pe_int pa_nil)))))
      (pss_cons (ps_set (i := 3) sc_law_houses.nd rfl (.inl rfl) (a_law_widths.call hr (by decide) pass0 (pa_cons (pv 2) pa_nil)))
      (pss_cons (ps_set (i := 4) sc_law_houses.nd rfl (.inl rfl) (a_law_draw.call hr (by decide) pass0 (pa_cons (pv 0) (pa_cons (pv 1) (pa_cons pe_int pa_nil)))))
      (pss_cons (ps_if (pt_cmpR op_eq (pv 4) pe_int (nomark _)) (pss_cons (ps_setLc (i := 5) (own := [("_law_number", 14)]) rfl sc_law_houses.nd rfl rfl (sw_true rfl rfl rfl (by decide +kernel)) (pi_list (a_law_numbers.call hr (by decide) pass0 (pa_cons (pv 0) (pa_cons (pv 1) (pa_cons pe_int pa_nil))))) (blkOk_by (N := ["_law_script", "_law_state", "_law_numbers_here", "_law_widths_here", "_law_kind", "_law_more", "_law_houses_here", "_law_at", "_law_now", "_law_pairs_here", "_law_k", "_law_can", "_law_pair", "_law_log", "_law_number"]) (sc := defScope s_law_houses) (by decide +kernel)) (fun _ _ _ _ _ => (pg_name (i := 14) sc_law_houses.nd rfl (.inl rfl))) (fun _ _ _ _ _ => pts_nil) (fun _ _ _ _ _ => (pe_op op_add (pe_ix (ix_listK (K := K)) (pv 2) (pe_un un_neg pe_int) (fun _ _ => rfl)) (pv 14))))
      (pss_cons (ps_set (i := 2) sc_law_houses.nd rfl (.inr rfl) (pe_op op_cat (pv 2) (pv 5)))
      (pss_one (ps_set (i := 3) sc_law_houses.nd rfl (.inl rfl) (pe_op (m_or.or_ hr (by decide) sf pass0) (pv 3) (a_law_widths.call hr (by decide) pass0 (pa_cons (pv 5) pa_nil))))))) pss_nil)
      (pss_cons (ps_set (i := 6) sc_law_houses.nd rfl (.inl rfl) (a_law_draw.call hr (by decide) pass0 (pa_cons (pv 0) (pa_cons (pv 1) (pa_cons pe_int pa_nil)))))
      (pss_cons (ps_if (pt_cmpR op_eq (pv 4) pe_int (nomark _)) (pss_cons (ps_set (i := 6) sc_law_houses.nd rfl (.inl rfl) pe_int)
      (pss_cons (ps_set (i := 2) sc_law_houses.nd rfl (.inr rfl) (pe_lc (own := [("_law_at", 7)]) rfl sc_law_houses.nd (pi_range1 (by rfl) T.range (pa_cons (pe_op op_add pe_int (a_law_draw.call hr (by decide) pass0 (pa_cons (pv 0) (pa_cons (pv 1) (pa_cons pe_int pa_nil))))) pa_nil)) (blkOk_by (N := ["_law_script", "_law_state", "_law_numbers_here", "_law_widths_here", "_law_kind", "_law_more", "_law_houses_here", "_law_at", "_law_now", "_law_pairs_here", "_law_k", "_law_can", "_law_pair", "_law_log", "_law_number"]) (sc := defScope s_law_houses) (by decide +kernel)) (fun _ _ _ _ _ => (pg_name (i := 7) sc_law_houses.nd rfl (.inl rfl))) (fun _ _ _ _ _ => pts_nil) (fun _ _ _ _ _ => (pe_op op_add pe_int (pe_op op_mul pe_int (pv 7))))))
      (pss_cons (ps_set (i := 3) sc_law_houses.nd rfl (.inl rfl) (a_law_widths.call hr (by decide) pass0 (pa_cons (pe_slice sl_list (pv 2) po_none (po_some pe_int)) pa_nil)))
      (pss_one (ps_for PassesOwn.never rfl (pi_range3 (by rfl) T.range (pa_cons pe_int (pa_cons (pe_callB call_len_seq (by rfl) T.len bo_len (pa_cons (pv 2) pa_nil)) (pa_cons pe_int pa_nil)))) (pg_name (i := 7) sc_law_houses.nd rfl (.inl rfl)) (pss_one (ps_set (i := 3) sc_law_houses.nd rfl (.inl rfl) (pe_op (m_or.or_ hr (by decide) sf pass0) (pv 3) (a_law_widths.call hr (by decide) pass0 (pa_cons (pe_slice sl_list (pv 2) (po_some (pv 7)) (po_some (pe_op op_add (pv 7) pe_int))) pa_nil)))))))))) pss_nil)
      (pss_cons (ps_set (i := 8) sc_law_houses.nd rfl (.inl rfl) (a_law_first.call hr (by decide) pass0 (pa_cons (pv 2) (pa_cons (pv 6) pa_nil))))
      (pss_cons (ps_set (i := 9) sc_law_houses.nd rfl (.inl rfl) (pe_lst pa_nil))
      (pss_cons (ps_for PassesOwn.never rfl (pi_range1 (by rfl) T.range (pa_cons (a_law_draw.call hr (by decide) pass0 (pa_cons (pv 0) (pa_cons (pv 1) (pa_cons pe_int pa_nil)))) pa_nil)) (pg_name (i := 10) sc_law_houses.nd rfl (.inl rfl)) (pss_cons (ps_set (i := 11) sc_law_houses.nd rfl (.inl rfl) (pe_ix ix_tup (pv 8) pe_int (fun _ _ => rfl)))
      (pss_one (ps_if (pt_cmpR op_gt (pe_callB call_len_seq (by rfl) T.len bo_len (pa_cons (pv 11) pa_nil)) pe_int (nomark _)) (pss_cons (ps_set (i := 7) sc_law_houses.nd rfl (.inl rfl) (pe_op op_add pe_int (a_law_draw.call hr (by decide) pass0 (pa_cons (pv 0) (pa_cons (pv 1) (pa_cons (pe_op op_sub (pe_callB call_len_seq (by rfl) T.len bo_len (pa_cons (pv 11) pa_nil)) pe_int) pa_nil))))))
      (pss_cons (ps_set (i := 12) sc_law_houses.nd rfl (.inl rfl) (pe_tup (pa_cons (pe_ix ix_list (pv 11) (pv 7) (fun _ _ => rfl)) (pa_cons (pe_ix ix_list (pe_lst (pa_cons pe_non (pa_cons (pe_ix ix_list (pv 11) (a_law_draw.call hr (by decide) pass0 (pa_cons (pv 0) (pa_cons (pv 1) (pa_cons (pv 7) pa_nil)))) (fun _ _ => rfl)) pa_nil))) (a_law_draw.call hr (by decide) pass0 (pa_cons (pv 0) (pa_cons (pv 1) (pa_cons pe_int pa_nil)))) (fun _ _ => rfl)) pa_nil))))
      (pss_cons (ps_set (i := 8) sc_law_houses.nd rfl (.inl rfl) (a_law_after.call hr (by decide) pass0 (pa_cons (pv 8) (pa_cons (pe_ix ix_tup (pv 12) pe_int (fun _ _ => rfl)) (pa_cons (pe_ix ix_tup (pv 12) pe_int (fun _ _ => rfl)) pa_nil)))))
      (pss_one (ps_expr (pe_bm PySem.F.plainAttrs_list PySem.F.slot_list_append PySem.F.type_list_append mt_append (pv 9) (pa_cons (pv 12) pa_nil))))))) pss_nil))))
      (pss_cons (ps_set (i := 13) sc_law_houses.nd rfl (.inl rfl) (a_law_house_log.call hr (by decide) pass0 (pa_cons (pv 3) (pa_cons (pv 6) (pa_cons (pv 9) pa_nil)))))
      (pss_one (ps_ret (pe_tup (pa_cons (pv 2) (pa_cons (pv 13) (pa_cons (pe_tup (pa_cons (pe_callB call_len_seq (by rfl) T.len bo_len (pa_cons (pe_ix ix_tup (pv 8) pe_int (fun _ _ => rfl)) pa_nil)) (pa_cons (pe_ix ix_tup (pv 8) pe_int (fun _ _ => rfl)) pa_nil))) pa_nil)))))))))))))))), ?_⟩
  have hnlst : ∀ {nl : Addr}, H nl = none → nl ≠ st := fun h => hst.ne_none h
  refine ⟨_, rfl, _, rfl, sc, st, ns, 6, rfl, hsc, hst, by decide, by decide, fun H1 nl ms k1 st1 hnl e1 no lm => ?_⟩
  have nst := hnlst hnl
  refine ⟨_, rfl, nl, ms, rfl, e1, numOk_okW no (by omega), lm, fun H2 w1 s2 hw1 wa => ?_⟩
  have k2 : Kp st H H2 := k1.trans (Kp.same s2)
  have st2 := st1.same s2
  refine ⟨_, rfl, _, rfl, sc, st, ns, 8, rfl, hsc.kp hst k2, st2, by decide, by decide, fun kd H3 d0 d1 k3 st3 => ?_⟩
  have k3' := k2.trans k3
  have wa3 := wa.kp st2 k3
  have e3 := k3 _ _ nst (s2 _ _ e1)
  refine ⟨_, rfl, rfl, _, rfl, iteD (fun ckd => ?_) fun ckd => ?_⟩
  case' refine_1 =>
    refine ⟨_, rfl, _, rfl, sc, st, ns, 6, rfl, hsc.kp hst k3', st3, by decide, by decide, fun H4 ml mm k4 st4 hml e4 no4 lm4 => ⟨ml, rfl, ⟨_, .of e4⟩, fun D hD => ?_⟩⟩
    have k4' := k3'.trans k4
    have en4 := k4 _ _ nst e3
    have okm := okW_more no no4 lm lm4
    refine lc_list (K := K) (a := ml) (xs := mm.map V.int) (fun i H' => H' D = some (.lst (((mm.take i).map fun x => ms.getLastD 0 + x).map V.int)) ∧ Same H4 H') ⟨upd_same, same_new hD _⟩ (fun i H' _ ⟨_, s5⟩ => .of (s5 _ _ e4)) ?_ ?_
    · rintro i x H' hx ⟨eD, s5⟩
      obtain ⟨y, hy, rfl⟩ := take_ints hx
      refine ⟨rfl, _, rfl, 1, rfl, nl, _, -1, _, rfl, rfl, .of (s5 _ _ en4), atI_last no.1, _, rfl, _, _, rfl, rfl, _, eD, small1000 (by rw [List.length_map, List.length_map]; have := List.length_take_le' i mm; omega), ?_, s5.updL hD⟩
      rw [upd_same, take_snoc hy, List.map_append, List.map_append]
      rfl
    rintro H5 ⟨eD, s5⟩
    rw [List.length_map, List.take_length] at eD
    have st5 := st4.same s5
    have k5' := k4'.trans (Kp.same s5)
    refine ⟨_, rfl, _, rfl, nl, D, _, _, rfl, rfl, s5 _ _ en4, eD, two_line (by rw [List.length_map, List.length_map, List.length_map]; omega), fun p hp => ?_⟩
    rw [← List.map_append]
    have s6 := same_new hp (.lst ((ms ++ mm.map fun x => ms.getLastD 0 + x).map V.int))
    have e6 := upd_same (H := H5) (a := p) (o := .lst ((ms ++ mm.map fun x => ms.getLastD 0 + x).map V.int))
    have pst : p ≠ st := st5.ne_none hp
    generalize upd H5 p (.lst ((ms ++ mm.map fun x => ms.getLastD 0 + x).map V.int)) = H6 at s6 e6 ⊢
    refine ⟨_, rfl, _, rfl, D, _, rfl, s6 _ _ eD, okm.1, by rw [List.length_map]; omega, fun H7 w2 s7 hw2 wa2 => ?_⟩
    have wa7 := ((((wa3.kp st3 k4).same s5).same s6).same s7)
    obtain ⟨dx, tx, ew1, etx⟩ := id wa7
    obtain ⟨dy, ty, ew2, ety⟩ := id wa2
    refine ⟨w1, w2, dx, dy, _, _, rfl, rfl, ew1, ew2, w1, w2, ms, _, rfl, wa7, wa2, okm.2, fun H8 w3 s8 hw3 waB0 => ?_⟩
    have k8' := k5'.trans (Kp.same ((s6.trans s7).trans s8))
    have st8 := ((st5.same s6).same s7).same s8
    refine ⟨_, rfl, _, rfl, sc, st, ns, 9, rfl, hsc.kp hst k8', st8, by decide, by decide, fun hI H9 h0 h1 k9 stB => ?_⟩
    have kB := k8'.trans k9
    have waB := waB0.kp st8 k9
    have enB := k9 _ _ pst (s8 _ _ (s7 _ _ e6))
    have okB := okm.2
    obtain ⟨hh, rfl⟩ : ∃ hh : Nat, hI = (hh : Nat) := ⟨hI.toNat, by omega⟩
    have h8 : hh ≤ 8 := by omega
    refine ⟨_, rfl, rfl, _, rfl, iteD (fun c => absurd (V.int.inj ckd ▸ V.int.inj c) (by decide)) fun _ => ?_⟩
    revert stB kB waB enB okB
    generalize (ms ++ mm.map fun x => ms.getLastD 0 + x) = msB
    generalize p = NL
    generalize w3 = WW
    generalize H9 = HB
    intro stB kB waB enB okB
  case' refine_2 =>
    refine ⟨_, rfl, _, rfl, sc, st, ns, 9, rfl, hsc.kp hst k3', st3, by decide, by decide, fun hI H9 h0 h1 k9 stB => ?_⟩
    have kB := k3'.trans k9
    have waB := wa3.kp st3 k9
    have enB := k9 _ _ nst e3
    have okB := numOk_okW no (show ms.length ≤ 24 by omega)
    obtain ⟨hh, rfl⟩ : ∃ hh : Nat, hI = (hh : Nat) := ⟨hI.toNat, by omega⟩
    have h8 : hh ≤ 8 := by omega
    refine ⟨_, rfl, rfl, _, rfl, iteD (fun c1 => ?_) fun c1 => ?_⟩
  case' refine_2.refine_2.refine_1 =>
    refine ⟨_, rfl, _, rfl, sc, st, ns, 13, rfl, hsc.kp hst kB, stB, by decide, by decide, fun dI H10 d0 d1 k10 st10 => ⟨_, _, rfl, rfl, _, rfl, by omega, by omega, fun D hD => ?_⟩⟩
    obtain ⟨N, hN, hN1, hN2⟩ : ∃ N : Nat, (12 + dI).toNat = N ∧ 12 ≤ N ∧ N ≤ 24 := ⟨(12 + dI).toNat, rfl, by omega, by omega⟩
    rw [hN]
    have k10' := kB.trans k10
    have wa10 := waB.kp stB k10
    refine lc_range (lo := 0) (n := N) (fun i H' => H' D = some (.lst ((big i).map V.int)) ∧ Same H10 H') ⟨upd_same, same_new hD _⟩ ?_ ?_
    · rintro i H' hi ⟨eD, s5⟩
      refine ⟨rfl, _, rfl, _, _, rfl, rfl, .inl (by decide), _, _, rfl, rfl, _, eD, small1000 (by rw [List.length_map, big_len]; omega), ?_, s5.updL hD⟩
      rw [upd_same]
      unfold big
      rw [List.range_succ, List.map_append, List.map_append]
      rfl
    rintro H11 ⟨eD, s11⟩
    have st11 := st10.same s11
    have k11 := k10'.trans (Kp.same s11)
    have Dst : D ≠ st := st10.ne_none hD
    have okb := big_ok hN1 hN2
    have bl := big_len N
    refine ⟨_, rfl, 6, rfl, D, _, rfl, .of eD, fun p hp => ?_⟩
    rw [show (6 : Int) = ((6 : Nat) : Int) from rfl, cut_to, ← List.map_take]
    have s12 := same_new hp (.lst (((big N).take 6).map V.int))
    have e12 := upd_same (H := H11) (a := p) (o := .lst (((big N).take 6).map V.int))
    generalize upd H11 p (.lst (((big N).take 6).map V.int)) = H12 at s12 e12 ⊢
    refine ⟨p, (big N).take 6, rfl, e12, okW_take okb (by decide), by rw [List.length_take]; omega, fun H13 w2 s13 hw2 wa13 => ?_⟩
    have st13 := (st11.same s12).same s13
    have k13 := k11.trans (Kp.same (s12.trans s13))
    have eD13 := s13 _ _ (s12 _ _ eD)
    obtain ⟨n, rg, hlt, hge⟩ := rg6 hN1 hN2
    refine ⟨_, rfl, D, _, rfl, .inl (.of eD13), 6, _, 6, n, rfl, by rw [List.length_map, bl]; exact rg, ?_⟩
    refine for_rangeC (lo := 6) (c := 6) (n := n) (fun j σ H' => ∃ (w3 : Addr) (o7 : Option V) (hh : Nat), hh ≤ 8 ∧ σ = [some (.ref sc), some (.ref st), some (.ref D), some (.ref w3), some (.int kd), none, some (.int (hh : Nat)), o7, none, none, none, none, none, none, none] ∧ Kp st H H' ∧ StAt H' st ∧ H' D = some (.lst ((big N).map V.int)) ∧ WAt CW H' w3 ((big N).take (6 + 6 * j)))
      ⟨w2, none, 2, by decide, rfl, k13, st13, eD13, wa13⟩ ?_ ?_
    · rintro j σ H' hj ⟨w3, o7, hh, h8, rfl, k, st', eD', wa'⟩
      have hjN := hlt j hj
      have ej : ((6 : Int) + (j : Nat) * 6) = ((6 + 6 * j : Nat) : Int) := by omega
      have ej2 : ((6 : Int) + (j : Nat) * 6 + 6) = ((6 + 6 * j + 6 : Nat) : Int) := by omega
      refine ⟨_, rfl, _, rfl, _, rfl, _, rfl, _, rfl, _, _, rfl, rfl, _, rfl, D, _, rfl, .of eD', fun p' hp' => ?_⟩
      have ecut : cutV ((big N).map V.int) (some ((6 : Int) + (j : Nat) * 6)) (some ((6 : Int) + (j : Nat) * 6 + 6)) = (((big N).drop (6 + 6 * j)).take 6).map V.int := by
        rw [ej2, ej, cut_mid _ _ _ (by rw [List.length_map, bl]; omega), ← List.map_drop, ← List.map_take, Nat.add_sub_cancel_left]
      generalize e14 : L2.upd H' p' _ = H14
      have s12 : Same H' H14 := by rw [← e14]; exact same_new hp' _
      have e12 : H14 p' = some (.lst ((((big N).drop (6 + 6 * j)).take 6).map V.int)) := by
        rw [← e14, upd_same]
        exact congrArg (fun z => some (HO.lst z)) ecut
      refine ⟨p', ((big N).drop (6 + 6 * j)).take 6, rfl, e12, okW_mid okb (by decide) (by rw [bl]; exact hjN), by rw [List.length_take]; omega, fun H15 w4 s15 hw4 wa15 => ?_⟩
      have wa3' := (wa'.same s12).same s15
      obtain ⟨dx, tx, ew1, etx⟩ := id wa3'
      obtain ⟨dy, ty, ew2, ety⟩ := id wa15
      have et : (big N).take (6 + 6 * j) ++ ((big N).drop (6 + 6 * j)).take 6 = (big N).take (6 + 6 * (j + 1)) := by
        rw [show 6 + 6 * (j + 1) = (6 + 6 * j) + 6 by omega]
        exact List.take_add.symm
      refine ⟨w3, w4, dx, dy, _, _, rfl, rfl, ew1, ew2, w3, w4, _, _, rfl, wa3', wa15, by rw [et]; exact okW_take okb (by omega), fun H16 w5 s16 hw5 wa16 => ?_⟩
      rw [et] at wa16
      have sA := (s12.trans s15).trans s16
      exact ⟨w5, _, hh, h8, rfl, k.trans (Kp.same sA), st'.same sA, sA _ _ eD', wa16⟩
    rintro σ H' ⟨w3, o7, hh, h8, rfl, kC, stC, eC, waC⟩
    rw [List.take_of_length_le (by rw [bl]; exact hge)] at waC
    have okC := okb
    revert kC stC eC waC okC
    generalize big N = msB
    generalize D = NL
    generalize w3 = WW
    generalize H' = HB
    intro kB stB enB waB okB
  case' refine_2.refine_2.refine_2 =>
    revert stB kB waB enB okB
    generalize ms = msB
    generalize nl = NL
    generalize w1 = WW
    generalize H9 = HB
    intro stB kB waB enB okB
  all_goals
    refine ⟨_, rfl, _, rfl, NL, msB, hh, rfl, enB, okB.1, by have := okB.2.1; omega, fun HA t c sA ht hc et ec => ?_⟩
    refine ⟨two_line (by show 0 ≤ 1000; decide), fun pl hpl => ?_⟩
    have stA := stB.same sA
    have kA := kB.trans (Kp.same sA)
    have plst : pl ≠ st := stA.ne_none hpl
    have hpl0 : H pl = none := kA.free stA hpl
    have cst0 : c ≠ st := stB.ne_none hc
    have cpl0 : c ≠ pl := ne_of_none ec hpl
    have sN := same_new hpl (.lst [])
    have eplN := upd_same (H := HA) (a := pl) (o := .lst [])
    generalize L2.upd HA pl (.lst []) = HC at sN eplN ⊢
    have stC := stA.same sN
    have kC := kA.trans (Kp.same sN)
    refine ⟨_, rfl, _, rfl, sc, st, ns, 3, rfl, hsc.kp hst kC, stC, by decide, by decide, fun cnt HD b0 b1 kD stD => ⟨cnt, rfl, by omega, by omega, ?_⟩⟩
    have waC := (waB.same sA).same sN
    refine for_range (lo := 0) (n := cnt.toNat) (fun j σ H' => ∃ (t c : Addr) (o5 o7 o10 o11 o12 : Option V) (pvs : List V) (qs : List (Int × Option Int)), σ = [some (.ref sc), some (.ref st), some (.ref NL), some (.ref WW), some (.int kd), o5, some (.int (hh : Nat)), o7, some (.ref t), some (.ref pl), o10, o11, o12, none, none] ∧
      Kp st H H' ∧ StAt H' st ∧ WAt CW H' WW msB ∧ H' pl = some (.lst pvs) ∧ PqIt H' pvs qs ∧ qs.length ≤ j ∧ okPs (can0 msB hh) qs ∧ H' t = some (.tup [.ref c, .int ((runPs (can0 msB hh) qs).2 : Nat)]) ∧ H' c = some (.lst ((runPs (can0 msB hh) qs).1.map V.int)) ∧ c ≠ st ∧ c ≠ pl)
      ⟨t, c, _, _, _, _, _, [], [], rfl, kC.trans kD, stD, waC.kp stC kD, kD _ _ plst eplN, PqIt.nil, Nat.le_refl _, okPs_nil _, kD _ _ (stC.ne_oth (sN _ _ et) fun _ z => nomatch z) (sN _ _ et), kD _ _ cst0 (sN _ _ ec), cst0, cpl0⟩ ?_ ?_
    · rintro j σ H' hj ⟨t, c, o5, o7, o10, o11, o12, pvs, qs, rfl, k, s', wa, epl, pq, ql, ok, et, ec, cst, cpl⟩
      have gd := runPs_gd (can0_gd (h := hh) okB) ok qs.length
      rw [List.take_length] at gd
      have l24 : (runPs (can0 msB hh) qs).1.length ≤ 24 := runPs_len (can0_len okB) (by decide) qs
      refine ⟨_, rfl, t, _, 0, _, rfl, rfl, .of et, rfl, ?_⟩
      refine ⟨_, rfl, c, _, rfl, .inl (.of ec), _, _, rfl, rfl, _, rfl, iteD (fun cl => ?_) fun _ => ⟨t, c, _, _, _, _, _, pvs, qs, rfl, k, s', wa, epl, pq, by omega, ok, et, ec, cst, cpl⟩⟩
      have hl : 1 < (runPs (can0 msB hh) qs).1.length := by rw [List.length_map] at cl; omega
      have hleft : 1 ≤ (runPs (can0 msB hh) qs).2 := gd.2.1.resolve_left (by omega)
      refine ⟨_, rfl, _, rfl, _, rfl, c, _, rfl, .inl (.of ec), _, _, rfl, rfl, sc, st, ns, _, rfl, hsc.kp hst k, s', by rw [List.length_map]; omega, by rw [List.length_map]; omega, fun d H4 d0 d1 k4 st4 => ⟨_, _, rfl, rfl, ?_⟩⟩
      rw [List.length_map] at d1
      obtain ⟨m, rfl⟩ : ∃ m : Nat, d = (m : Int) := ⟨d.toNat, by omega⟩
      have hm : m + 1 < (runPs (can0 msB hh) qs).1.length := by omega
      have ex : (runPs (can0 msB hh) qs).1[m + 1]? = some (runPs (can0 msB hh) qs).1[m + 1] := List.getElem?_eq_getElem hm
      have hatx : ∀ x, (runPs (can0 msB hh) qs).1[m + 1]? = some x → atI ((runPs (can0 msB hh) qs).1.map V.int) (1 + (m : Int)) = some (.int x) := fun x hx => by
        rw [show (1 + (m : Int)) = ((m + 1 : Nat) : Int) by omega]
        exact atI_nat (by rw [List.getElem?_map, hx]; rfl)
      have ec4 := k4 _ _ cst ec
      have et4 := k4 _ _ (s'.ne_oth et fun _ z => nomatch z) et
      refine ⟨_, rfl, _, rfl, c, _, _, .int (runPs (can0 msB hh) qs).1[m + 1], rfl, rfl, .of ec4, hatx _ ex, ?_⟩
      have kk4 := k.trans k4
      refine ⟨_, rfl, _, rfl, _, rfl, _, rfl, sc, st, ns, 1 + (m : Int), rfl, hsc.kp hst kk4, st4, by omega, by omega, fun eI H5 e0 e1 k5 st5 => ?_⟩
      obtain ⟨e, rfl⟩ : ∃ e : Nat, eI = (e : Int) := ⟨eI.toNat, by omega⟩
      have he : e < m + 1 := by omega
      have hel : e < (runPs (can0 msB hh) qs).1.length := by omega
      have ey : (runPs (can0 msB hh) qs).1[e]? = some (runPs (can0 msB hh) qs).1[e] := List.getElem?_eq_getElem hel
      have ylt : (runPs (can0 msB hh) qs).1[e] < (runPs (can0 msB hh) qs).1[m + 1] := List.pairwise_iff_getElem.mp gd.2.2 e (m + 1) hel hm he
      have okx : ∀ o, (o = none ∨ o = some (runPs (can0 msB hh) qs).1[e]) → okP (runPs (can0 msB hh) qs).1 (runPs (can0 msB hh) qs).1[m + 1] o := fun o ho => by
        refine ⟨List.mem_of_getElem? (i := m) (by rw [List.getElem?_drop, Nat.add_comm 1 m]; exact ex), fun t' ht' => ?_⟩
        rcases ho with z | z
        · rw [z] at ht'; cases ht'
        · rw [z] at ht'; cases ht'
          exact ⟨List.mem_of_getElem? ey, ylt⟩
      generalize (runPs (can0 msB hh) qs).1[m + 1] = x at okx ⊢
      have ec5 := k5 _ _ cst ec4
      have et5 := k5 _ _ (st4.ne_oth et4 fun _ z => nomatch z) et4
      refine ⟨c, _, _, .int (runPs (can0 msB hh) qs).1[e], rfl, rfl, .of ec5, atI_nat (by rw [List.getElem?_map, ey]; rfl), two_line (by show 2 ≤ 1000; decide), fun L hL => ?_⟩
      generalize (runPs (can0 msB hh) qs).1[e] = y at okx ⊢
      have s6 := same_new hL (.lst [.non, .int y])
      have eL6 := upd_same (H := H5) (a := L) (o := .lst [.non, .int y])
      generalize L2.upd H5 L (.lst [.non, .int y]) = H6 at s6 eL6 ⊢
      have Lst : L ≠ st := st5.ne_none hL
      have st6 := st5.same s6
      have kk6 := (kk4.trans k5).trans (Kp.same s6)
      refine ⟨_, rfl, _, rfl, sc, st, ns, 2, rfl, hsc.kp hst kk6, st6, by decide, by decide, fun b H7 b0 b1 k7 st7 => ?_⟩
      obtain ⟨o, ho, hat⟩ : ∃ o : Option Int, (o = none ∨ o = some y) ∧ atI [V.non, .int y] b = some (hiV o) := by
        have : b = 0 ∨ b = 1 := by omega
        rcases this with rfl | rfl
        · exact ⟨none, .inl rfl, rfl⟩
        · exact ⟨some y, .inr rfl, rfl⟩
      have okxo := okx o ho
      refine ⟨L, _, b, hiV o, rfl, rfl, .of (k7 _ _ Lst eL6), hat, two_line (by show 2 ≤ 1000; decide), fun p hp => ?_⟩
      have s8 := same_new hp (.tup [.int x, hiV o])
      have ep8 := upd_same (H := H7) (a := p) (o := .tup [.int x, hiV o])
      generalize L2.upd H7 p (.tup [.int x, hiV o]) = H8 at s8 ep8 ⊢
      have st8 := st7.same s8
      have k48 : Kp st H' H8 := (((k4.trans k5).trans (Kp.same s6)).trans k7).trans (Kp.same s8)
      have tkeep : ∀ b xs, H' b = some (.tup xs) → H8 b = some (.tup xs) := fun b xs e => k48 _ _ (s'.ne_oth e fun _ z => nomatch z) e
      refine ⟨_, rfl, _, rfl, p, _, 0, .int x, rfl, rfl, .of ep8, rfl, _, rfl, p, _, 1, hiV o, rfl, rfl, .of ep8, rfl, t, c, _, _, x, o, rfl, tkeep _ _ et, k48 _ _ cst ec, by omega, okxo, hleft, fun H9 t9 c9 s9 ht9 hc9 et9 ec9 => ?_⟩
      have epl8 := k48 _ _ plst epl
      have epl9 := s9 _ _ epl8
      refine ⟨_, rfl, .inl ⟨rfl, _, SqL.of epl9⟩, _, rfl, pl, _, _, rfl, rfl, epl9, small1000 (by rw [pq.1]; omega), ?_⟩
      have c9st : c9 ≠ st := st8.ne_none hc9
      have c9pl : c9 ≠ pl := (ne_of_none epl8 hc9).symm
      have st9 := st8.same s9
      have tup9 : ∀ b xs, H9 b = some (.tup xs) → (L2.upd H9 pl (.lst (pvs ++ [.ref p]))) b = some (.tup xs) := fun b xs e => by rw [upd_ne (ne_of e epl9 fun z => nomatch z)]; exact e
      have er : runPs (can0 msB hh) (qs ++ [(x, o)]) = nxt (runPs (can0 msB hh) qs).1 (runPs (can0 msB hh) qs).2 x o := runPs_snoc _ _ _
      have waf : WAt CW (L2.upd H9 pl (.lst (pvs ++ [.ref p]))) WW msB := by
        obtain ⟨dw, tw, ew, etw⟩ := (wa.kp s' k48).same s9
        exact ⟨dw, tw, by rw [upd_ne (ne_of ew epl9 fun z => nomatch z)]; exact ew, tup9 _ _ etw⟩
      refine ⟨t9, c9, _, _, _, _, _, pvs ++ [.ref p], qs ++ [(x, o)], rfl, ?_, st9.upd plst, waf, upd_same, ?_, by rw [List.length_append]; show qs.length + 1 ≤ j + 1; omega, okPs_snoc ok okxo hleft, ?_, ?_, c9st, c9pl⟩
      · exact ((k.trans k48).trans (Kp.same s9)).updR hpl0
      · exact (pq.keep fun b xs e => tup9 _ _ (s9 _ _ (tkeep _ _ e))).snoc ⟨p, rfl, tup9 _ _ (s9 _ _ ep8)⟩
      · rw [er]; exact tup9 _ _ et9
      · rw [er, upd_ne c9pl]; exact ec9
    · rintro σ H' ⟨t, c, o5, o7, o10, o11, o12, pvs, qs, rfl, k, s', wa, epl, pq, ql, ok, et, ec, cst, cpl⟩
      have gd := runPs_gd (can0_gd (h := hh) okB) ok qs.length
      rw [List.take_length] at gd
      have l24 : (runPs (can0 msB hh) qs).1.length ≤ 24 := runPs_len (can0_len okB) (by decide) qs
      have ll : (runPs (can0 msB hh) qs).2 ≤ hh := Nat.le_trans (runPs_left qs) can0_left
      refine ⟨_, rfl, _, rfl, _, rfl, WW, pl, msB, hh, qs, pvs, rfl, wa, okB, h8, epl, pq, ok, by omega, fun HF g sF hg lf => ?_⟩
      have et' := sF _ _ et
      have ec' := sF _ _ ec
      refine ⟨_, rfl, _, rfl, _, rfl, t, _, 0, _, rfl, rfl, .of et', rfl, c, _, rfl, .inl (.of ec'), _, rfl, t, _, 1, _, rfl, rfl, .of et', rfl, two_line (by show 2 ≤ 1000; decide), fun tc htc => ⟨two_line (by show 3 ≤ 1000; decide), fun tr htr => ?_⟩⟩
      have sT := same_new htc (.tup [.int (((runPs (can0 msB hh) qs).1.map V.int).length : Nat), .int ((runPs (can0 msB hh) qs).2 : Nat)])
      have eT := upd_same (H := HF) (a := tc) (o := .tup [.int (((runPs (can0 msB hh) qs).1.map V.int).length : Nat), .int ((runPs (can0 msB hh) qs).2 : Nat)])
      rw [List.length_map] at sT eT htr
      rw [List.length_map]
      generalize L2.upd HF tc (.tup [.int ((runPs (can0 msB hh) qs).1.length : Nat), .int ((runPs (can0 msB hh) qs).2 : Nat)]) = HT at sT eT htr ⊢
      have kT := (k.trans (Kp.same sF)).trans (Kp.same sT)
      have stT := (s'.same sF).same sT
      have sG := same_new htr (.tup [.ref NL, .ref g, .ref tc])
      refine q _ tr NL g tc _ _ (kT.trans (Kp.same sG)) (stT.same sG) (kT.free stT htr) upd_same ((lf.at_.same sT).same sG) (sG _ _ eT) gd.1 l24 (by omega) gd.2.1
end
end K70

namespace K70
open PySem PySem.Spec PyProof.Rows L2
abbrev s_law_least : Stmt := topS 40
theorem sc_law_least : FnScope ["_law_known", "_law_case", "_law_best", "_law_below", "_law_worst", "_law_after_here"] ["_law_known", "_law_case"] (defScope s_law_least) := ⟨rfl, rfl, rfl, by decide +kernel, rfl, by decide +kernel, by decide +kernel⟩
/-- the known least counts of the cases cs -/
structure Kn (kvs : List (List Key × V)) (cs : List (Nat × Nat)) : Prop where
  nd : cs.Nodup
  box : ∀ c ∈ cs, c.1 ≤ 24 ∧ c.2 ≤ 8
  len : kvs.length ≤ cs.length
  val : ∀ c : Nat × Nat, valV kvs (key c) = if c ∈ cs then some (.int (least c : Nat)) else none
theorem Kn.put {kvs : List (List Key × V)} {cs : List (Nat × Nat)} (h : Kn kvs cs) {c : Nat × Nat} (hc : c ∉ cs) (hb : c.1 ≤ 24 ∧ c.2 ≤ 8) : Kn (putK kvs (key c) (.int (least c : Nat))) (cs ++ [c]) := by
  refine ⟨nd_snoc h.nd hc, fun d hd => ?_, ?_, fun d => ?_⟩
  · rcases List.mem_append.mp hd with z | z
    · exact h.box d z
    · rw [List.mem_singleton.mp z]; exact hb
  · have := length_putK kvs (key c) (.int (least c : Nat))
    have := h.len
    rw [List.length_append]
    show _ ≤ cs.length + 1
    omega
  · rw [valV_put]
    by_cases e : d = c
    · rw [if_pos (by rw [e]), if_pos (by rw [e]; simp), e]
    · rw [if_neg (fun z => e (key_inj z)), h.val d]
      have : (d ∈ cs ++ [c]) ↔ d ∈ cs := by simp [e]
      by_cases m : d ∈ cs
      · rw [if_pos m, if_pos (this.mpr m)]
      · rw [if_neg m, if_neg (fun z => m (this.mp z))]
theorem Kn.nil : Kn [] [] := ⟨List.nodup_nil, (fun c h => nomatch h), Nat.le_refl _, fun c => rfl⟩
theorem Kn.lt {kvs : List (List Key × V)} {cs : List (Nat × Nat)} (h : Kn kvs cs) : kvs.length ≤ 225 := Nat.le_trans h.len (nodup_box (N := 24) cs h.nd fun c hc => by have := h.box c hc; omega)
def oN : Option Nat → V
  | none => .non
  | some m => .int (m : Nat)
def spLeast (m : Nat) : Sp := fun vs H Q _ => ∃ (d s : Addr) (kvs : List (List Key × V)) (cs : List (Nat × Nat)) (n l : Nat), vs = [.ref d, .ref s] ∧ H d = some (.dT kvs) ∧ Kn kvs cs ∧ H s = some (.tup [.int (n : Nat), .int (l : Nat)]) ∧ 1 ≤ n ∧ n ≤ m ∧ n ≤ 24 ∧ l ≤ 8 ∧ (n = 1 ∨ 1 ≤ l) ∧
  ∀ (H' : Hp) (kvs' : List (List Key × V)) (cs' : List (Nat × Nat)), Kp d H H' → H' d = some (.dT kvs') → Kn kvs' cs' → (∀ c ∈ cs', c ∈ cs ∨ c.1 ≤ n) → Q (.int (least (n, l) : Nat)) H'
section
variable {P : Program} {w : World} {K : PySem.W.Frag} {mg : Str → Option Value} {base : Heap} {f C CW CN : Addr} {fd : FuncData}
theorem ok_law_least (F : Fun K "_law_least" "_law_least" s_law_least f fd) (T : Bs mg) (hm : mg "_law_least" = some (.ref f)) (kp : PySem.W.keepIn K (.ref f) = true) (hb : Binds K fd ["_law_known", "_law_case"] [])
    (a_law_next : Av P w K mg base CX0 1 "_law_next" ["_law_case", "_law_below"] spLed) : ∀ m, FnOk P w K mg base CX0 (m + 2) f fd ["_law_known", "_law_case"] (spLeast m) := by
  intro m
  induction m with
  | zero =>
    refine F.ok sc_law_least (fun vs H Q E h => ?_) (fun cdv A outer s H vs Q E hr h => ?_)
    · obtain ⟨d, s, kvs, cs, n, l, rfl, _⟩ := h
      rfl
    · obtain ⟨d, s, kvs, cs, n, l, rfl, _, _, _, h1, h2, _⟩ := h
      omega
  | succ m ih =>
    have a_law_least : Av P w K mg base CX0 (m + 2) "_law_least" ["_law_known", "_law_case"] (spLeast m) := ⟨f, fd, ih, hm, kp, hb⟩
    refine F.ok sc_law_least (fun vs H Q E h => ?_) (fun cdv A outer s H vs Q E hr h => ?_)
    · obtain ⟨d, s, kvs, cs, n, l, rfl, _⟩ := h
      rfl
    obtain ⟨d, s, kvs, cs, n, l, rfl, ed, kn, es, h1, hnm, h24, h8, hgd, q⟩ := h
    have hu := hu_of hr
    have sd : s ≠ d := ne_of es ed fun z => nomatch z
    refine ⟨_, (pss_cons (ps_if (pt_cmpR op_eq (pe_ix ix_tup (pv 1) pe_int (fun _ _ => rfl)) pe_int (nomark _)) (pss_one (ps_ret pe_int)) pss_nil)
      (pss_cons (ps_if (pt_cmp (pc_dnotin hu (pv 1) (pv 0))) (pss_cons (ps_set (i := 2) sc_law_least.nd rfl (.inl rfl) pe_non)
      (pss_cons (ps_for PassesOwn.never rfl (pi_range2 (by rfl) T.range (pa_cons pe_int (pa_cons (pe_ix ix_tup (pv 1) pe_int (fun _ _ => rfl)) pa_nil))) (pg_name (i := 3) sc_law_least.nd rfl (.inl rfl)) (pss_cons (ps_set (i := 4) sc_law_least.nd rfl (.inl rfl) pe_int)
      (pss_cons (ps_for PassesOwn.never rfl (pi_list (a_law_next.call hr (by omega) pass0 (pa_cons (pv 1) (pa_cons (pv 3) pa_nil)))) (pg_name (i := 5) sc_law_least.nd rfl (.inl rfl)) (pss_one (ps_set (i := 4) sc_law_least.nd rfl (.inl rfl) (pe_callB (call_max2 rfl) (by rfl) T.max bo_max (pa_cons (pe_callTy call_int1 (by rfl) T.int bo_int (pa_cons (pv 4) pa_nil)) (pa_cons (pe_callTy call_int1 (by rfl) T.int bo_int (pa_cons (a_law_least.call hr (by omega) pass0 (pa_cons (pv 0) (pa_cons (pv 5) pa_nil))) pa_nil)) pa_nil))))))
      (pss_one (ps_if (PW.pt (pw_or (pt_cmpR op_isN (pv 2) pe_non (nomark _)) (pw_or1 (pt_cmpR op_lt (pe_op op_add (pv 4) pe_int) (pv 2) (nomark _))))) (pss_one (ps_set (i := 2) sc_law_least.nd rfl (.inl rfl) (pe_op op_add (pv 4) pe_int))) pss_nil)))))
      (pss_one (ps_dput hu (pv 0) (pv 1) (pv 2) rfl)))) pss_nil)
      (pss_one (ps_ret (pe_dget hu (pv 0) (pv 1) (fun _ _ => rfl)))))), ?_⟩
    refine ⟨_, rfl, s, _, 0, _, rfl, rfl, .of es, rfl, rfl, _, rfl, iteD (fun c => ?_) fun c => ?_⟩
    · have n1 : n = 1 := by have := V.int.inj c; omega
      have := q H kvs cs (Kp.refl d H) ed kn fun c h => .inl h
      rw [show least (n, l) = 0 from least_one (by show n ≤ 1; omega)] at this
      exact this
    have n2 : 2 ≤ n := by
      have : n ≠ 1 := fun z => c (by rw [z]; rfl)
      omega
    have hl : 1 ≤ l := hgd.resolve_left (by omega)
    have fin : ∀ (H' : Hp) (kvs' : List (List Key × V)) (cs' : List (Nat × Nat)), Kp d H H' → H' d = some (.dT kvs') → Kn kvs' cs' → (∀ c ∈ cs', c ∈ cs ∨ c.1 ≤ n) → (n, l) ∈ cs' → DGet H' d (.ref s) (some (.int (least (n, l) : Nat))) ∧ Q (.int (least (n, l) : Nat)) H' := fun H' kvs' cs' k e kn' sub hin => by
      have g := DGet.t (k := key (n, l)) e (k _ _ sd es)
      rw [kn'.val, if_pos hin] at g
      exact ⟨g, q H' kvs' cs' k e kn' sub⟩
    refine ⟨_, rfl, _, rfl, d, _, rfl, DGet.t (k := key (n, l)) ed es, _, rfl, ?_⟩
    rw [kn.val]
    by_cases hin : (n, l) ∈ cs
    · rw [if_pos hin]
      refine iteF ?_
      obtain ⟨g, q2⟩ := fin H kvs cs (Kp.refl d H) ed kn (fun c h => .inl h) hin
      exact ⟨_, rfl, _, rfl, d, _, rfl, g, q2⟩
    rw [if_neg hin]
    refine iteT ?_
    refine ⟨_, rfl, s, _, 0, _, rfl, rfl, .of es, rfl, 1, (n : Nat), rfl, ⟨by omega, by omega, by omega, by omega⟩, ?_⟩
    refine for_range (lo := 1) (n := ((n : Int) - 1).toNat) (fun j σ H' => ∃ (kvs' : List (List Key × V)) (cs' : List (Nat × Nat)) (o3 o4 o5 : Option V), σ = [some (.ref d), some (.ref s), some (oN (bestTo least n l j)), o3, o4, o5] ∧ Kp d H H' ∧ H' d = some (.dT kvs') ∧ Kn kvs' cs' ∧ (∀ c ∈ cs', c ∈ cs ∨ c.1 < n))
      ⟨kvs, cs, none, none, none, rfl, Kp.refl d H, ed, kn, fun c h => .inl h⟩ ?_ ?_
    · rintro j σ H' hj ⟨kvs', cs', o3, o4, o5, rfl, k, ed', kn', sub⟩
      have ej : (1 : Int) + (j : Nat) = ((j + 1 : Nat) : Int) := by omega
      have es' := k _ _ sd es
      refine ⟨_, rfl, _, rfl, s, n, l, j + 1, congrArg (fun z => [V.ref s, V.int z]) ej, es', hl, by omega, by omega, fun H3 r xs s3 hr3 er sy => ?_⟩
      have rd : r ≠ d := (ne_of_none ed' hr3).symm
      refine ⟨r, rfl, ⟨_, .of er⟩, ?_⟩
      refine for_list (K := K) (a := r) (xs := xs) (fun i σ H4 => ∃ (kvs4 : List (List Key × V)) (cs4 : List (Nat × Nat)) (o5 : Option V), σ = [some (.ref d), some (.ref s), some (oN (bestTo least n l j)), some (.int (1 + (j : Nat))), some (.int (worst least ((led n l (j + 1)).take i) : Nat)), o5] ∧ Kp d H3 H4 ∧ H4 d = some (.dT kvs4) ∧ Kn kvs4 cs4 ∧ (∀ c ∈ cs4, c ∈ cs ∨ c.1 < n))
        ⟨kvs', cs', o5, rfl, Kp.refl d H3, s3 _ _ ed', kn', sub⟩ (fun i σ H4 _ ⟨_, _, _, _, k4, _⟩ => .of (k4 _ _ rd er)) ?_ ?_
      · rintro i x σ H4 hx ⟨kvs4, cs4, o5, rfl, k4, ed4, kn4, sub4⟩
        obtain ⟨c, hc, t, rfl, et⟩ := sy.get hx
        have td : t ≠ d := ne_of et (s3 _ _ ed') fun z => nomatch z
        have gc := led_good (n := n) (l := l) (b := j + 1) (by omega) (by omega) hl c (List.mem_of_getElem? hc)
        have gc2 : c.1 < n := gc.2.1
        have gc3 : c.2 ≤ l := gc.2.2
        have gc1 : 1 ≤ c.1 := gc.1.1
        refine ⟨_, rfl, .inl ⟨_, rfl, _, rfl, _, rfl, d, t, kvs4, cs4, c.1, c.2, rfl, ed4, kn4, k4 _ _ td et, gc1, by omega, by omega, by omega, gc.1.2, fun H5 kvs5 cs5 k5 ed5 kn5 sub5 => .inl ⟨_, rfl, _, _, rfl, ?_⟩⟩⟩
        refine ⟨kvs5, cs5, some (.ref t), ?_, k4.trans k5, ed5, kn5, fun e he => ?_⟩
        · rw [take_snoc hc, worst_snoc]
          exact congrArg (fun z => [some (V.ref d), some (V.ref s), some (oN (bestTo least n l j)), some (V.int (1 + (j : Nat))), some (V.int z), some (V.ref t)]) (by
            have el : least (c.1, c.2) = least c := rfl
            rw [Nat.max_def]
            split <;> split <;> omega)
        · rcases sub5 e he with z | z
          · exact sub4 e z
          · exact .inr (by omega)
      · rintro σ H4 ⟨kvs4, cs4, o5, rfl, k4, ed4, kn4, sub4⟩
        rw [sy.1, List.take_length]
        have kf := (k.trans (Kp.same s3)).trans k4
        have eb : bestTo least n l (j + 1) = some (better (worst least (led n l (j + 1)) + 1) (bestTo least n l j)) := rfl
        refine ⟨_, rfl, rfl, _, rfl, ?_⟩
        cases hb2 : bestTo least n l j with
        | none =>
          rw [hb2] at eb
          refine iteT ⟨_, rfl, _, _, rfl, rfl, kvs4, cs4, some (.int (1 + (j : Nat))), some (.int (worst least (led n l (j + 1)) : Nat)), o5, ?_, kf, ed4, kn4, sub4⟩
          rw [eb]
          rfl
        | some m0 =>
          rw [hb2] at eb
          refine iteF ⟨_, rfl, _, _, rfl, rfl, _, rfl, _, _, rfl, rfl, _, rfl, iteD (fun c => ?_) fun c => ?_⟩
          · refine ⟨_, rfl, _, _, rfl, rfl, kvs4, cs4, some (.int (1 + (j : Nat))), some (.int (worst least (led n l (j + 1)) : Nat)), o5, ?_, kf, ed4, kn4, sub4⟩
            rw [eb, show better (worst least (led n l (j + 1)) + 1) (some m0) = worst least (led n l (j + 1)) + 1 from if_pos (by omega)]
            rfl
          · refine ⟨kvs4, cs4, some (.int (1 + (j : Nat))), some (.int (worst least (led n l (j + 1)) : Nat)), o5, ?_, kf, ed4, kn4, sub4⟩
            rw [eb, show better (worst least (led n l (j + 1)) + 1) (some m0) = m0 from if_neg (by omega)]
    · rintro σ H' ⟨kvs', cs', o3, o4, o5, rfl, k, ed', kn', sub⟩
      have e1 : ((n : Int) - 1).toNat = n - 1 := by omega
      rw [e1, least_eq n2 hl]
      have hni : (n, l) ∉ cs' := fun z => by
        rcases sub _ z with y | y
        · exact hin y
        · exact absurd y (Nat.lt_irrefl _)
      have lz : kvs'.length < sizeLine := small1000 (by have := kn'.lt; omega)
      refine ⟨_, rfl, _, rfl, _, rfl, d, _, rfl, DPut.t (k := key (n, l)) ed' (k _ _ sd es) lz, ?_⟩
      have sub2 : ∀ c ∈ cs' ++ [(n, l)], c ∈ cs ∨ c.1 ≤ n := fun c hc => by
        rcases List.mem_append.mp hc with z | z
        · rcases sub c z with y | y
          · exact .inl y
          · exact .inr (by omega)
        · rw [List.mem_singleton.mp z]
          exact .inr (Nat.le_refl _)
      obtain ⟨g, q2⟩ := fin (upd H' d (.dT (putK kvs' (key (n, l)) (.int (least (n, l) : Nat))))) _ (cs' ++ [(n, l)]) (k.trans Kp.at) upd_same (kn'.put hni ⟨h24, h8⟩) sub2 (by simp)
      exact ⟨_, rfl, _, rfl, d, _, rfl, g, q2⟩
end
end K70

namespace K70
open PySem PySem.Spec PyProof.Rows L2
abbrev s_law_verdict : Stmt := topS 46
theorem sc_law_verdict : FnScope ["_law_pairs_here", "_law_v", "_law_start_here", "_law_tops_here", "_law_place", "_law_reason_here"] ["_law_pairs_here", "_law_v", "_law_start_here"] (defScope s_law_verdict) := ⟨rfl, rfl, rfl, by decide +kernel, rfl, by decide +kernel, by decide +kernel⟩
abbrev s_law_told_by : Stmt := topS 47
theorem sc_law_told_by : FnScope ["_law_log", "_law_v", "_law_pairs_here", "_law_told", "e"] ["_law_log", "_law_v", "_law_pairs_here"] (defScope s_law_told_by) := ⟨rfl, rfl, rfl, by decide +kernel, rfl, by decide +kernel, by decide +kernel⟩
def dueV : Option (Nat × Str) → List V
  | none => [.str "fine"]
  | some (k, x) => [.str "paper", .int (k : Nat), .str x]
def spVerdict : Sp := fun vs H Q _ => ∃ (p s : Addr) (i : Int) (ps : List (Cs × Fl)) (n l : Nat), vs = [.ref p, .int i, .ref s] ∧ PsAt H p ps ∧ ps.length ≤ 1000 ∧ H s = some (.tup [.int (n : Nat), .int (l : Nat)]) ∧ n ≤ 24 ∧
  ∀ (H' : Hp) (r : Addr), Same H H' → H r = none → H' r = some (.lst (dueV (verdict (n, l) ps i))) → Q (.ref r) H'
def toldV (x : Fl) (st : Nat × Nat) (ps : List (Cs × Fl)) : List V := match x with
  | .int i => if 0 ≤ i then dueV (verdict st ps i) else [.str "number", .str "probes", .int i]
  | y => [.str "number", .str "probes", y.v]
def spToldBy (C : Addr) : Sp := fun vs H Q _ => ∃ (g : Addr) (n l : Nat) (x : Fl) (p : Addr) (ps : List (Cs × Fl)), vs = [.ref g, x.v, .ref p] ∧ LogAt C H g n l ∧ n ≤ 24 ∧ PsAt H p ps ∧ ps.length ≤ 1000 ∧
  ∀ (H' : Hp) (r : Addr), Same H H' → H r = none → H' r = some (.lst (toldV x (n, l) ps)) → Q (.ref r) H'
section
variable {P : Program} {w : World} {K : PySem.W.Frag} {mg : Str → Option Value} {base : Heap} {f C CP CN CE : Addr} {fd : FuncData}
theorem ok_law_verdict (F : Fun K "_law_verdict" "_law_verdict" s_law_verdict f fd) (T : Bs mg) (a_law_tops : Av P w K mg base CX0 3 "_law_tops" ["_law_pairs_here", "_law_start_here"] spTops)
    (a_law_reason : Av P w K mg base CX0 3 "_law_reason" ["_law_tops_here", "_law_pair", "_law_start_here"] spFault) (a_law_stands : Av P w K mg base CX0 1 "_law_stands" ["_law_tops_here", "_law_case", "_law_count"] spStands) :
    FnOk P w K mg base CX0 4 f fd ["_law_pairs_here", "_law_v", "_law_start_here"] spVerdict := by
  refine F.ok sc_law_verdict (fun vs H Q E h => ?_) (fun cdv A outer s H vs Q E hr h => ?_)
  · obtain ⟨p, s, i, ps, n, l, rfl, _⟩ := h
    rfl
  obtain ⟨p, s, i, ps, n, l, rfl, ⟨xs, ep, hxs⟩, hlen, hs, hn, q⟩ := h
  refine ⟨_, (pss_cons (ps_set (i := 3) sc_law_verdict.nd rfl (.inl rfl) (a_law_tops.call hr (by decide) pass0 (pa_cons (pv 0) (pa_cons (pv 2) pa_nil))))
      (pss_cons (ps_for PassesOwn.never rfl (pi_range1 (by rfl) T.range (pa_cons (pe_callB call_len_seq (by rfl) T.len bo_len (pa_cons (pv 0) pa_nil)) pa_nil)) (pg_name (i := 4) sc_law_verdict.nd rfl (.inl rfl)) (pss_cons (ps_set (i := 5) sc_law_verdict.nd rfl (.inl rfl) (a_law_reason.call hr (by decide) pass0 (pa_cons (pv 3) (pa_cons (pe_ix ix_list (pv 0) (pv 4) (fun _ _ => rfl)) (pa_cons (pv 2) pa_nil)))))
      (pss_one (ps_if (pt_cmpR op_notN (pv 5) pe_non (nomark _)) (pss_one (ps_ret (pe_lst (pa_cons pe_str (pa_cons (pv 4) (pa_cons (pv 5) pa_nil)))))) pss_nil))))
      (pss_cons (ps_if (pt_not (pt_val (a_law_stands.call hr (by decide) pass0 (pa_cons (pv 3) (pa_cons (pv 2) (pa_cons (pv 1) pa_nil)))))) (pss_one (ps_ret (pe_lst (pa_cons pe_str (pa_cons (pe_callB call_len_seq (by rfl) T.len bo_len (pa_cons (pv 0) pa_nil)) (pa_cons pe_str pa_nil)))))) pss_nil)
      (pss_one (ps_ret (pe_lst (pa_cons pe_str pa_nil))))))), ?_⟩
  refine ⟨_, rfl, _, rfl, p, s, ps, n, l, rfl, ⟨xs, ep, hxs⟩, hlen, hs, fun H2 d kvs s2 hd0 hd tp => ?_⟩
  refine ⟨_, rfl, p, xs, rfl, .inl (.of (s2 _ _ ep)), _, rfl, by have := hxs.1; omega, by have := hxs.1; omega, ?_⟩
  refine for_range (lo := 0) (n := ((xs.length : Nat) : Int).toNat) (fun j σ H3 => (∃ o4 o5, σ = [some (.ref p), some (.int i), some (.ref s), some (.ref d), o4, o5]) ∧ Same H2 H3 ∧ ∀ (j' : Nat) (q : Cs × Fl), j' < j → ps[j']? = some q → fault (n, l) (tops (n, l) ps) q = none)
    ⟨⟨none, none, rfl⟩, Same.refl H2, fun _ _ z => absurd z (Nat.not_lt_zero _)⟩ ?_ ?_
  · rintro j σ H3 hj ⟨⟨o4, o5, rfl⟩, s3, all⟩
    have hjl : j < xs.length := by omega
    have hx : xs[j]? = some xs[j] := List.getElem?_eq_getElem hjl
    obtain ⟨q', hq, pq⟩ := hxs.get hx
    have ej : (0 : Int) + (j : Nat) = ((j : Nat) : Int) := by omega
    have sm : Same H H3 := s2.trans s3
    have hat : atI xs ((0 : Int) + (j : Nat)) = some xs[j] := by rw [ej]; exact atI_nat hx
    refine ⟨_, rfl, _, rfl, _, rfl, p, xs, _, _, rfl, rfl, .of (sm _ _ ep), hat, _, rfl, d, xs[j], s, kvs, tops (n, l) ps, q', n, l, rfl, s3 _ _ hd, tp, pq.same sm, sm _ _ hs, hn, fun H5 s5 => ?_⟩
    cases ef : fault (n, l) (tops (n, l) ps) q' with
    | none =>
      refine ⟨_, rfl, rfl, _, rfl, iteF ⟨⟨_, _, rfl⟩, s3.trans s5, fun j' q1 hj' hq' => ?_⟩⟩
      by_cases z : j' = j
      · rw [z] at hq'
        rw [hq] at hq'
        cases hq'
        exact ef
      · exact all j' q1 (by omega) hq'
    | some r =>
      refine ⟨_, rfl, rfl, _, rfl, iteT ⟨_, rfl, _, rfl, two_line (by show 3 ≤ 1000; decide), fun t ht => ?_⟩⟩
      have ev : verdict (n, l) ps i = some (j, r) := by
        unfold verdict
        rw [firstBad_at ps 0 j q' r all hq ef, Nat.zero_add]
      refine q _ t ((sm.trans s5).new ht _) ((sm.trans s5).free ht) ?_
      rw [upd_same, ev]
      exact congrArg (fun z => some (HO.lst [V.str "paper", V.int z, V.str r])) ej
  · rintro σ H3 ⟨⟨o4, o5, rfl⟩, s3, all⟩
    have sm : Same H H3 := s2.trans s3
    have fb : firstBad (fault (n, l) (tops (n, l) ps)) ps 0 = none := firstBad_none ps 0 fun j' q' hq' => all j' q' (by have := (List.getElem?_eq_some_iff.mp hq').1; have := hxs.1; omega) hq'
    refine ⟨_, rfl, _, rfl, _, rfl, d, _, i, kvs, tops (n, l) ps, (n, l), rfl, s3 _ _ hd, tp, ⟨s, rfl, sm _ _ hs⟩, ?_⟩
    have ve : verdict (n, l) ps i = if stands (tops (n, l) ps) (n, l) i = true then none else some (ps.length, ("start" : Str)) := by
      unfold verdict
      rw [fb]
    refine ⟨_, rfl, ?_⟩
    cases es : stands (tops (n, l) ps) (n, l) i with
    | true =>
      refine iteF ⟨two_line (by show 1 ≤ 1000; decide), fun t ht => q _ t (sm.new ht _) (sm.free ht) ?_⟩
      rw [upd_same, ve, es]
      rfl
    | false =>
      refine iteT ⟨_, rfl, p, xs, rfl, .inl (.of (sm _ _ ep)), two_line (by show 3 ≤ 1000; decide), fun t ht => q _ t (sm.new ht _) (sm.free ht) ?_⟩
      rw [upd_same, ve, es, hxs.1]
      rfl
theorem ok_law_told_by (F : Fun K "_law_told_by" "_law_told_by" s_law_told_by f fd) (T : Bs mg) (XP : XfC K CP) (np1 : PySem.W.findIn K (.ref CP) "place" = some none) (np2 : PySem.W.findIn K (.ref CP) "reason" = some none)
    (XN : XfC K CN) (nn1 : PySem.W.findIn K (.ref CN) "what" = some none) (nn2 : PySem.W.findIn K (.ref CN) "value" = some none) (m_BadPaper : mg "BadPaper" = some (.ref CP)) (m_BadNumber : mg "BadNumber" = some (.ref CN)) (m_ParcelError : mg "ParcelError" = some (.ref CE))
    (hPP : PySem.W.exmOne K (.ref CP) (.ref CP) = some true) (hNP : PySem.W.exmOne K (.ref CN) (.ref CP) = some false) (hNN : PySem.W.exmOne K (.ref CN) (.ref CN) = some true)
    (a_check_house_paper : Av P w K mg base (L2.CX P w) 4 "check_house_paper" ["houselog", "v", "pairs"] (spCheck C CP CN)) : FnOk P w K mg base CX0 5 f fd ["_law_log", "_law_v", "_law_pairs_here"] (spToldBy C) := by
  refine F.ok sc_law_told_by (fun vs H Q E h => ?_) (fun cdv A outer s H vs Q E hr h => ?_)
  · obtain ⟨g, n, l, x, p, ps, rfl, _⟩ := h
    rfl
  obtain ⟨g, n, l, x, p, ps, rfl, hg, hn, hp, hlen, q⟩ := h
  have hr1 : Room 4 _ := hr
  refine ⟨_, (pss_cons (ps_set (i := 3) sc_law_told_by.nd rfl (.inl rfl) (pe_lst (pa_cons pe_str pa_nil)))
      (pss_cons (ps_try_cl rfl rfl sc_law_told_by.nd takes0 (fun W pn xe tk _ => (pss_one (ps_if (pt_cmpR op_isnot_bl (a_check_house_paper.callS hr1 (by decide) tk (pa_cons (pv 0) (pa_cons (pv 1) (pa_cons (pv 2) pa_nil)))) pe_bl (nomark _)) (pss_one (ps_set (i := 3) sc_law_told_by.nd rfl (.inl rfl) (pe_lst (pa_cons pe_str pa_nil)))) pss_nil))) (Clauses.cons ⟨rfl, by decide, .inl m_BadPaper⟩ (ClName.named (i := 4) rfl rfl) (fun a oe cls d pn hz hf => (pss_one (ps_set (i := 3) sc_law_told_by.nd rfl (.inl rfl) (pe_lst (pa_cons pe_str (pa_cons (pe_xf XP np1 hz hf (pv 4)) (pa_cons (pe_xf XP np2 hz hf (pv 4)) pa_nil))))))) (Clauses.cons ⟨rfl, by decide, .inl m_BadNumber⟩ (ClName.named (i := 4) rfl rfl) (fun a oe cls d pn hz hf => (pss_one (ps_set (i := 3) sc_law_told_by.nd rfl (.inl rfl) (pe_lst (pa_cons pe_str (pa_cons (pe_xf XN nn1 hz hf (pv 4)) (pa_cons (pe_xf XN nn2 hz hf (pv 4)) pa_nil))))))) (Clauses.cons ⟨rfl, by decide, .inl m_ParcelError⟩ ClName.bare (fun a oe cls d pn hz hf => (pss_one (ps_set (i := 3) sc_law_told_by.nd rfl (.inl rfl) (pe_lst (pa_cons pe_str pa_nil))))) Clauses.nil))))
      (pss_one (ps_ret (pv 3))))), ?_⟩
  refine ⟨two_line (by show 1 ≤ 1000; decide), fun r0 hr0 => ?_⟩
  have s1 := same_new hr0 (.lst [.str "fine"])
  have er0 := upd_same (H := H) (a := r0) (o := .lst [.str "fine"])
  generalize L2.upd H r0 (.lst [.str "fine"]) = H1 at s1 er0 ⊢
  refine ⟨_, rfl, _, rfl, _, rfl, g, n, l, x, p, ps, rfl, hg.same s1, hn, hp.same s1, hlen, fun ir d hd => ?_, fun i ex hi => ⟨fun hv H2 s2 => ?_, fun k r hv H2 d s2 hd => ?_⟩⟩
  · refine ⟨false, hNP, (fun z => nomatch z), fun _ => ⟨true, hNN, fun _ a ha => ?_, (fun z => nomatch z)⟩⟩
    refine ⟨.ref a, rfl, rfl, rfl, d, _, .str "probes", rfl, upd_same, rfl, .ref a, rfl, rfl, rfl, d, _, x.v, rfl, upd_same, rfl, two_line (by show 3 ≤ 1000; decide), fun r hr' => ?_⟩
    have s2 := (s1.new hd (.xd [(("what" : Str), .str ("probes" : Str)), (("value" : Str), x.v)]))
    refine ⟨_, rfl, q _ r (s2.new hr' _) (s2.free hr') ?_⟩
    rw [upd_same]
    have ev : toldV x (n, l) ps = [.str "number", .str "probes", x.v] := by
      cases x with
      | int i =>
        have hi : ¬ 0 ≤ i := by
          unfold inRange inHi at ir
          simp [isNum] at ir
          omega
        exact if_neg hi
      | non => rfl
      | bl b => rfl
      | str z => rfl
    rw [ev]
  · refine ⟨true, true, rfl, rfl, _, rfl, iteF ⟨_, rfl, q H2 r0 (s1.trans s2) hr0 ?_⟩⟩
    rw [s2 _ _ er0, ex]
    show _ = some (HO.lst (if 0 ≤ i then dueV (verdict (n, l) ps i) else _))
    rw [if_pos hi, hv]
    rfl
  · refine ⟨true, hPP, fun _ a ha => ?_, fun z => nomatch z⟩
    refine ⟨.ref a, rfl, rfl, rfl, d, _, .int (k : Nat), rfl, upd_same, rfl, .ref a, rfl, rfl, rfl, d, _, .str r, rfl, upd_same, rfl, two_line (by show 3 ≤ 1000; decide), fun t ht => ?_⟩
    have s3 := ((s1.trans s2).new hd (.xd [(("place" : Str), .int (k : Nat)), (("reason" : Str), .str r)]))
    refine ⟨_, rfl, q _ t (s3.new ht _) (s3.free ht) ?_⟩
    rw [upd_same, ex]
    show _ = some (HO.lst (if 0 ≤ i then dueV (verdict (n, l) ps i) else _))
    rw [if_pos hi, hv]
    rfl
end
end K70

namespace K70
open PySem PySem.Spec PyProof.Rows L2
/-! ### the pairs as data -/
def Cs.d : Cs → PyData
  | .fl f => f.d
  | .tup fs => .tuple (fs.map Fl.d)
  | .lst fs => .list (fs.map Fl.d)
def prD (p : Cs × Fl) : PyData := .tuple [p.1.d, p.2.d]
theorem Fl.dp {K : PySem.W.Frag} {H : Hp} (f : Fl) : Dp K H f.v f.d := by
  cases f with
  | non => exact .non
  | bl b => exact .bl b
  | int i => exact .int i
  | str s => exact .str s
theorem Fl.dps {K : PySem.W.Frag} {H : Hp} : ∀ fs : List Fl, DpAll K H (fs.map Fl.v) (fs.map Fl.d)
  | [] => .nil
  | f :: fs => .cons f.dp (Fl.dps fs)
theorem Fl.dep (f : Fl) : f.d.depth = 0 := by cases f <;> rfl
theorem Fl.deps : ∀ fs : List Fl, PyData.depthAll (fs.map Fl.d) = 0
  | [] => rfl
  | f :: fs => by rw [List.map_cons, PyData.depthAll, Fl.deps fs, f.dep]; rfl
theorem Cs.dp {K : PySem.W.Frag} {H : Hp} {v : V} {c : Cs} (h : CsAt H v c) : Dp K H v c.d := by
  cases c with
  | fl f => cases (show v = f.v from h); exact f.dp
  | tup fs => obtain ⟨a, rfl, e⟩ := h; exact .tup (.of e) (Fl.dps fs)
  | lst fs => obtain ⟨a, rfl, e, _⟩ := h; exact .lst (.of e) (Fl.dps fs)
theorem Cs.dep (c : Cs) : c.d.depth ≤ 1 := by
  cases c with
  | fl f => show f.d.depth ≤ 1; rw [f.dep]; decide
  | tup fs => show PyData.depth (.tuple _) ≤ 1; rw [PyData.depth, Fl.deps]; decide
  | lst fs => show PyData.depth (.list _) ≤ 1; rw [PyData.depth, Fl.deps]; decide
theorem prD_dp {K : PySem.W.Frag} {H : Hp} {v : V} {p : Cs × Fl} (h : PrAt H v p) : Dp K H v (prD p) := by
  obtain ⟨t, c, rfl, e, z⟩ := h
  exact .tup (.of e) (.cons (Cs.dp z) (.cons p.2.dp .nil))
theorem prD_dep (p : Cs × Fl) : (prD p).depth ≤ 2 := by
  have b := p.1.dep
  have d := p.2.dep
  show PyData.depth (.tuple _) ≤ 2
  rw [PyData.depth, PyData.depthAll, PyData.depthAll, PyData.depthAll, d]
  omega
theorem psD_dep : ∀ ps : List (Cs × Fl), PyData.depthAll (ps.map prD) ≤ 2
  | [] => Nat.zero_le _
  | p :: ps => by
    have b := psD_dep ps
    have d := prD_dep p
    rw [List.map_cons, PyData.depthAll]; omega
/-- its texts are texts -/
def POk (p : Cs × Fl) : Prop := p.1.d.canLay0 = true ∧ p.2.d.canLay0 = true
def PsOk (ps : List (Cs × Fl)) : Prop := ∀ p ∈ ps, POk p
theorem POk.lay {p : Cs × Fl} (h : POk p) : (prD p).canLay0 = true := by
  show PyData.canLay0 (.tuple _) = true
  rw [PyData.canLay0, PyData.canLayAll0, PyData.canLayAll0, PyData.canLayAll0, h.1, h.2]; rfl
theorem PsOk.lay : ∀ {ps : List (Cs × Fl)}, PsOk ps → PyData.canLayAll0 (ps.map prD) = true
  | [], _ => rfl
  | p :: ps, h => by
    rw [List.map_cons, PyData.canLayAll0, (h p (List.mem_cons_self ..)).lay, PsOk.lay (ps := ps) fun q hq => h q (List.mem_cons_of_mem _ hq)]; rfl
theorem psD_dp {K : PySem.W.Frag} {H : Hp} : ∀ {vs : List V} {ps : List (Cs × Fl)}, PsIt H vs ps → DpAll K H vs (ps.map prD)
  | [], [], _ => .nil
  | [], p :: ps, h => by have := h.1; simp at this
  | v :: vs, [], h => by have := h.1; simp at this
  | v :: vs, p :: ps, h => .cons (prD_dp (h.2 0 v p rfl rfl)) (psD_dp ⟨by have := h.1; simpa using this, fun i u q a b => h.2 (i + 1) u q (by simpa using a) (by simpa using b)⟩)
def psD (ps : List (Cs × Fl)) : PyData := .list (ps.map prD)
theorem psD_shaped {ps : List (Cs × Fl)} (h : PsOk ps) : SeqAt.shaped (psD ps) = true := by
  have b := psD_dep ps
  unfold SeqAt.shaped psD
  rw [PyData.canLay0, h.lay, PyData.depth, decide_eq_true (by omega)]
  rfl
theorem psD_same {ps : List (Cs × Fl)} (h : PsOk ps) : PyData.eqv (psD ps) (psD ps) = true := PySem.SeqAt.eqv_refl _ (PySem.SeqAt.canLay_of_shaped (psD_shaped h))
theorem PsOk.append {ps qs : List (Cs × Fl)} (h : PsOk ps) (k : PsOk qs) : PsOk (ps ++ qs) := fun p hp => (List.mem_append.mp hp).elim (h p) (k p)
theorem PsOk.take {ps : List (Cs × Fl)} (h : PsOk ps) (k : Nat) : PsOk (ps.take k) := fun p hp => h p (List.mem_of_mem_take hp)
theorem PsOk.drop {ps : List (Cs × Fl)} (h : PsOk ps) (k : Nat) : PsOk (ps.drop k) := fun p hp => h p (List.mem_of_mem_drop hp)
theorem PsOk.one {p : Cs × Fl} (h : POk p) : PsOk [p] := fun q hq => by rw [List.mem_singleton.mp hq]; exact h
/-! ### lists of pairs, cut and joined -/
theorem PsIt.append {H : Hp} {vs ws : List V} {ps qs : List (Cs × Fl)} (h : PsIt H vs ps) (k : PsIt H ws qs) : PsIt H (vs ++ ws) (ps ++ qs) := by
  refine ⟨by rw [List.length_append, List.length_append, h.1, k.1], fun i u d a b => ?_⟩
  by_cases hi : i < vs.length
  · rw [List.getElem?_append_left hi] at a
    rw [List.getElem?_append_left (by rw [← h.1]; exact hi)] at b
    exact h.2 i u d a b
  · rw [List.getElem?_append_right (Nat.le_of_not_lt hi)] at a
    rw [List.getElem?_append_right (by rw [← h.1]; exact Nat.le_of_not_lt hi), ← h.1] at b
    exact k.2 _ u d a b
theorem PsIt.take {H : Hp} {vs : List V} {ps : List (Cs × Fl)} (h : PsIt H vs ps) (k : Nat) : PsIt H (vs.take k) (ps.take k) := by
  refine ⟨by rw [List.length_take, List.length_take, h.1], fun i u d a b => ?_⟩
  have hi : i < k := by
    have := (List.getElem?_eq_some_iff.mp a).1
    rw [List.length_take] at this
    omega
  rw [List.getElem?_take_of_lt hi] at a b
  exact h.2 i u d a b
theorem PsIt.drop {H : Hp} {vs : List V} {ps : List (Cs × Fl)} (h : PsIt H vs ps) (k : Nat) : PsIt H (vs.drop k) (ps.drop k) := by
  refine ⟨by rw [List.length_drop, List.length_drop, h.1], fun i u d a b => ?_⟩
  rw [List.getElem?_drop] at a b
  exact h.2 _ u d a b
theorem PsIt.one {H : Hp} {v : V} {p : Cs × Fl} (h : PrAt H v p) : PsIt H [v] [p] := PsIt.snoc PsIt.nil h
abbrev s_law_changed : Stmt := topS 48
theorem sc_law_changed : FnScope ["_law_script", "_law_state", "_law_pairs_here", "_law_start_here", "_law_at", "_law_case", "_law_count", "_law_kind"] ["_law_script", "_law_state", "_law_pairs_here", "_law_start_here"] (defScope s_law_changed) := ⟨rfl, rfl, rfl, by decide +kernel, rfl, by decide +kernel, by decide +kernel⟩
def spChanged (K : PySem.W.Frag) : Sp := fun vs H Q _ => ∃ (a st p s : Addr) (ns : List Int) (ps : List (Cs × Fl)) (n l : Nat), vs = [.ref a, .ref st, .ref p, .ref s] ∧ Scr K H a ns ∧ StAt H st ∧ PsAt H p ps ∧ PsOk ps ∧ 1 ≤ ps.length ∧ ps.length ≤ 400 ∧ H s = some (.tup [.int (n : Nat), .int (l : Nat)]) ∧ 1 ≤ n ∧ n ≤ 24 ∧ l ≤ 8 ∧
  ∀ (H' : Hp) (r : Addr) (ps' : List (Cs × Fl)), Kp st H H' → StAt H' st → H r = none → PsAt H' r ps' → PsOk ps' → ps'.length ≤ ps.length + 1 → Q (.ref r) H'
section
variable {P : Program} {w : World} {K : PySem.W.Frag} {mg : Str → Option Value} {base : Heap} {f C CP CN CE : Addr} {fd : FuncData}
theorem ok_law_changed (F : Fun K "_law_changed" "_law_changed" s_law_changed f fd) (T : Bs mg) (a_law_draw : Av P w K mg base CX0 1 "_law_draw" ["_law_script", "_law_state", "_law_limit"] (spDraw K)) (a_law_whole : Av P w K mg base CX0 1 "_law_whole" ["_law_value"] spInt) :
    FnOk P w K mg base CX0 2 f fd ["_law_script", "_law_state", "_law_pairs_here", "_law_start_here"] (spChanged K) := by
  refine F.ok sc_law_changed (fun vs H Q E h => ?_) (fun cdv A outer s H vs Q E hr h => ?_)
  · obtain ⟨a, st, p, s, ns, ps, n, l, rfl, _⟩ := h
    rfl
  obtain ⟨sc, st, p, s, ns, ps, n, l, rfl, hsc, hst, ⟨xs, ep, hxs⟩, hpo, hl1, hl2, hs, hn1, hn, hl, q⟩ := h
  refine ⟨_, (pss_cons (ps_set (i := 4) sc_law_changed.nd rfl (.inl rfl) (a_law_draw.call hr (by decide) pass0 (pa_cons (pv 0) (pa_cons (pv 1) (pa_cons (pe_callB call_len_seq (by rfl) T.len bo_len (pa_cons (pv 2) pa_nil)) pa_nil)))))
      (pss_cons (ps_asg (pe_ix ix_list (pv 2) (pv 4) (fun _ _ => rfl)) (pg_tup (by rfl) (pgs_cons (pg_name (i := 5) sc_law_changed.nd rfl (.inl rfl)) (pgs_cons (pg_name (i := 6) sc_law_changed.nd rfl (.inl rfl)) pgs_nil))))
      (pss_cons (ps_set (i := 7) sc_law_changed.nd rfl (.inl rfl) (a_law_draw.call hr (by decide) pass0 (pa_cons (pv 0) (pa_cons (pv 1) (pa_cons pe_int pa_nil)))))
      (pss_cons (ps_if (pt_cmpR op_eq (pv 7) pe_int (nomark _)) (pss_one (ps_ret (pe_op op_cat (pe_slice sl_list (pv 2) po_none (po_some (pv 4))) (pe_slice sl_list (pv 2) (po_some (pe_op op_add (pv 4) pe_int)) po_none)))) pss_nil)
      (pss_cons (ps_if (pt_cmpR op_eq (pv 7) pe_int (nomark _)) (pss_one (ps_ret (pe_op op_cat (pv 2) (pe_lst (pa_cons (pe_ix ix_list (pv 2) (pv 4) (fun _ _ => rfl)) pa_nil))))) pss_nil)
      (pss_cons (ps_if (PW.pt (pw_and (pt_cmpR op_eq (pv 7) pe_int (nomark _)) (pw_and1 (pt_val (a_law_whole.call hr (by decide) pass0 (pa_cons (pv 6) pa_nil)))))) (pss_one (ps_set (i := 6) sc_law_changed.nd rfl (.inl rfl) (pe_op op_sub (pe_op op_add (pv 6) (a_law_draw.call hr (by decide) pass0 (pa_cons (pv 0) (pa_cons (pv 1) (pa_cons pe_int pa_nil))))) pe_int))) pss_nil)
      (pss_cons (ps_if (pt_cmpR op_eq (pv 7) pe_int (nomark _)) (pss_one (ps_set (i := 6) sc_law_changed.nd rfl (.inl rfl) (pe_ix ix_list (pe_lst (pa_cons pe_bl (pa_cons pe_non (pa_cons pe_str (pa_cons (pe_un un_neg pe_int) (pa_cons (pe_op op_pow pe_int pe_int) (pa_cons pe_int pa_nil))))))) (a_law_draw.call hr (by decide) pass0 (pa_cons (pv 0) (pa_cons (pv 1) (pa_cons pe_int pa_nil)))) (fun _ _ => rfl)))) pss_nil)
      (pss_cons (ps_if (pt_cmpR op_eq (pv 7) pe_int (nomark _)) (pss_one (ps_set (i := 5) sc_law_changed.nd rfl (.inl rfl) (pe_tup (pa_cons (a_law_draw.call hr (by decide) pass0 (pa_cons (pv 0) (pa_cons (pv 1) (pa_cons (pe_op op_add (pe_ix ix_tup (pv 3) pe_int (fun _ _ => rfl)) pe_int) pa_nil)))) (pa_cons (a_law_draw.call hr (by decide) pass0 (pa_cons (pv 0) (pa_cons (pv 1) (pa_cons (pe_op op_add (pe_ix ix_tup (pv 3) pe_int (fun _ _ => rfl)) pe_int) pa_nil)))) pa_nil))))) pss_nil)
      (pss_cons (ps_if (pt_cmpR op_eq (pv 7) pe_int (nomark _)) (pss_one (ps_set (i := 5) sc_law_changed.nd rfl (.inl rfl) (pe_ix ix_list (pe_lst (pa_cons (pe_tup (pa_cons pe_bl (pa_cons pe_int pa_nil))) (pa_cons (pe_tup (pa_cons pe_int (pa_cons pe_non pa_nil))) (pa_cons (pe_tup (pa_cons pe_int pa_nil)) (pa_cons pe_str (pa_cons (pe_lst (pa_cons pe_int (pa_cons pe_int pa_nil))) (pa_cons (pe_tup (pa_cons pe_int (pa_cons (pe_un un_neg pe_int) pa_nil))) pa_nil))))))) (a_law_draw.call hr (by decide) pass0 (pa_cons (pv 0) (pa_cons (pv 1) (pa_cons pe_int pa_nil)))) (fun _ _ => rfl)))) pss_nil)
      (pss_one (ps_ret (pe_op op_cat (pe_op op_cat (pe_slice sl_list (pv 2) po_none (po_some (pv 4))) (pe_lst (pa_cons (pe_tup (pa_cons (pv 5) (pa_cons (pv 6) pa_nil))) pa_nil))) (pe_slice sl_list (pv 2) (po_some (pe_op op_add (pv 4) pe_int)) po_none))))))))))))), ?_⟩
  have pst : p ≠ st := PsAt.ne ⟨xs, ep, hxs⟩ hst
  have sst : s ≠ st := hst.ne_oth hs fun _ z => nomatch z
  have hlx := hxs.1
  refine ⟨_, rfl, _, rfl, _, rfl, p, xs, rfl, .inl (.of ep), sc, st, ns, _, rfl, hsc, hst, by omega, by omega, fun aI H1 a0 a1 k1 st1 => ?_⟩
  obtain ⟨m, rfl⟩ : ∃ m : Nat, aI = (m : Int) := ⟨aI.toNat, by omega⟩
  have hm : m < xs.length := by omega
  have ep1 := k1 _ _ pst ep
  have hxs1 := hxs.kp hst k1
  have hx : xs[m]? = some xs[m] := List.getElem?_eq_getElem hm
  obtain ⟨⟨c, k⟩, hpm, t, cv, et, ht, hc⟩ := hxs1.get hx
  have hatm : atI xs (m : Int) = some (.ref t) := by rw [← et]; exact atI_nat hx
  have pok0 : POk (c, k) := hpo _ (List.mem_of_getElem? hpm)
  refine ⟨_, rfl, _, rfl, p, xs, _, _, rfl, rfl, .of ep1, hatm, t, _, rfl, .of ht, rfl, _, _, rfl, _, _, rfl, rfl, ?_⟩
  refine ⟨_, rfl, _, rfl, sc, st, ns, 6, rfl, hsc.kp hst k1, st1, by decide, by decide, fun kd H2 d0 d1 k2 st2 => ?_⟩
  have kk2 := k1.trans k2
  have ep2 := k2 _ _ pst ep1
  have hxs2 := hxs1.kp st1 k2
  have hc2 := hc.kp st1 k2
  have hs2 := kk2 _ _ sst hs
  have ht2 := k2 _ _ (st1.ne_oth ht fun _ z => nomatch z) ht
  have ecut : cutV xs (some ((m : Int) + 1)) none = xs.drop (m + 1) := by
    rw [show (m : Int) + 1 = ((m + 1 : Nat) : Int) by omega, cut_from]
  have h6 : kd = 0 ∨ kd = 1 ∨ kd = 2 ∨ kd = 3 ∨ kd = 4 ∨ kd = 5 := by omega
  rcases h6 with rfl | rfl | rfl | rfl | rfl | rfl
  · refine ⟨_, rfl, rfl, _, rfl, iteD (fun _ => ?_) fun z => absurd rfl z⟩
    refine ⟨_, rfl, _, rfl, _, rfl, p, xs, rfl, .of ep2, fun r1 h1 => ?_⟩
    rw [cut_to]
    have s3 := same_new h1 (.lst (xs.take m))
    have e3 := upd_same (H := H2) (a := r1) (o := .lst (xs.take m))
    generalize L2.upd H2 r1 (.lst (xs.take m)) = H3 at s3 e3 ⊢
    refine ⟨_, rfl, _, rfl, _, _, rfl, rfl, _, rfl, p, xs, rfl, .of (s3 _ _ ep2), fun r2 h2 => ?_⟩
    generalize e4 : L2.upd H3 r2 _ = H4
    have s4 : Same H3 H4 := by rw [← e4]; exact same_new h2 _
    have e5 : H4 r2 = some (.lst (xs.drop (m + 1))) := by rw [← e4, upd_same]; exact congrArg (fun z => some (HO.lst z)) ecut
    refine ⟨r1, r2, _, _, rfl, rfl, s4 _ _ e3, e5, two_line (by rw [List.length_take, List.length_drop]; omega), fun r hr' => ?_⟩
    have kk4 := kk2.trans (Kp.same (s3.trans s4))
    have st4 := st2.same (s3.trans s4)
    have sr := same_new hr' (.lst (xs.take m ++ xs.drop (m + 1)))
    refine q _ r (ps.take m ++ ps.drop (m + 1)) (kk4.trans (Kp.same sr)) (st4.same sr) (kk4.free st4 hr') ⟨_, upd_same, ((hxs2.take m).append (hxs2.drop (m + 1))).same ((s3.trans s4).trans sr)⟩ ((hpo.take m).append (hpo.drop (m + 1))) ?_
    rw [List.length_append, List.length_take, List.length_drop]
    omega
  · refine ⟨_, rfl, rfl, _, rfl, iteD (fun z => absurd (V.int.inj z) (by decide)) fun _ => ?_⟩
    refine ⟨_, rfl, rfl, _, rfl, iteD (fun _ => ?_) fun z => absurd rfl z⟩
    refine ⟨_, rfl, _, rfl, _, rfl, p, xs, _, _, rfl, rfl, .of ep2, hatm, two_line (by show 1 ≤ 1000; decide), fun r1 h1 => ?_⟩
    have s3 := same_new h1 (.lst [.ref t])
    have e3 := upd_same (H := H2) (a := r1) (o := .lst [.ref t])
    generalize L2.upd H2 r1 (.lst [.ref t]) = H3 at s3 e3 ⊢
    refine ⟨p, r1, _, _, rfl, rfl, s3 _ _ ep2, e3, two_line (by show xs.length + 1 ≤ 1000; omega), fun r hr' => ?_⟩
    have kk4 := kk2.trans (Kp.same s3)
    have st4 := st2.same s3
    have sr := same_new hr' (.lst (xs ++ [.ref t]))
    refine q _ r (ps ++ [(c, k)]) (kk4.trans (Kp.same sr)) (st4.same sr) (kk4.free st4 hr') ⟨_, upd_same, (hxs2.append (PsIt.one ⟨t, cv, rfl, ht2, hc2⟩)).same (s3.trans sr)⟩ (hpo.append (PsOk.one pok0)) ?_
    rw [List.length_append]
    exact Nat.le_refl _
  case' refine_2.inr.inr.inl =>
    refine ⟨_, rfl, rfl, _, rfl, iteD (fun z => absurd (V.int.inj z) (by decide)) fun _ => ?_⟩
    refine ⟨_, rfl, rfl, _, rfl, iteD (fun z => absurd (V.int.inj z) (by decide)) fun _ => ?_⟩
    refine ⟨_, rfl, rfl, _, rfl, iteD (fun _ => ?_) fun z => absurd rfl z⟩
    refine ⟨_, rfl, k, rfl, _, rfl, ?_⟩
    cases ek : isNum k
  case' refine_2.inr.inr.inl.none =>
    refine iteF ?_
    refine ⟨_, rfl, rfl, _, rfl, iteD (fun z => absurd (V.int.inj z) (by decide)) fun _ => ?_⟩
    refine ⟨_, rfl, rfl, _, rfl, iteD (fun z => absurd (V.int.inj z) (by decide)) fun _ => ?_⟩
    refine ⟨_, rfl, rfl, _, rfl, iteD (fun z => absurd (V.int.inj z) (by decide)) fun _ => ?_⟩
    obtain ⟨HF, eHF⟩ : ∃ HF, HF = H2 := ⟨_, rfl⟩
    subst eHF
    let cF : Cs := c
    let fF : Fl := k
    let cvF : V := cv
    have kF := kk2
    have stF := st2
    have epF := ep2
    have hxsF := hxs2
    have hcF : CsAt HF cvF cF := hc2
    have pokF : POk (cF, fF) := pok0
  case' refine_2.inr.inr.inl.some i =>
    have vk : k.v = .int i := by cases k <;> simp [isNum] at ek; rw [ek]; rfl
    rw [vk]
    refine iteT ⟨_, rfl, _, rfl, _, rfl, sc, st, ns, 5, rfl, hsc.kp hst kk2, st2, by decide, by decide, fun d HF e0 e1 k3 stF => ⟨_, _, rfl, rfl, _, _, rfl, rfl, ?_⟩⟩
    refine ⟨_, rfl, rfl, _, rfl, iteD (fun z => absurd (V.int.inj z) (by decide)) fun _ => ?_⟩
    refine ⟨_, rfl, rfl, _, rfl, iteD (fun z => absurd (V.int.inj z) (by decide)) fun _ => ?_⟩
    refine ⟨_, rfl, rfl, _, rfl, iteD (fun z => absurd (V.int.inj z) (by decide)) fun _ => ?_⟩
    let cF : Cs := c
    let fF : Fl := .int (i + d - 2)
    let cvF : V := cv
    have kF := kk2.trans k3
    have epF := k3 _ _ pst ep2
    have hxsF := hxs2.kp st2 k3
    have hcF : CsAt HF cvF cF := hc2.kp st2 k3
    have pokF : POk (cF, fF) := ⟨pok0.1, rfl⟩
  case' refine_2.inr.inr.inr.inl =>
    refine ⟨_, rfl, rfl, _, rfl, iteD (fun z => absurd (V.int.inj z) (by decide)) fun _ => ?_⟩
    refine ⟨_, rfl, rfl, _, rfl, iteD (fun z => absurd (V.int.inj z) (by decide)) fun _ => ?_⟩
    refine ⟨_, rfl, rfl, _, rfl, iteD (fun z => absurd (V.int.inj z) (by decide)) fun _ => ?_⟩
    refine ⟨_, rfl, rfl, _, rfl, iteD (fun _ => ?_) fun z => absurd rfl z⟩
    refine ⟨1, rfl, _, _, rfl, rfl, ⟨by decide, by decide, by decide⟩, two_line (by show 6 ≤ 1000; decide), fun L hL => ?_⟩
    generalize e3 : L2.upd H2 L _ = H3
    have s3 : Same H2 H3 := by rw [← e3]; exact same_new hL _
    have eL : H3 L = some (.lst [.bl true, .non, .str "1", .int (-1), .int ((10 : Int) ^ (20 : Int).toNat), .int 0]) := by rw [← e3]; exact upd_same
    have Lst : L ≠ st := st2.ne_none hL
    have st3 := st2.same s3
    have kk3 := kk2.trans (Kp.same s3)
    refine ⟨_, rfl, _, rfl, sc, st, ns, 6, rfl, hsc.kp hst kk3, st3, by decide, by decide, fun d HF e0 e1 k4 stF => ?_⟩
    obtain ⟨fF, hat, fok⟩ : ∃ f : Fl, atI [V.bl true, .non, .str "1", .int (-1), .int ((10 : Int) ^ (20 : Int).toNat), .int 0] d = some f.v ∧ f.d.canLay0 = true := by
      have h6 : d = 0 ∨ d = 1 ∨ d = 2 ∨ d = 3 ∨ d = 4 ∨ d = 5 := by omega
      rcases h6 with rfl | rfl | rfl | rfl | rfl | rfl
      · exact ⟨.bl true, rfl, rfl⟩
      · exact ⟨.non, rfl, rfl⟩
      · exact ⟨.str "1", rfl, by decide +kernel⟩
      · exact ⟨.int (-1), rfl, rfl⟩
      · exact ⟨.int ((10 : Int) ^ (20 : Int).toNat), rfl, rfl⟩
      · exact ⟨.int 0, rfl, rfl⟩
    refine ⟨L, _, d, fF.v, rfl, rfl, .of (k4 _ _ Lst eL), hat, ?_⟩
    refine ⟨_, rfl, rfl, _, rfl, iteD (fun z => absurd (V.int.inj z) (by decide)) fun _ => ?_⟩
    refine ⟨_, rfl, rfl, _, rfl, iteD (fun z => absurd (V.int.inj z) (by decide)) fun _ => ?_⟩
    let cF : Cs := c
    let cvF : V := cv
    have kF := kk3.trans k4
    have epF := k4 _ _ pst (s3 _ _ ep2)
    have hxsF := (hxs2.same s3).kp st3 k4
    have hcF : CsAt HF cvF cF := (hc2.same s3).kp st3 k4
    have pokF : POk (cF, fF) := ⟨pok0.1, fok⟩
  case' refine_2.inr.inr.inr.inr.inl =>
    refine ⟨_, rfl, rfl, _, rfl, iteD (fun z => absurd (V.int.inj z) (by decide)) fun _ => ?_⟩
    refine ⟨_, rfl, rfl, _, rfl, iteD (fun z => absurd (V.int.inj z) (by decide)) fun _ => ?_⟩
    refine ⟨_, rfl, rfl, _, rfl, iteD (fun z => absurd (V.int.inj z) (by decide)) fun _ => ?_⟩
    refine ⟨_, rfl, rfl, _, rfl, iteD (fun z => absurd (V.int.inj z) (by decide)) fun _ => ?_⟩
    refine ⟨_, rfl, rfl, _, rfl, iteD (fun _ => ?_) fun z => absurd rfl z⟩
    refine ⟨_, rfl, _, rfl, _, rfl, s, _, 0, _, rfl, rfl, .of hs2, rfl, _, _, rfl, rfl, sc, st, ns, _, rfl, hsc.kp hst kk2, st2, by omega, by omega, fun x1 H3 _ _ k3 st3 => ?_⟩
    refine ⟨_, rfl, _, rfl, _, rfl, s, _, 1, _, rfl, rfl, .of (k3 _ _ sst hs2), rfl, _, _, rfl, rfl, sc, st, ns, _, rfl, hsc.kp hst (kk2.trans k3), st3, by omega, by omega, fun x2 H4 _ _ k4 st4 => ⟨two_line (by show 2 ≤ 1000; decide), fun t4 ht4 => ?_⟩⟩
    have s5 := same_new ht4 (.tup [.int x1, .int x2])
    have e5 := upd_same (H := H4) (a := t4) (o := .tup [.int x1, .int x2])
    generalize L2.upd H4 t4 (.tup [.int x1, .int x2]) = HF at s5 e5 ⊢
    refine ⟨_, rfl, rfl, _, rfl, iteD (fun z => absurd (V.int.inj z) (by decide)) fun _ => ?_⟩
    let cF : Cs := .tup [.int x1, .int x2]
    let fF : Fl := k
    let cvF : V := .ref t4
    have kF := ((kk2.trans k3).trans k4).trans (Kp.same s5)
    have stF := st4.same s5
    have epF := s5 _ _ (k4 _ _ pst (k3 _ _ pst ep2))
    have hxsF := ((hxs2.kp st2 k3).kp st3 k4).same s5
    have hcF : CsAt HF cvF cF := ⟨t4, rfl, e5⟩
    have pokF : POk (cF, fF) := ⟨rfl, pok0.2⟩
  case' refine_2.inr.inr.inr.inr.inr =>
    refine ⟨_, rfl, rfl, _, rfl, iteD (fun z => absurd (V.int.inj z) (by decide)) fun _ => ?_⟩
    refine ⟨_, rfl, rfl, _, rfl, iteD (fun z => absurd (V.int.inj z) (by decide)) fun _ => ?_⟩
    refine ⟨_, rfl, rfl, _, rfl, iteD (fun z => absurd (V.int.inj z) (by decide)) fun _ => ?_⟩
    refine ⟨_, rfl, rfl, _, rfl, iteD (fun z => absurd (V.int.inj z) (by decide)) fun _ => ?_⟩
    refine ⟨_, rfl, rfl, _, rfl, iteD (fun z => absurd (V.int.inj z) (by decide)) fun _ => ?_⟩
    refine ⟨_, rfl, rfl, _, rfl, iteD (fun _ => ?_) fun z => absurd rfl z⟩
    refine ⟨two_line (by show 2 ≤ 1000; decide), fun t1 h1 => ?_⟩
    have s1 := same_new h1 (.tup [.bl true, .int 1])
    have e1 := upd_same (H := H2) (a := t1) (o := .tup [.bl true, .int 1])
    generalize L2.upd H2 t1 (.tup [.bl true, .int 1]) = G1 at s1 e1 ⊢
    refine ⟨two_line (by show 2 ≤ 1000; decide), fun t2 h2 => ?_⟩
    have s2 := same_new h2 (.tup [.int 1, .non])
    have e2 := upd_same (H := G1) (a := t2) (o := .tup [.int 1, .non])
    generalize L2.upd G1 t2 (.tup [.int 1, .non]) = G2 at s2 e2 ⊢
    refine ⟨two_line (by show 1 ≤ 1000; decide), fun t3 h3 => ?_⟩
    have s3 := same_new h3 (.tup [.int 2])
    have e3 := upd_same (H := G2) (a := t3) (o := .tup [.int 2])
    generalize L2.upd G2 t3 (.tup [.int 2]) = G3 at s3 e3 ⊢
    refine ⟨two_line (by show 2 ≤ 1000; decide), fun t4 h4 => ?_⟩
    have s4 := same_new h4 (.lst [.int 1, .int 0])
    have e4 := upd_same (H := G3) (a := t4) (o := .lst [.int 1, .int 0])
    generalize L2.upd G3 t4 (.lst [.int 1, .int 0]) = G4 at s4 e4 ⊢
    refine ⟨1, rfl, two_line (by show 2 ≤ 1000; decide), fun t5 h5 => ?_⟩
    generalize e5' : L2.upd G4 t5 _ = G5
    have s5 : Same G4 G5 := by rw [← e5']; exact same_new h5 _
    have e5 : G5 t5 = some (.tup [.int 2, .int (-1)]) := by rw [← e5']; exact upd_same
    refine ⟨two_line (by show 6 ≤ 1000; decide), fun L hL => ?_⟩
    have s6 := same_new hL (.lst [.ref t1, .ref t2, .ref t3, .str "ab", .ref t4, .ref t5])
    have eL := upd_same (H := G5) (a := L) (o := .lst [.ref t1, .ref t2, .ref t3, .str "ab", .ref t4, .ref t5])
    generalize L2.upd G5 L (.lst [.ref t1, .ref t2, .ref t3, .str "ab", .ref t4, .ref t5]) = G6 at s6 eL ⊢
    have z5 := s5.trans s6
    have z4 := s4.trans z5
    have z3 := s3.trans z4
    have z2 := s2.trans z3
    have z1 := s1.trans z2
    have st6 := st2.same z1
    have Lst : L ≠ st := ((((st2.same s1).same s2).same s3).same s4).same s5 |>.ne_none hL
    have kk6 := kk2.trans (Kp.same z1)
    refine ⟨_, rfl, _, rfl, sc, st, ns, 6, rfl, hsc.kp hst kk6, st6, by decide, by decide, fun d HF e0 e1' k7 stF => ?_⟩
    obtain ⟨cF, cvF, hat, hcs, cok⟩ : ∃ (cF : Cs) (cvF : V), atI [V.ref t1, .ref t2, .ref t3, .str "ab", .ref t4, .ref t5] d = some cvF ∧ CsAt G6 cvF cF ∧ cF.d.canLay0 = true := by
      have h6 : d = 0 ∨ d = 1 ∨ d = 2 ∨ d = 3 ∨ d = 4 ∨ d = 5 := by omega
      rcases h6 with rfl | rfl | rfl | rfl | rfl | rfl
      · exact ⟨.tup [.bl true, .int 1], _, rfl, ⟨t1, rfl, z2 _ _ e1⟩, rfl⟩
      · exact ⟨.tup [.int 1, .non], _, rfl, ⟨t2, rfl, z3 _ _ e2⟩, rfl⟩
      · exact ⟨.tup [.int 2], _, rfl, ⟨t3, rfl, z4 _ _ e3⟩, rfl⟩
      · exact ⟨.fl (.str "ab"), _, rfl, rfl, by decide +kernel⟩
      · exact ⟨.lst [.int 1, .int 0], _, rfl, ⟨t4, rfl, z5 _ _ e4, by decide⟩, rfl⟩
      · exact ⟨.tup [.int 2, .int (-1)], _, rfl, ⟨t5, rfl, s6 _ _ e5⟩, rfl⟩
    refine ⟨L, _, d, cvF, rfl, rfl, .of (k7 _ _ Lst eL), hat, ?_⟩
    let fF : Fl := k
    have kF := kk6.trans k7
    have epF := k7 _ _ pst (z1 _ _ ep2)
    have hxsF := (hxs2.same z1).kp st6 k7
    have hcF : CsAt HF cvF cF := hcs.kp st6 k7
    have pokF : POk (cF, fF) := ⟨cok, pok0.2⟩
  all_goals
    refine ⟨_, rfl, _, rfl, _, rfl, p, xs, rfl, .of epF, fun r1 h1 => ?_⟩
    rw [cut_to]
    have s3 := same_new h1 (.lst (xs.take m))
    have e3 := upd_same (H := HF) (a := r1) (o := .lst (xs.take m))
    generalize L2.upd HF r1 (.lst (xs.take m)) = H3 at s3 e3 ⊢
    refine ⟨_, rfl, _, rfl, two_line (by show 2 ≤ 1000; decide), fun t7 h7 => ?_⟩
    generalize e7' : L2.upd H3 t7 _ = H7
    have s7 : Same H3 H7 := by rw [← e7']; exact same_new h7 _
    have e7 : H7 t7 = some (.tup [cvF, fF.v]) := by rw [← e7']; exact upd_same
    refine ⟨two_line (by show 1 ≤ 1000; decide), fun r2 h2 => ?_⟩
    have s8 := same_new h2 (.lst [.ref t7])
    have e8 := upd_same (H := H7) (a := r2) (o := .lst [.ref t7])
    generalize L2.upd H7 r2 (.lst [.ref t7]) = H8 at s8 e8 ⊢
    refine ⟨r1, r2, _, _, rfl, rfl, s8 _ _ (s7 _ _ e3), e8, two_line (by rw [List.length_take]; show _ + 1 ≤ 1000; omega), fun r3 h3 => ?_⟩
    have s9 := same_new h3 (.lst (xs.take m ++ [.ref t7]))
    have e9 := upd_same (H := H8) (a := r3) (o := .lst (xs.take m ++ [.ref t7]))
    generalize L2.upd H8 r3 (.lst (xs.take m ++ [.ref t7])) = H9 at s9 e9 ⊢
    have sA := ((s3.trans s7).trans s8).trans s9
    refine ⟨_, rfl, _, rfl, _, _, rfl, rfl, _, rfl, p, xs, rfl, .of (sA _ _ epF), fun r4 h4 => ?_⟩
    generalize e4' : L2.upd H9 r4 _ = H10
    have s10 : Same H9 H10 := by rw [← e4']; exact same_new h4 _
    have e10 : H10 r4 = some (.lst (xs.drop (m + 1))) := by rw [← e4', upd_same]; exact congrArg (fun z => some (HO.lst z)) ecut
    refine ⟨r3, r4, _, _, rfl, rfl, s10 _ _ e9, e10, two_line (by rw [List.length_append, List.length_take, List.length_drop]; show _ + 1 + _ ≤ 1000; omega), fun r hr' => ?_⟩
    have sB := sA.trans s10
    have kkB := kF.trans (Kp.same sB)
    have stB := stF.same sB
    have sr := same_new hr' (.lst ((xs.take m ++ [.ref t7]) ++ xs.drop (m + 1)))
    have hpr : PrAt H7 (.ref t7) (cF, fF) := ⟨t7, cvF, rfl, e7, hcF.same (s3.trans s7)⟩
    refine q _ r ((ps.take m ++ [(cF, fF)]) ++ ps.drop (m + 1)) (kkB.trans (Kp.same sr)) (stB.same sr) (kkB.free stB hr')
      ⟨_, upd_same, ((((hxsF.take m).same sB).append (PsIt.one (hpr.same ((s8.trans s9).trans s10)))).append ((hxsF.drop (m + 1)).same sB)).same sr⟩ (((hpo.take m).append (PsOk.one pokF)).append (hpo.drop (m + 1))) ?_
    rw [List.length_append, List.length_append, List.length_take, List.length_drop]
    show _ + 1 + _ ≤ _
    omega
end
end K70

namespace K70
open PySem PySem.Spec PyProof.Rows L2
theorem IntP.ok {ps : List (Cs × Fl)} (h : IntP ps) : PsOk ps := fun p hp => by
  obtain ⟨a, b, k, rfl⟩ := h p hp
  exact ⟨rfl, rfl⟩
abbrev s_law_pairs : Stmt := topS 49
theorem sc_law_pairs : FnScope ["_law_script", "_law_state", "_law_log", "_law_start_here", "_law_pairs_here", "_law_k", "_law_case"] ["_law_script", "_law_state", "_law_log", "_law_start_here"] (defScope s_law_pairs) := ⟨rfl, rfl, rfl, by decide +kernel, rfl, by decide +kernel, by decide +kernel⟩
def spPairs (K : PySem.W.Frag) (C : Addr) : Sp := fun vs H Q _ => ∃ (a st g s : Addr) (ns : List Int) (n l : Nat), vs = [.ref a, .ref st, .ref g, .ref s] ∧ Scr K H a ns ∧ StAt H st ∧ LogAt C H g n l ∧ H s = some (.tup [.int (n : Nat), .int (l : Nat)]) ∧ 1 ≤ n ∧ n ≤ 24 ∧ l ≤ 8 ∧ (n = 1 ∨ 1 ≤ l) ∧
  ∀ (H' : Hp) (r : Addr) (ps : List (Cs × Fl)), Kp st H H' → StAt H' st → PsAt H' r ps → PsOk ps → ps.length ≤ 300 → Q (.ref r) H'
section
variable {P : Program} {w : World} {K : PySem.W.Frag} {mg : Str → Option Value} {base : Heap} {f C CP CN CE : Addr} {fd : FuncData}
theorem ok_law_pairs (F : Fun K "_law_pairs" "_law_pairs" s_law_pairs f fd) (T : Bs mg) (a_law_draw : Av P w K mg base CX0 1 "_law_draw" ["_law_script", "_law_state", "_law_limit"] (spDraw K)) (a_house_paper : Av P w K mg base CX0 3 "house_paper" ["houselog"] (spPaper C))
    (a_law_changed : Av P w K mg base CX0 2 "_law_changed" ["_law_script", "_law_state", "_law_pairs_here", "_law_start_here"] (spChanged K)) : FnOk P w K mg base CX0 4 f fd ["_law_script", "_law_state", "_law_log", "_law_start_here"] (spPairs K C) := by
  refine F.ok sc_law_pairs (fun vs H Q E h => ?_) (fun cdv A outer s H vs Q E hr h => ?_)
  · obtain ⟨a, st, g, s, ns, n, l, rfl, _⟩ := h
    rfl
  obtain ⟨sc, st, g, s, ns, n, l, rfl, hsc, hst, hg, hs, h1, h24, h8, hgd, q⟩ := h
  have sst : s ≠ st := hst.ne_oth hs fun _ z => nomatch z
  refine ⟨_, (pss_cons (ps_set (i := 4) sc_law_pairs.nd rfl (.inl rfl) (a_house_paper.call hr (by decide) pass0 (pa_cons (pv 2) pa_nil)))
      (pss_cons (ps_if (pt_cmpR op_eq (a_law_draw.call hr (by decide) pass0 (pa_cons (pv 0) (pa_cons (pv 1) (pa_cons pe_int pa_nil)))) pe_int (nomark _)) (pss_cons (ps_set (i := 4) sc_law_pairs.nd rfl (.inl rfl) (pe_lst pa_nil))
      (pss_one (ps_for PassesOwn.never rfl (pi_range1 (by rfl) T.range (pa_cons (a_law_draw.call hr (by decide) pass0 (pa_cons (pv 0) (pa_cons (pv 1) (pa_cons pe_int pa_nil)))) pa_nil)) (pg_name (i := 5) sc_law_pairs.nd rfl (.inl rfl)) (pss_cons (ps_set (i := 6) sc_law_pairs.nd rfl (.inl rfl) (pe_tup (pa_cons (pe_op op_add pe_int (a_law_draw.call hr (by decide) pass0 (pa_cons (pv 0) (pa_cons (pv 1) (pa_cons (pe_ix ix_tup (pv 3) pe_int (fun _ _ => rfl)) pa_nil))))) (pa_cons (a_law_draw.call hr (by decide) pass0 (pa_cons (pv 0) (pa_cons (pv 1) (pa_cons (pe_op op_add (pe_ix ix_tup (pv 3) pe_int (fun _ _ => rfl)) pe_int) pa_nil)))) pa_nil))))
      (pss_one (ps_expr (pe_bm PySem.F.plainAttrs_list PySem.F.slot_list_append PySem.F.type_list_append mt_append (pv 4) (pa_cons (pe_tup (pa_cons (pv 6) (pa_cons (a_law_draw.call hr (by decide) pass0 (pa_cons (pv 0) (pa_cons (pv 1) (pa_cons pe_int pa_nil)))) pa_nil))) pa_nil)))))))) pss_nil)
      (pss_cons (ps_for PassesOwn.never rfl (pi_range1 (by rfl) T.range (pa_cons (a_law_draw.call hr (by decide) pass0 (pa_cons (pv 0) (pa_cons (pv 1) (pa_cons pe_int pa_nil)))) pa_nil)) (pg_name (i := 5) sc_law_pairs.nd rfl (.inl rfl)) (pss_one (ps_if (pt_cmpR op_gt (pe_callB call_len_seq (by rfl) T.len bo_len (pa_cons (pv 4) pa_nil)) pe_int (nomark _)) (pss_one (ps_set (i := 4) sc_law_pairs.nd rfl (.inl rfl) (a_law_changed.call hr (by decide) pass0 (pa_cons (pv 0) (pa_cons (pv 1) (pa_cons (pv 4) (pa_cons (pv 3) pa_nil))))))) pss_nil)))
      (pss_one (ps_ret (pv 4)))))), ?_⟩
  refine ⟨_, rfl, g, n, l, rfl, hg, h1, h24, h8, hgd, fun H1 p ps s1 hp0 pa ip pl => ?_⟩
  have st1 := hst.same s1
  have k1 : Kp st H H1 := Kp.same s1
  refine ⟨_, rfl, _, rfl, sc, st, ns, 3, rfl, hsc.kp hst k1, st1, by decide, by decide, fun d0 H2 e0 e1 k2 st2 => ?_⟩
  have kk2 := k1.trans k2
  refine ⟨rfl, _, rfl, iteD (fun c => ?_) fun c => ?_⟩
  case' refine_1 =>
    refine ⟨two_line (by show 0 ≤ 1000; decide), fun r hr' => ?_⟩
    have rst := st2.ne_none hr'
    have hr0 := kk2.free st2 hr'
    have s3 := same_new hr' (.lst [])
    have e3 := upd_same (H := H2) (a := r) (o := .lst [])
    generalize L2.upd H2 r (.lst []) = H3 at s3 e3 ⊢
    have st3 := st2.same s3
    have kk3 := kk2.trans (Kp.same s3)
    refine ⟨_, rfl, _, rfl, sc, st, ns, 7, rfl, hsc.kp hst kk3, st3, by decide, by decide, fun cnt H4 c0 c1 k4 st4 => ⟨cnt, rfl, by omega, by omega, ?_⟩⟩
    refine for_range (lo := 0) (n := cnt.toNat) (fun j σ H' => ∃ (o5 o6 : Option V) (acc : List V) (ps : List (Cs × Fl)), σ = [some (.ref sc), some (.ref st), some (.ref g), some (.ref s), some (.ref r), o5, o6] ∧ Kp st H H' ∧ StAt H' st ∧ H' r = some (.lst acc) ∧ PsIt H' acc ps ∧ IntP ps ∧ ps.length = j)
      ⟨none, none, [], [], rfl, kk3.trans k4, st4, k4 _ _ rst e3, PsIt.nil, (fun _ h => nomatch h), rfl⟩ ?_ ?_
    · rintro j σ H' hj ⟨o5, o6, acc, ps, rfl, k, st', er, pi, ip, lp⟩
      have hs' := k _ _ sst hs
      refine ⟨_, rfl, _, rfl, _, rfl, s, _, 0, _, rfl, rfl, .of hs', rfl, sc, st, ns, _, rfl, hsc.kp hst k, st', by omega, by omega, fun x1 H5 _ _ k5 st5 => ?_⟩
      refine ⟨_, _, rfl, rfl, _, rfl, _, rfl, _, rfl, s, _, 1, _, rfl, rfl, .of (k5 _ _ sst hs'), rfl, _, _, rfl, rfl, sc, st, ns, _, rfl, hsc.kp hst (k.trans k5), st5, by omega, by omega, fun x2 H6 _ _ k6 st6 => ⟨two_line (by show 2 ≤ 1000; decide), fun t ht => ?_⟩⟩
      generalize e7' : L2.upd H6 t _ = H7
      have s7 : Same H6 H7 := by rw [← e7']; exact same_new ht _
      have e7 : H7 t = some (.tup [.int (1 + x1), .int x2]) := by rw [← e7']; exact upd_same
      have k57 := (k5.trans k6).trans (Kp.same s7)
      have st7 := st6.same s7
      have er7 := k57 _ _ rst er
      have kk7 := k.trans k57
      refine ⟨_, rfl, .inl ⟨rfl, _, SqL.of er7⟩, _, rfl, _, rfl, _, rfl, sc, st, ns, 3, rfl, hsc.kp hst kk7, st7, by decide, by decide, fun x3 H8 _ _ k8 st8 => ⟨two_line (by show 2 ≤ 1000; decide), fun u hu => ?_⟩⟩
      generalize e9' : L2.upd H8 u _ = H9
      have s9 : Same H8 H9 := by rw [← e9']; exact same_new hu _
      have e9 : H9 u = some (.tup [.ref t, .int x3]) := by rw [← e9']; exact upd_same
      have et9 : H9 t = some (.tup [.int (1 + x1), .int x2]) := s9 _ _ (k8 _ _ (st7.ne_oth e7 fun _ z => nomatch z) e7)
      have er9 : H9 r = some (.lst acc) := s9 _ _ (k8 _ _ rst er7)
      have st9 := st8.same s9
      have kk9 := (kk7.trans k8).trans (Kp.same s9)
      refine ⟨r, acc, _, rfl, rfl, er9, small1000 (by rw [pi.1]; omega), _, _, acc ++ [.ref u], ps ++ [(.tup [.int (1 + x1), .int x2], .int x3)], rfl, kk9.updR hr0, st9.upd rst, upd_same, ?_, ?_, by rw [List.length_append, lp]; rfl⟩
      · have pi9 : PsIt H9 acc ps := ((pi.kp st' k57).kp st7 k8).same s9
        exact PsIt.snoc (pi9.updL er9 ip.noL) (PrAt.updL (p := (.tup [.int (1 + x1), .int x2], .int x3)) ⟨u, .ref t, rfl, e9, t, rfl, et9⟩ er9 fun _ z => nomatch z)
      · intro x hx
        rcases List.mem_append.mp hx with z | z
        · exact ip x z
        · exact ⟨_, _, _, List.mem_singleton.mp z⟩
    rintro σ H' ⟨o5, o6, acc, ps', rfl, kB, stB, er, pi, ip', lp⟩
    have paB : PsAt H' r ps' := ⟨acc, er, pi⟩
    have poB := ip'.ok
    have lB : ps'.length ≤ 225 := by omega
    revert kB stB paB poB lB
    generalize ps' = PS
    generalize r = PL
    generalize H' = HB
    intro kB stB paB poB lB
  case' refine_2.refine_2 =>
    have kB := kk2
    have stB := st2
    have paB : PsAt H2 p ps := (pa.kp st1 k2)
    have poB := ip.ok
    have lB := pl
    revert kB stB paB poB lB
    generalize ps = PS
    generalize p = PL
    generalize H2 = HB
    intro kB stB paB poB lB
  all_goals
    refine ⟨_, rfl, _, rfl, sc, st, ns, 4, rfl, hsc.kp hst kB, stB, by decide, by decide, fun cnt HC b0 b1 kC stC => ⟨cnt, rfl, by omega, by omega, ?_⟩⟩
    refine for_range (lo := 0) (n := cnt.toNat) (fun j σ H' => ∃ (o5 o6 : Option V) (r : Addr) (ps : List (Cs × Fl)), σ = [some (.ref sc), some (.ref st), some (.ref g), some (.ref s), some (.ref r), o5, o6] ∧ Kp st H H' ∧ StAt H' st ∧ PsAt H' r ps ∧ PsOk ps ∧ ps.length ≤ 225 + j)
      ⟨_, _, PL, PS, rfl, kB.trans kC, stC, paB.kp stB kC, poB, by omega⟩ ?_ ?_
    · rintro j σ H' hj ⟨o5, o6, r, ps, rfl, k, st', pa, po, pl⟩
      obtain ⟨xs, ep, hxs⟩ := id pa
      refine ⟨_, rfl, r, xs, rfl, .inl (.of ep), _, _, rfl, rfl, _, rfl, iteD (fun c => ?_) fun _ => ⟨_, _, r, ps, rfl, k, st', pa, po, by omega⟩⟩
      have l1 : 1 ≤ ps.length := by have := hxs.1; omega
      refine ⟨_, rfl, _, rfl, _, rfl, _, rfl, sc, st, r, s, ns, ps, n, l, rfl, hsc.kp hst k, st', pa, po, l1, by omega, k _ _ sst hs, h1, h24, h8, fun H5 r' ps' k5 st5 _ pa' po' pl' => ?_⟩
      exact ⟨_, _, r', ps', rfl, k.trans k5, st5, pa', po', by omega⟩
    · rintro σ H' ⟨o5, o6, r, ps, rfl, k, st', pa, po, pl⟩
      exact ⟨_, rfl, q H' r ps k st' pa po (by omega)⟩
end
end K70

namespace K70
open PySem PySem.Spec PyProof.Rows L2
/-! ### answers as data -/
def dueF : Option (Nat × Str) → List Fl
  | none => [.str "fine"]
  | some (k, x) => [.str "paper", .int (k : Nat), .str x]
theorem dueV_eq (o : Option (Nat × Str)) : dueV o = (dueF o).map Fl.v := by
  cases o with
  | none => rfl
  | some b => obtain ⟨k, x⟩ := b; rfl
def flD (fs : List Fl) : PyData := .list (fs.map Fl.d)
def FsOk (fs : List Fl) : Prop := PyData.canLayAll0 (fs.map Fl.d) = true
theorem flD_shaped {fs : List Fl} (h : FsOk fs) : SeqAt.shaped (flD fs) = true := by
  unfold SeqAt.shaped flD
  rw [PyData.canLay0, h, PyData.depth, Fl.deps]
  rfl
theorem flD_same {fs : List Fl} (h : FsOk fs) : PyData.eqv (flD fs) (flD fs) = true := PySem.SeqAt.eqv_refl _ (PySem.SeqAt.canLay_of_shaped (flD_shaped h))
theorem flD_dp {K : PySem.W.Frag} {H : Hp} {a : Addr} {fs : List Fl} (h : H a = some (.lst (fs.map Fl.v))) : Dp K H (.ref a) (flD fs) := .lst (.of h) (Fl.dps fs)
theorem ok_state_txt : PyData.strOk ("state" : Str) = true := by decide +kernel
theorem ok_number_txt : PyData.strOk ("number" : Str) = true := by decide +kernel
theorem ok_one_txt : PyData.strOk ("one" : Str) = true := by decide +kernel
theorem ok_step_txt : PyData.strOk ("step" : Str) = true := by decide +kernel
theorem ok_start_txt : PyData.strOk ("start" : Str) = true := by decide +kernel
theorem ok_fine_txt : PyData.strOk ("fine" : Str) = true := by decide +kernel
theorem ok_paper_txt : PyData.strOk ("paper" : Str) = true := by decide +kernel
theorem ok_probes_txt : PyData.strOk ("probes" : Str) = true := by decide +kernel
theorem fault_txt {st : Nat × Nat} {t : Top} {p : Cs × Fl} {x : Str} (h : fault st t p = some x) : PyData.strOk x = true := by
  unfold fault at h
  split at h
  · cases h; exact ok_state_txt
  · split at h
    · cases h; exact ok_number_txt
    · split at h
      · cases h; exact ok_number_txt
      · split at h
        · cases h; exact ok_one_txt
        · split at h
          · cases h; exact ok_step_txt
          · cases h
theorem firstBad_txt {f : Cs × Fl → Option Str} (hf : ∀ p x, f p = some x → PyData.strOk x = true) : ∀ (ps : List (Cs × Fl)) (k : Nat) (b : Nat × Str), firstBad f ps k = some b → PyData.strOk b.2 = true
  | [], _, _, h => by cases h
  | p :: r, k, b, h => by
    unfold firstBad at h
    cases e : f p with
    | some x => rw [e] at h; cases h; exact hf p x e
    | none => rw [e] at h; exact firstBad_txt hf r (k + 1) b h
theorem verdict_txt {st : Nat × Nat} {ps : List (Cs × Fl)} {v : Int} : FsOk (dueF (verdict st ps v)) := by
  have go : ∀ b, verdict st ps v = some b → PyData.strOk b.2 = true := fun b hb => by
    unfold verdict at hb
    split at hb
    · rename_i b' e
      cases hb
      exact firstBad_txt (fun p x h => fault_txt h) _ _ _ e
    · split at hb
      · cases hb
      · cases hb; exact ok_start_txt
  unfold FsOk
  cases e : verdict st ps v with
  | none =>
    show PyData.canLayAll0 [PyData.str "fine"] = true
    rw [PyData.canLayAll0, PyData.canLay0, ok_fine_txt, PyData.canLayAll0]; rfl
  | some b =>
    have z := go b e
    obtain ⟨k, x⟩ := b
    show PyData.canLayAll0 [PyData.str "paper", .int _, .str x] = true
    rw [PyData.canLayAll0, PyData.canLay0, ok_paper_txt, PyData.canLayAll0, PyData.canLay0, PyData.canLayAll0, PyData.canLay0, show PyData.strOk x = true from z, PyData.canLayAll0]; rfl
def oddF (x : Fl) : List Fl := [.str "number", .str "probes", x]
theorem toldV_neg {i : Int} {st : Nat × Nat} {ps : List (Cs × Fl)} (h : ¬ 0 ≤ i) : toldV (.int i) st ps = (oddF (.int i)).map Fl.v := by
  show (if 0 ≤ i then dueV (verdict st ps i) else [V.str "number", .str "probes", .int i]) = _
  rw [if_neg h]
  rfl
theorem odd_txt {x : Fl} (h : x.d.canLay0 = true) : FsOk (oddF x) := by
  unfold FsOk oddF
  show PyData.canLayAll0 [PyData.str "number", .str "probes", x.d] = true
  rw [PyData.canLayAll0, PyData.canLay0, ok_number_txt, PyData.canLayAll0, PyData.canLay0, ok_probes_txt, PyData.canLayAll0, h, PyData.canLayAll0]; rfl
theorem fine_eqv {o : Option (Nat × Str)} : PyData.eqv (flD (dueF o)) (flD [.str "fine"]) = o.isNone := by
  cases o with
  | none => exact flD_same (fs := [.str "fine"]) (by
      show PyData.canLayAll0 [PyData.str "fine"] = true
      rw [PyData.canLayAll0, PyData.canLay0, ok_fine_txt, PyData.canLayAll0]; rfl)
  | some b =>
    obtain ⟨k, x⟩ := b
    show PyData.eqv (.list [PyData.str "paper", .int _, .str x]) (.list [PyData.str "fine"]) = false
    rw [PyData.eqv, PyData.eqvAll, PyData.eqvAll]
    simp
theorem fine_ok : FsOk [.str "fine"] := by
  show PyData.canLayAll0 [PyData.str "fine"] = true
  rw [PyData.canLayAll0, PyData.canLay0, ok_fine_txt, PyData.canLayAll0]; rfl
abbrev s_law : Stmt := topS 50
theorem sc_law : FnScope ["_law_script", "_law_state", "_law_numbers_here", "_law_log", "_law_start_here", "_law_least_here", "_law_k", "_law_pairs_here", "_law_kept", "_law_v", "_law_due", "_law_odd"] ["_law_script"] (defScope s_law) := ⟨rfl, rfl, rfl, by decide +kernel, rfl, by decide +kernel, by decide +kernel⟩
def spLaw (K : PySem.W.Frag) : Sp := fun vs H Q _ => ∃ (a : Addr) (ns : List Int), vs = [.ref a] ∧ SqL K H a (ns.map V.int) ∧ Only H ∧ ∀ H', Q (.bl true) H'
section
variable {P : Program} {w : World} {K : PySem.W.Frag} {mg : Str → Option Value} {base : Heap} {f C CP CN CE : Addr} {fd : FuncData}
theorem ok_law (F : Fun K "law" "law" s_law f fd) (T : Bs mg) (a_law_start : Av P w K mg base CX0 1 "_law_start" ["_law_script"] (spStartK K)) (a_law_houses : Av P w K mg base CX0 8 "_law_houses" ["_law_script", "_law_state"] (spHouses K C))
    (a_law_least : Av P w K mg base CX0 26 "_law_least" ["_law_known", "_law_case"] (spLeast 24)) (a_law_pairs : Av P w K mg base CX0 4 "_law_pairs" ["_law_script", "_law_state", "_law_log", "_law_start_here"] (spPairs K C))
    (a_law_draw : Av P w K mg base CX0 1 "_law_draw" ["_law_script", "_law_state", "_law_limit"] (spDraw K)) (a_law_verdict : Av P w K mg base CX0 4 "_law_verdict" ["_law_pairs_here", "_law_v", "_law_start_here"] spVerdict)
    (a_law_told_by : Av P w K mg base CX0 5 "_law_told_by" ["_law_log", "_law_v", "_law_pairs_here"] (spToldBy C)) : FnOk P w K mg base CX0 30 f fd ["_law_script"] (spLaw K) := by
  refine F.ok sc_law (fun vs H Q E h => ?_) (fun cdv A outer s H vs Q E hr h => ?_)
  · obtain ⟨a, ns, rfl, _⟩ := h
    rfl
  obtain ⟨sc, ns, rfl, hsl, hon, q⟩ := h
  have hu := hu_of hr
  have hsc0 : Scr K H sc ns := Scr.of hsl hon
  refine ⟨_, (pss_cons (ps_set (i := 1) sc_law.nd rfl (.inl rfl) (a_law_start.call hr (by decide) pass0 (pa_cons (pv 0) pa_nil)))
      (pss_cons (ps_asg (a_law_houses.call hr (by decide) pass0 (pa_cons (pv 0) (pa_cons (pv 1) pa_nil))) (pg_tup (by rfl) (pgs_cons (pg_name (i := 2) sc_law.nd rfl (.inl rfl)) (pgs_cons (pg_name (i := 3) sc_law.nd rfl (.inl rfl)) (pgs_cons (pg_name (i := 4) sc_law.nd rfl (.inl rfl)) pgs_nil)))))
      (pss_cons (ps_set (i := 5) sc_law.nd rfl (.inl rfl) (a_law_least.call hr (by decide) pass0 (pa_cons pe_dnewT (pa_cons (pv 4) pa_nil))))
      (pss_cons (ps_for PassesOwn.never rfl (pi_range1 (by rfl) T.range (pa_cons pe_int pa_nil)) (pg_name (i := 6) sc_law.nd rfl (.inl rfl)) (pss_cons (ps_set (i := 7) sc_law.nd rfl (.inl rfl) (a_law_pairs.call hr (by decide) pass0 (pa_cons (pv 0) (pa_cons (pv 1) (pa_cons (pv 3) (pa_cons (pv 4) pa_nil))))))
      (pss_cons (ps_set (i := 8) sc_law.nd rfl (.inl rfl) (pe_callTy call_list_of (by rfl) T.lst bo_lst (pa_cons (pv 7) pa_nil)))
      (pss_cons (ps_set (i := 9) sc_law.nd rfl (.inl rfl) (pe_callB (call_max2 rfl) (by rfl) T.max bo_max (pa_cons pe_int (pa_cons (pe_callTy call_int1 (by rfl) T.int bo_int (pa_cons (pe_op op_sub (pe_op op_add (pv 5) (a_law_draw.call hr (by decide) pass0 (pa_cons (pv 0) (pa_cons (pv 1) (pa_cons pe_int pa_nil))))) pe_int) pa_nil)) pa_nil))))
      (pss_cons (ps_set (i := 10) sc_law.nd rfl (.inl rfl) (a_law_verdict.call hr (by decide) pass0 (pa_cons (pv 7) (pa_cons (pv 9) (pa_cons (pv 4) pa_nil)))))
      (pss_cons (ps_if (PW.pt (pw_or (pt_cmpR (op_neD hr.units) (a_law_told_by.call hr (by decide) pass0 (pa_cons (pv 3) (pa_cons (pv 9) (pa_cons (pv 7) pa_nil)))) (pv 10) (nomark _)) (pw_or1 (pt_cmpR (op_neD hr.units) (pv 7) (pv 8) (nomark _))))) (pss_one (ps_ret pe_bl)) pss_nil)
      (pss_cons (ps_if (PW.pt (pw_and (pt_cmpR (op_eqD hr.units) (pv 10) (pe_lst (pa_cons pe_str pa_nil)) (nomark _)) (pw_and1 (pt_cmpR op_gt (pv 9) (pv 5) (nomark _))))) (pss_one (ps_ret pe_bl)) pss_nil)
      (pss_cons (ps_set (i := 11) sc_law.nd rfl (.inl rfl) (pe_ix ix_list (pe_lst (pa_cons (pe_un un_neg pe_int) (pa_cons pe_bl (pa_cons pe_non (pa_cons (pe_un un_neg (pe_op op_pow pe_int pe_int)) pa_nil))))) (a_law_draw.call hr (by decide) pass0 (pa_cons (pv 0) (pa_cons (pv 1) (pa_cons pe_int pa_nil)))) (fun _ _ => rfl)))
      (pss_one (ps_if (PW.pt (pw_or (pt_cmpR (op_neD hr.units) (a_law_told_by.call hr (by decide) pass0 (pa_cons (pv 3) (pa_cons (pv 11) (pa_cons (pv 7) pa_nil)))) (pe_lst (pa_cons pe_str (pa_cons pe_str (pa_cons (pv 11) pa_nil)))) (nomark _)) (pw_or1 (pt_cmpR (op_neD hr.units) (pv 7) (pv 8) (nomark _))))) (pss_one (ps_ret pe_bl)) pss_nil))))))))))
      (pss_one (ps_ret pe_bl)))))), ?_⟩
  refine ⟨_, rfl, sc, ns, rfl, hsl, fun H1 st s1 hst0 hst => ?_⟩
  have hsc := hsc0.same s1
  refine ⟨_, rfl, _, rfl, sc, st, ns, rfl, hsc, hst, fun H2 t nl g c n l k2 st2 ht0 ht lg ec h1 h24 h8 hgd => ?_⟩
  refine ⟨t, _, rfl, .of ht, rfl, _, _, rfl, _, _, rfl, _, _, rfl, rfl, ?_⟩
  refine fun d hd => ⟨_, rfl, d, c, [], [], n, l, rfl, upd_same, Kn.nil, same_new hd _ _ _ ec, h1, h24, h24, h8, hgd, fun H3 kvs cs k3 ed3 kn3 sub => ?_⟩
  have s3 : Same H2 H3 := fun b o hb => k3 b o (ne_of_none hb hd) (same_new hd _ _ _ hb)
  have st3 := st2.same s3
  have kk3 : Kp st H1 H3 := k2.trans (Kp.same s3)
  have cst : c ≠ st := st2.ne_oth ec fun _ z => nomatch z
  refine ⟨5, rfl, by decide, by decide, ?_⟩
  refine for_range (lo := 0) (n := (5 : Int).toNat) (fun j σ H' => ∃ (o6 o7 o8 o9 o10 o11 : Option V), σ = [some (.ref sc), some (.ref st), some (.ref nl), some (.ref g), some (.ref c), some (.int (least (n, l) : Nat)), o6, o7, o8, o9, o10, o11] ∧ Kp st H1 H' ∧ StAt H' st ∧ LogAt C H' g n l ∧ H' c = some (.tup [.int (n : Nat), .int (l : Nat)]))
    ⟨none, none, none, none, none, none, rfl, kk3, st3, lg.same s3, s3 _ _ ec⟩ ?_ ?_
  · rintro j σ H' hj ⟨o6, o7, o8, o9, o10, o11, rfl, k, st', lg, ec⟩
    refine ⟨_, rfl, _, rfl, _, rfl, _, rfl, sc, st, g, c, ns, n, l, rfl, hsc.kp hst k, st', lg, ec, h1, h24, h8, hgd, fun H4 p ps k4 st4 pa po pl => ?_⟩
    obtain ⟨xs, ep, hxs⟩ := id pa
    refine ⟨_, rfl, p, xs, rfl, .inl (.of ep), fun kp hkp => ?_⟩
    have s5 := same_new hkp (.lst xs)
    have e5 := upd_same (H := H4) (a := kp) (o := .lst xs)
    generalize L2.upd H4 kp (.lst xs) = H5 at s5 e5 ⊢
    have st5 := st4.same s5
    have kk5 := (k.trans k4).trans (Kp.same s5)
    have pa5 := pa.same s5
    have pk5 : PsAt H5 kp ps := ⟨xs, e5, hxs.same s5⟩
    have lg5 := (lg.kp st' k4).same s5
    have ec5 := s5 _ _ (k4 _ _ cst ec)
    refine ⟨_, rfl, _, rfl, _, rfl, sc, st, ns, 3, rfl, hsc.kp hst kk5, st5, by decide, by decide, fun dI H6 d0 d1 k6 st6 => ⟨_, _, rfl, rfl, _, _, rfl, rfl, .inl ⟨_, rfl, _, _, rfl, ?_⟩⟩⟩
    let v : Int := if ((least (n, l) : Nat) : Int) + dI - 1 > 0 then ((least (n, l) : Nat) : Int) + dI - 1 else 0
    have hv0 : 0 ≤ v := by
      show 0 ≤ (if ((least (n, l) : Nat) : Int) + dI - 1 > 0 then ((least (n, l) : Nat) : Int) + dI - 1 else 0)
      split <;> omega
    have pst : p ≠ st := pa.ne st4
    have kpst : kp ≠ st := st4.ne_none hkp
    have kk6 := kk5.trans k6
    have pa6 := pa5.kp st5 k6
    have pk6 := pk5.kp st5 k6
    have lg6 := lg5.kp st5 k6
    have ec6 := k6 _ _ cst ec5
    refine ⟨_, rfl, _, rfl, _, rfl, p, c, v, ps, n, l, rfl, pa6, by omega, ec6, h24, fun H7 r s7 hr7 er => ?_⟩
    rw [dueV_eq] at er
    refine ⟨_, rfl, _, rfl, _, rfl, g, n, l, .int v, p, ps, rfl, lg6.same s7, h24, pa6.same s7, by omega, fun H8 r2 s8 hr8 er2 => ?_⟩
    have er2' : H8 r2 = some (.lst ((dueF (verdict (n, l) ps v)).map Fl.v)) := by
      rw [er2]
      show some (HO.lst (if 0 ≤ v then dueV (verdict (n, l) ps v) else _)) = _
      rw [if_pos hv0, dueV_eq]
    have er8 := s8 _ _ er
    have s68 := s7.trans s8
    have pa8 := pa6.same s68
    have pk8 := pk6.same s68
    have dps : ∀ {H' : Hp} {r' : Addr}, PsAt H' r' ps → Dp K H' (.ref r') (psD ps) := fun {H' r'} h => by
      obtain ⟨ys, e, z⟩ := h
      exact .lst (.of e) (psD_dp z)
    refine ⟨_, rfl, flD _, flD _, flD_dp er2', flD_dp er8, flD_shaped verdict_txt, flD_shaped verdict_txt, false, congrArg V.bl (by rw [flD_same verdict_txt]; rfl), iteF ?_⟩
    refine ⟨_, rfl, _, rfl, psD ps, psD ps, dps pa8, dps pk8, psD_shaped po, psD_shaped po, false, congrArg V.bl (by rw [psD_same po]; rfl), iteF ?_⟩
    refine ⟨_, rfl, two_line (by show 1 ≤ 1000; decide), fun r3 h3 => ?_⟩
    have s9 := same_new h3 (.lst [.str "fine"])
    have e9 := upd_same (H := H8) (a := r3) (o := .lst [.str "fine"])
    generalize L2.upd H8 r3 (.lst [.str "fine"]) = H9 at s9 e9 ⊢
    refine ⟨flD _, flD [.str "fine"], flD_dp (s9 _ _ er8), flD_dp (fs := [.str "fine"]) e9, flD_shaped verdict_txt, flD_shaped fine_ok, (verdict (n, l) ps v).isNone, congrArg V.bl fine_eqv, iteB (fun hb => ?_) fun hb => ?_⟩
    case' refine_1 =>
      have hle : v ≤ (least (n, l) : Nat) := right_sound (by cases e : verdict (n, l) ps v with | none => rfl | some b => rw [e] at hb; cases hb) hv0
      have hno : ¬ ((least (n, l) : Nat) : Int) < v := by omega
      refine ⟨_, rfl, _, rfl, _, _, rfl, rfl, _, rfl, iteD (fun cc => absurd cc hno) fun _ => ?_⟩
    all_goals
      have s69 := s68.trans s9
      have st9 := st6.same s69
      have kk9 := kk6.trans (Kp.same s69)
      refine ⟨1, rfl, _, _, rfl, rfl, ⟨by decide, by decide, by decide⟩, _, rfl, two_line (by show 4 ≤ 1000; decide), fun L hL => ?_⟩
      generalize eX : L2.upd H9 L _ = H10
      have s10 : Same H9 H10 := by rw [← eX]; exact same_new hL _
      have eL : H10 L = some (.lst [.int (-1), .bl true, .non, .int (-((10 : Int) ^ (20 : Int).toNat))]) := by rw [← eX]; exact upd_same
      have Lst : L ≠ st := st9.ne_none hL
      have st10 := st9.same s10
      have kk10 := kk9.trans (Kp.same s10)
      refine ⟨_, rfl, _, rfl, sc, st, ns, 4, rfl, hsc.kp hst kk10, st10, by decide, by decide, fun d H11 e0 e1 k11 st11 => ?_⟩
      obtain ⟨f, hat, hto, hfo⟩ : ∃ f : Fl, atI [V.int (-1), .bl true, .non, .int (-((10 : Int) ^ (20 : Int).toNat))] d = some f.v ∧ toldV f (n, l) ps = (oddF f).map Fl.v ∧ f.d.canLay0 = true := by
        have h4 : d = 0 ∨ d = 1 ∨ d = 2 ∨ d = 3 := by omega
        rcases h4 with rfl | rfl | rfl | rfl
        · exact ⟨.int (-1), rfl, toldV_neg (by decide), rfl⟩
        · exact ⟨.bl true, rfl, rfl, rfl⟩
        · exact ⟨.non, rfl, rfl, rfl⟩
        · exact ⟨.int (-((10 : Int) ^ (20 : Int).toNat)), rfl, toldV_neg (by decide), rfl⟩
      refine ⟨L, _, d, f.v, rfl, rfl, .of (k11 _ _ Lst eL), hat, ?_⟩
      have pa11 := (pa8.same (s9.trans s10)).kp st10 k11
      have pk11 := (pk8.same (s9.trans s10)).kp st10 k11
      have lg11 := (lg6.same (s69.trans s10)).kp st10 k11
      have ec11 := k11 _ _ cst ((s69.trans s10) _ _ ec6)
      refine ⟨_, rfl, _, rfl, _, rfl, g, n, l, f, p, ps, rfl, lg11, h24, pa11, by omega, fun H12 r4 s12 hr12 er4 => ?_⟩
      rw [hto] at er4
      refine ⟨_, rfl, two_line (by show 3 ≤ 1000; decide), fun r5 h5 => ?_⟩
      generalize eY : L2.upd H12 r5 _ = H13
      have s13 : Same H12 H13 := by rw [← eY]; exact same_new h5 _
      have e13 : H13 r5 = some (.lst ((oddF f).map Fl.v)) := by rw [← eY]; exact upd_same
      refine ⟨flD _, flD _, flD_dp (s13 _ _ er4), flD_dp e13, flD_shaped (odd_txt hfo), flD_shaped (odd_txt hfo), false, congrArg V.bl (by rw [flD_same (odd_txt hfo)]; rfl), iteF ?_⟩
      have sE := s12.trans s13
      refine ⟨_, rfl, _, rfl, psD ps, psD ps, dps (pa11.same sE), dps (pk11.same sE), psD_shaped po, psD_shaped po, false, congrArg V.bl (by rw [psD_same po]; rfl), iteF ?_⟩
      exact ⟨_, _, _, _, _, _, rfl, (kk10.trans k11).trans (Kp.same sE), st11.same sE, lg11.same sE, sE _ _ ec11⟩
  · rintro σ H' ⟨o6, o7, o8, o9, o10, o11, rfl, k, st', lg, ec⟩
    exact q H'
end
end K70

namespace K70
open PySem PySem.Spec PyProof.Rows L2
/-! ## What the top has written -/
def Df (K : PySem.W.Frag) (n : Str) (st : Stmt) : Prop := ∃ f fd, PySem.W.nsIn K mainGlobals n = some (some (.ref f)) ∧ L2.Fun K n n st f fd
theorem df_mk {K : PySem.W.Frag} {n : Str} {st : Stmt} {f : Addr} {oc : Value} {od an : Option Addr} {osl : Array (Option Value)} {kV doc pm cdv ct : Value} (a : PySem.W.nsIn K mainGlobals n = some (some (.ref f)))
    (l : K.lookup f = some ⟨oc, od, .func (PySem.W.fnOf n n (defArgs st) (defBody st) (defScope st) .none kV doc pm an cdv ct), osl⟩) (c : PySem.W.codeIn K cdv n = true) (k : PySem.W.keepIn K (.ref f) = true) : Df K n st := ⟨f, _, a, fun_mk l c k⟩
theorem tok_mk {K : PySem.W.Frag} {n : Str} {i : Int} {t : Tok} (h : PySem.W.nsIn K mainGlobals n = some (some (.int i t))) : ∃ t, PySem.W.nsIn K mainGlobals n = some (some (.int i t)) := ⟨t, h⟩
/-- what «except S» says of an error of the class at A -/
theorem exm_mk {K : PySem.W.Frag} {A S : Addr} {r : Bool} (h1 : PySem.W.subIn K (.ref S) (.type "BaseException") = some true) (h2 : PySem.W.isClsIn K S = true) (h3 : PySem.W.typeIn K (.ref S) = some (.type "type")) (h4 : PySem.W.subIn K (.ref A) (.ref S) = some r) : PySem.W.exmOne K (.ref A) (.ref S) = some r := by
  have e1 : (PySem.W.subIn K (.ref S) (.type "BaseException") == some true) = true := by rw [h1]; rfl
  have e2 : ((PySem.W.clsIn K S).isSome && PySem.W.typeIn K (.ref S) == some (.type "type")) = true := by
    have h2' : (PySem.W.clsIn K S).isSome = true := h2
    rw [h2', h3]; rfl
  show (if (PySem.W.subIn K (.ref S) (.type "BaseException") == some true) = true then (if ((PySem.W.clsIn K S).isSome && PySem.W.typeIn K (.ref S) == some (.type "type")) = true then PySem.W.subIn K (.ref A) (.ref S) else none) else none) = some r
  rw [if_pos e1, if_pos e2]
  exact h4
def Mt (K : PySem.W.Frag) (C : Addr) (n q : Str) (st : Stmt) : Prop := ∃ f fd, PySem.W.findIn K (.ref C) n = some (some (.ref f)) ∧ PySem.W.isFn K (.ref f) = true ∧ L2.Fun K n q st f fd
theorem mt_mk {K : PySem.W.Frag} {C : Addr} {n q : Str} {st : Stmt} {f : Addr} {oc : Value} {od an : Option Addr} {osl : Array (Option Value)} {kV doc pm cdv ct : Value} (a : PySem.W.findIn K (.ref C) n = some (some (.ref f))) (i : PySem.W.isFn K (.ref f) = true)
    (l : K.lookup f = some ⟨oc, od, .func (PySem.W.fnOf n q (defArgs st) (defBody st) (defScope st) .none kV doc pm an cdv ct), osl⟩) (c : PySem.W.codeIn K cdv q = true) (k : PySem.W.keepIn K (.ref f) = true) : Mt K C n q st := ⟨f, _, a, i, fun_mk l c k⟩
/-- an own error's class, but for the names -/
structure BadK (P : Program) (K : PySem.W.Frag) (f1 f2 : Str) (C : Addr) : Prop where
  cls : ∃ nm q N bs bm sn sub ab col dd k0 k1 k2 k3 k5, K.lookup C = some (excClassObj nm q C N bs bm true sn sub ab col dd k0 k1 k2 k3 k5 "ValueError.__new__") ∧ PySem.HandSPX.refsVE bm = true
  sa : PySem.W.findIn K (.ref C) "__setattr__" = some (some (.builtin "object.__setattr__"))
  no1 : PySem.W.findIn K (.ref C) f1 = some none
  no2 : PySem.W.findIn K (.ref C) f2 = some none
  kC : PySem.W.keepIn K (.ref C) = true
  exC : PySem.W.subIn K (.ref C) (.type "BaseException") = some true
  veC : PySem.W.subIn K (.ref C) (.type "ValueError") = some true
  tyC : PySem.W.typeIn K (.ref C) = some (.type "type")
  meC : PySem.W.mroIn K C (.ref C) = some true
  sup : PySem.W.ks_superIn K C C "__init__" = some (some (.builtin "ValueError.__init__"))
  nto : PySem.W.nsIn K cStatics "thirdparty.any" = some none
  top : (P.main.scope.names.lookup ("super" : Str)).isSome = false
  init : ∃ fI, PySem.W.findIn K (.ref C) "__init__" = some (some (.ref fI)) ∧ PySem.W.typeIn K (.ref fI) = some (.type "function") ∧
    ∃ (A : Arguments) (B : List Stmt) (S : Scope) (oc : Value) (od : Option Addr) (kV doc pm : Value) (an : Option Addr) (cda : Addr) (ct : Value) (cc : Addr) (osl : Array (Option Value)) (qual : Str),
      InitOf f1 f2 A B S ∧ K.lookup fI = some ⟨oc, od, .func (PySem.W.ksFn "__init__" qual A B S .none kV doc pm an (.ref cda) ct cc), osl⟩ ∧ PySem.W.codeIn K (.ref cda) qual = true ∧
      (∀ (s : Shared) (x v1 v2 : Value), BindsTo s (PySem.W.ksFn "__init__" qual A B S .none kV doc pm an (.ref cda) ct cc) ⟨[x, v1, v2], []⟩ [("self", x), (f1, v1), (f2, v2)]) ∧
      (∃ (ccl : Value) (cdd : Option Addr) (vs : Array Value) (ccs : Array (Option Value)) (file : Str) (tf : Tok), K.lookup cda = some ⟨ccl, cdd, .fields vs, ccs⟩ ∧ vs[2]? = some (.str file tf) ∧ ((P.main.file : Str) == file) = true) ∧
      (∃ (cl : Value) (cld : Option Addr) (csl : Array (Option Value)), K.lookup cc = some ⟨cl, cld, .cell (some (.ref C)), csl⟩)
theorem BadK.txt {P : Program} {K : PySem.W.Frag} {mg : Str → Option Value} {x f1 f2 : Str} {C : Addr} (b : BadK P K f1 f2 C) (g : mg x = some (.ref C)) (n : mg "super" = none) : BadTxt P K mg x f1 f2 C :=
  { gC := g, cls := b.cls, sa := b.sa, no1 := b.no1, no2 := b.no2, kC := b.kC, exC := b.exC, veC := b.veC, tyC := b.tyC, meC := b.meC, sup := b.sup, noS := n, nto := b.nto, top := b.top, init := b.init }
abbrev s_BadNumber_init : Stmt := inClass (topS 3) 0
abbrev s_BadPaper_init : Stmt := inClass (topS 6) 0

theorem init_BadNumber : InitOf "what" "value" (defArgs s_BadNumber_init) (defBody s_BadNumber_init) (defScope s_BadNumber_init) :=
  { body := ⟨_, _, _, _, _, _, _, _, _, _, _, _, _, _, _, rfl, rfl⟩, first := ⟨_, rfl, rfl⟩, ls := by decide +kernel, lc := by decide +kernel, l0 := by decide +kernel, l1 := by decide +kernel, l2 := by decide +kernel, nocell := by decide +kernel, kd := rfl, gn := rfl, co := rfl,
    n12 := by decide, n10 := by decide, n20 := by decide, d1 := by decide, d2 := by decide }
theorem bad_BadNumber {P : Program} {K : PySem.W.Frag} {C fI cda cc : Addr} {nm q : Str} {N : Addr} {bs bm : List Value} {sn : List Str} {sub : List Value} {ab : Bool} {col : Option Bool} {dd : Option Addr} {k0 k1 k2 k3 k5 : Option Value} {oc : Value} {od an : Option Addr} {kV doc pm ct : Value} {osl : Array (Option Value)}
    {ccl : Value} {cdd : Option Addr} {vs : Array Value} {ccs : Array (Option Value)} {file : Str} {tf : Tok} {cl : Value} {cld : Option Addr} {csl : Array (Option Value)}
    (h1 : K.lookup C = some (excClassObj nm q C N bs bm true sn sub ab col dd k0 k1 k2 k3 k5 "ValueError.__new__")) (h2 : PySem.HandSPX.refsVE bm = true) (sa : PySem.W.findIn K (.ref C) "__setattr__" = some (some (.builtin "object.__setattr__")))
    (no1 : PySem.W.findIn K (.ref C) "what" = some none) (no2 : PySem.W.findIn K (.ref C) "value" = some none) (kC : PySem.W.keepIn K (.ref C) = true) (exC : PySem.W.subIn K (.ref C) (.type "BaseException") = some true) (veC : PySem.W.subIn K (.ref C) (.type "ValueError") = some true)
    (tyC : PySem.W.typeIn K (.ref C) = some (.type "type")) (meC : PySem.W.mroIn K C (.ref C) = some true) (sup : PySem.W.ks_superIn K C C "__init__" = some (some (.builtin "ValueError.__init__"))) (nto : PySem.W.nsIn K cStatics "thirdparty.any" = some none)
    (top : (P.main.scope.names.lookup ("super" : Str)).isSome = false) (h3 : PySem.W.findIn K (.ref C) "__init__" = some (some (.ref fI))) (h4 : PySem.W.typeIn K (.ref fI) = some (.type "function"))
    (h5 : K.lookup fI = some ⟨oc, od, .func (PySem.W.ksFn "__init__" "BadNumber.__init__" (defArgs s_BadNumber_init) (defBody s_BadNumber_init) (defScope s_BadNumber_init) .none kV doc pm an (.ref cda) ct cc), osl⟩) (h6 : PySem.W.codeIn K (.ref cda) "BadNumber.__init__" = true)
    (h7 : K.lookup cda = some ⟨ccl, cdd, .fields vs, ccs⟩) (h8 : vs[2]? = some (.str file tf)) (h9 : ((P.main.file : Str) == file) = true) (h10 : K.lookup cc = some ⟨cl, cld, .cell (some (.ref C)), csl⟩) : BadK P K "what" "value" C :=
  { cls := ⟨_, _, _, _, _, _, _, _, _, _, _, _, _, _, _, h1, h2⟩, sa := sa, no1 := no1, no2 := no2, kC := kC, exC := exC, veC := veC, tyC := tyC, meC := meC, sup := sup, nto := nto, top := top,
    init := ⟨fI, h3, h4, _, _, _, _, _, _, _, _, _, cda, _, cc, _, _, init_BadNumber, h5, h6, fun s x v1 v2 => .of_eq rfl, ⟨_, _, _, _, _, _, h7, h8, h9⟩, ⟨_, _, _, h10⟩⟩ }

theorem init_BadPaper : InitOf "place" "reason" (defArgs s_BadPaper_init) (defBody s_BadPaper_init) (defScope s_BadPaper_init) :=
  { body := ⟨_, _, _, _, _, _, _, _, _, _, _, _, _, _, _, rfl, rfl⟩, first := ⟨_, rfl, rfl⟩, ls := by decide +kernel, lc := by decide +kernel, l0 := by decide +kernel, l1 := by decide +kernel, l2 := by decide +kernel, nocell := by decide +kernel, kd := rfl, gn := rfl, co := rfl,
    n12 := by decide, n10 := by decide, n20 := by decide, d1 := by decide, d2 := by decide }
theorem bad_BadPaper {P : Program} {K : PySem.W.Frag} {C fI cda cc : Addr} {nm q : Str} {N : Addr} {bs bm : List Value} {sn : List Str} {sub : List Value} {ab : Bool} {col : Option Bool} {dd : Option Addr} {k0 k1 k2 k3 k5 : Option Value} {oc : Value} {od an : Option Addr} {kV doc pm ct : Value} {osl : Array (Option Value)}
    {ccl : Value} {cdd : Option Addr} {vs : Array Value} {ccs : Array (Option Value)} {file : Str} {tf : Tok} {cl : Value} {cld : Option Addr} {csl : Array (Option Value)}
    (h1 : K.lookup C = some (excClassObj nm q C N bs bm true sn sub ab col dd k0 k1 k2 k3 k5 "ValueError.__new__")) (h2 : PySem.HandSPX.refsVE bm = true) (sa : PySem.W.findIn K (.ref C) "__setattr__" = some (some (.builtin "object.__setattr__")))
    (no1 : PySem.W.findIn K (.ref C) "place" = some none) (no2 : PySem.W.findIn K (.ref C) "reason" = some none) (kC : PySem.W.keepIn K (.ref C) = true) (exC : PySem.W.subIn K (.ref C) (.type "BaseException") = some true) (veC : PySem.W.subIn K (.ref C) (.type "ValueError") = some true)
    (tyC : PySem.W.typeIn K (.ref C) = some (.type "type")) (meC : PySem.W.mroIn K C (.ref C) = some true) (sup : PySem.W.ks_superIn K C C "__init__" = some (some (.builtin "ValueError.__init__"))) (nto : PySem.W.nsIn K cStatics "thirdparty.any" = some none)
    (top : (P.main.scope.names.lookup ("super" : Str)).isSome = false) (h3 : PySem.W.findIn K (.ref C) "__init__" = some (some (.ref fI))) (h4 : PySem.W.typeIn K (.ref fI) = some (.type "function"))
    (h5 : K.lookup fI = some ⟨oc, od, .func (PySem.W.ksFn "__init__" "BadPaper.__init__" (defArgs s_BadPaper_init) (defBody s_BadPaper_init) (defScope s_BadPaper_init) .none kV doc pm an (.ref cda) ct cc), osl⟩) (h6 : PySem.W.codeIn K (.ref cda) "BadPaper.__init__" = true)
    (h7 : K.lookup cda = some ⟨ccl, cdd, .fields vs, ccs⟩) (h8 : vs[2]? = some (.str file tf)) (h9 : ((P.main.file : Str) == file) = true) (h10 : K.lookup cc = some ⟨cl, cld, .cell (some (.ref C)), csl⟩) : BadK P K "place" "reason" C :=
  { cls := ⟨_, _, _, _, _, _, _, _, _, _, _, _, _, _, _, h1, h2⟩, sa := sa, no1 := no1, no2 := no2, kC := kC, exC := exC, veC := veC, tyC := tyC, meC := meC, sup := sup, nto := nto, top := top,
    init := ⟨fI, h3, h4, _, _, _, _, _, _, _, _, _, cda, _, cc, _, _, init_BadPaper, h5, h6, fun s x v1 v2 => .of_eq rfl, ⟨_, _, _, _, _, _, h7, h8, h9⟩, ⟨_, _, _, h10⟩⟩ }

structure Facts (K : PySem.W.Frag) (P : Program) (C CW CP CN CE : Addr) : Prop where
  aC : PySem.W.nsIn K mainGlobals "HouseLog" = some (some (.ref C))
  aCW : PySem.W.nsIn K mainGlobals "Widths" = some (some (.ref CW))
  aCP : PySem.W.nsIn K mainGlobals "BadPaper" = some (some (.ref CP))
  aCN : PySem.W.nsIn K mainGlobals "BadNumber" = some (some (.ref CN))
  aCE : PySem.W.nsIn K mainGlobals "ParcelError" = some (some (.ref CE))
  z_len : PySem.W.nsIn K mainGlobals "len" = some none
  z_range : PySem.W.nsIn K mainGlobals "range" = some none
  z_isinstance : PySem.W.nsIn K mainGlobals "isinstance" = some none
  z_int : PySem.W.nsIn K mainGlobals "int" = some none
  z_bool : PySem.W.nsIn K mainGlobals "bool" = some none
  z_tuple : PySem.W.nsIn K mainGlobals "tuple" = some none
  z_list : PySem.W.nsIn K mainGlobals "list" = some none
  z_abs : PySem.W.nsIn K mainGlobals "abs" = some none
  z_max : PySem.W.nsIn K mainGlobals "max" = some none
  z_min : PySem.W.nsIn K mainGlobals "min" = some none
  z_any : PySem.W.nsIn K mainGlobals "any" = some none
  z_enumerate : PySem.W.nsIn K mainGlobals "enumerate" = some none
  z_sorted : PySem.W.nsIn K mainGlobals "sorted" = some none
  z_super : PySem.W.nsIn K mainGlobals "super" = some none
  n_MOST_HOUSES : ∃ t, PySem.W.nsIn K mainGlobals "MOST_HOUSES" = some (some (.int 8 t))
  n_MOST_WIDTHS : ∃ t, PySem.W.nsIn K mainGlobals "MOST_WIDTHS" = some (some (.int 24 t))
  n_MOST_WIDTH : ∃ t, PySem.W.nsIn K mainGlobals "MOST_WIDTH" = some (some (.int 100000 t))
  pgC : PySem.W.plainGet K C Str.empty = true
  hdC : PySem.W.hasDictIn K C = true
  poC : PySem.W.plainOver K C = true
  saC : PySem.W.findIn K (.ref C) "__setattr__" = some (some (.builtin "object.__setattr__"))
  mkC : PySem.W.makesIn K C = true
  kpC : PySem.W.keepIn K (.ref C) = true
  pgCW : PySem.W.plainGet K CW Str.empty = true
  hdCW : PySem.W.hasDictIn K CW = true
  poCW : PySem.W.plainOver K CW = true
  saCW : PySem.W.findIn K (.ref CW) "__setattr__" = some (some (.builtin "object.__setattr__"))
  mkCW : PySem.W.makesIn K CW = true
  kpCW : PySem.W.keepIn K (.ref CW) = true
  sf : PySem.W.selfFirst K CW = true
  ha : PySem.W.findIn K (.ref CW) "__class__" = some (some (.builtin "object.__class__"))
  hn : PySem.W.specialIn K (.builtin "object.__class__") "__get__" = some (some (.builtin "getset_descriptor.__get__"))
  htk : PySem.W.takesIn K (.builtin "object.__class__") = some true
  hm : PySem.W.mroIn K CW (.type "object") = some true
  nW : PySem.W.findIn K (.ref CW) "numbers" = some none
  n_widths : PySem.W.findIn K (.ref C) "widths" = some none
  n_houses : PySem.W.findIn K (.ref C) "houses" = some none
  n_pairs : PySem.W.findIn K (.ref C) "pairs" = some none
  n_can : PySem.W.findIn K (.ref C) "can" = some none
  n_left_over : PySem.W.findIn K (.ref C) "left_over" = some none
  gaCP : PySem.W.findIn K (.ref CP) "__getattribute__" = some (some (.builtin "BaseException.__getattribute__"))
  ggCP : PySem.W.findIn K (.ref CP) "__getattr__" = some none
  hxCP : PySem.W.hasDictIn K CP = true
  gaCN : PySem.W.findIn K (.ref CN) "__getattribute__" = some (some (.builtin "BaseException.__getattribute__"))
  ggCN : PySem.W.findIn K (.ref CN) "__getattr__" = some none
  hxCN : PySem.W.hasDictIn K CN = true
  ePP : PySem.W.exmOne K (.ref CP) (.ref CP) = some true
  eNP : PySem.W.exmOne K (.ref CN) (.ref CP) = some false
  eNN : PySem.W.exmOne K (.ref CN) (.ref CN) = some true
  bN : BadK P K "what" "value" CN
  bP : BadK P K "place" "reason" CP
  m_HouseLog_init : Mt K C "__init__" "HouseLog.__init__" s_HouseLog_init
  m_HouseLog_told : Mt K C "told" "HouseLog.told" s_HouseLog_told
  m_HouseLog_can_be : Mt K C "can_be" "HouseLog.can_be" s_HouseLog_can_be
  m_HouseLog_houses_left : Mt K C "houses_left" "HouseLog.houses_left" s_HouseLog_houses_left
  m_Widths_init : Mt K CW "__init__" "Widths.__init__" s_Widths_init
  m_Widths_or : Mt K CW "__or__" "Widths.__or__" s_Widths_or
  d_is_integer : Df K "is_integer" s_is_integer
  d_check_number : Df K "check_number" s_check_number
  d_after_told : Df K "after_told" s_after_told
  d_halvings : Df K "halvings" s_halvings
  d_state_of : Df K "state_of" s_state_of
  d_told_states : Df K "told_states" s_told_states
  d_led_states : Df K "led_states" s_led_states
  d_is_state : Df K "is_state" s_is_state
  d_greatest_counts : Df K "greatest_counts" s_greatest_counts
  d_stands : Df K "stands" s_stands
  d_house_fault : Df K "house_fault" s_house_fault
  d_check_house_paper : Df K "check_house_paper" s_check_house_paper
  d_house_paper : Df K "house_paper" s_house_paper
  d_least_count : Df K "least_count" s_least_count
  d_law_start : Df K "_law_start" s_law_start
  d_law_draw : Df K "_law_draw" s_law_draw
  d_law_numbers : Df K "_law_numbers" s_law_numbers
  d_law_widths : Df K "_law_widths" s_law_widths
  d_law_first : Df K "_law_first" s_law_first
  d_law_after : Df K "_law_after" s_law_after
  d_law_house_log : Df K "_law_house_log" s_law_house_log
  d_law_houses : Df K "_law_houses" s_law_houses
  d_law_next : Df K "_law_next" s_law_next
  d_law_least : Df K "_law_least" s_law_least
  d_law_whole : Df K "_law_whole" s_law_whole
  d_law_is_case : Df K "_law_is_case" s_law_is_case
  d_law_tops : Df K "_law_tops" s_law_tops
  d_law_stands : Df K "_law_stands" s_law_stands
  d_law_reason : Df K "_law_reason" s_law_reason
  d_law_verdict : Df K "_law_verdict" s_law_verdict
  d_law_told_by : Df K "_law_told_by" s_law_told_by
  d_law_changed : Df K "_law_changed" s_law_changed
  d_law_pairs : Df K "_law_pairs" s_law_pairs
  d_law : Df K "law" s_law

theorem all_mk {P : Program} {w : World} {K : PySem.W.Frag} {h : Heap} {mg : Str → Option Value} {fa C CW CP CN CE : Addr} (X : K.In h) (G : h.Ns mainGlobals mg) (hfa : mg "law" = some (.ref fa)) (B : Facts K P C CW CP CN CE) :
    ∃ fd : FuncData, (∀ (s : Shared) (v : Value), BindsTo s fd ⟨[v], []⟩ [("_law_script", v)]) ∧ ∀ base : Heap, K.In base → base.Ns mainGlobals mg → FnOk P w K mg base CX0 30 fa fd ["_law_script"] (spLaw K) := by
  have T : Bs mg := ⟨PySem.W.mg_none_of X G B.z_len, PySem.W.mg_none_of X G B.z_range, PySem.W.mg_none_of X G B.z_isinstance, PySem.W.mg_none_of X G B.z_int, PySem.W.mg_none_of X G B.z_bool, PySem.W.mg_none_of X G B.z_tuple, PySem.W.mg_none_of X G B.z_list, PySem.W.mg_none_of X G B.z_abs, PySem.W.mg_none_of X G B.z_max, PySem.W.mg_none_of X G B.z_min, PySem.W.mg_none_of X G B.z_any, PySem.W.mg_none_of X G B.z_enumerate, PySem.W.mg_none_of X G B.z_sorted⟩
  obtain ⟨f_is_integer, fd_is_integer, n_is_integer, F_is_integer⟩ := B.d_is_integer
  have g_is_integer := PySem.W.mg_of X G n_is_integer
  have b_is_integer := F_is_integer.binds (ps := ["value"]) fun _ _ _ _ _ _ us hl => match us, hl with | [_], _ => rfl
  obtain ⟨f_check_number, fd_check_number, n_check_number, F_check_number⟩ := B.d_check_number
  have g_check_number := PySem.W.mg_of X G n_check_number
  have b_check_number := F_check_number.binds (ps := ["what", "value", "low", "high"]) fun _ _ _ _ _ _ us hl => match us, hl with | [_, _, _, _], _ => rfl
  obtain ⟨f_after_told, fd_after_told, n_after_told, F_after_told⟩ := B.d_after_told
  have g_after_told := PySem.W.mg_of X G n_after_told
  have b_after_told := F_after_told.binds (ps := ["can", "left", "probe", "told"]) fun _ _ _ _ _ _ us hl => match us, hl with | [_, _, _, _], _ => rfl
  obtain ⟨f_halvings, fd_halvings, n_halvings, F_halvings⟩ := B.d_halvings
  have g_halvings := PySem.W.mg_of X G n_halvings
  have b_halvings := F_halvings.binds (ps := ["number"]) fun _ _ _ _ _ _ us hl => match us, hl with | [_], _ => rfl
  obtain ⟨f_state_of, fd_state_of, n_state_of, F_state_of⟩ := B.d_state_of
  have g_state_of := PySem.W.mg_of X G n_state_of
  have b_state_of := F_state_of.binds (ps := ["houselog"]) fun _ _ _ _ _ _ us hl => match us, hl with | [_], _ => rfl
  obtain ⟨f_told_states, fd_told_states, n_told_states, F_told_states⟩ := B.d_told_states
  have g_told_states := PySem.W.mg_of X G n_told_states
  have b_told_states := F_told_states.binds (ps := ["state", "below"]) fun _ _ _ _ _ _ us hl => match us, hl with | [_, _], _ => rfl
  obtain ⟨f_led_states, fd_led_states, n_led_states, F_led_states⟩ := B.d_led_states
  have g_led_states := PySem.W.mg_of X G n_led_states
  have b_led_states := F_led_states.binds (ps := ["state", "below"]) fun _ _ _ _ _ _ us hl => match us, hl with | [_, _], _ => rfl
  obtain ⟨f_is_state, fd_is_state, n_is_state, F_is_state⟩ := B.d_is_state
  have g_is_state := PySem.W.mg_of X G n_is_state
  have b_is_state := F_is_state.binds (ps := ["value", "start"]) fun _ _ _ _ _ _ us hl => match us, hl with | [_, _], _ => rfl
  obtain ⟨f_greatest_counts, fd_greatest_counts, n_greatest_counts, F_greatest_counts⟩ := B.d_greatest_counts
  have g_greatest_counts := PySem.W.mg_of X G n_greatest_counts
  have b_greatest_counts := F_greatest_counts.binds (ps := ["pairs", "start"]) fun _ _ _ _ _ _ us hl => match us, hl with | [_, _], _ => rfl
  obtain ⟨f_stands, fd_stands, n_stands, F_stands⟩ := B.d_stands
  have g_stands := PySem.W.mg_of X G n_stands
  have b_stands := F_stands.binds (ps := ["found", "state", "count"]) fun _ _ _ _ _ _ us hl => match us, hl with | [_, _, _], _ => rfl
  obtain ⟨f_house_fault, fd_house_fault, n_house_fault, F_house_fault⟩ := B.d_house_fault
  have g_house_fault := PySem.W.mg_of X G n_house_fault
  have b_house_fault := F_house_fault.binds (ps := ["found", "pair", "start"]) fun _ _ _ _ _ _ us hl => match us, hl with | [_, _, _], _ => rfl
  obtain ⟨f_check_house_paper, fd_check_house_paper, n_check_house_paper, F_check_house_paper⟩ := B.d_check_house_paper
  have g_check_house_paper := PySem.W.mg_of X G n_check_house_paper
  have b_check_house_paper := F_check_house_paper.binds (ps := ["houselog", "v", "pairs"]) fun _ _ _ _ _ _ us hl => match us, hl with | [_, _, _], _ => rfl
  obtain ⟨f_house_paper, fd_house_paper, n_house_paper, F_house_paper⟩ := B.d_house_paper
  have g_house_paper := PySem.W.mg_of X G n_house_paper
  have b_house_paper := F_house_paper.binds (ps := ["houselog"]) fun _ _ _ _ _ _ us hl => match us, hl with | [_], _ => rfl
  obtain ⟨f_least_count, fd_least_count, n_least_count, F_least_count⟩ := B.d_least_count
  have g_least_count := PySem.W.mg_of X G n_least_count
  have b_least_count := F_least_count.binds (ps := ["state"]) fun _ _ _ _ _ _ us hl => match us, hl with | [_], _ => rfl
  obtain ⟨f_law_start, fd_law_start, n_law_start, F_law_start⟩ := B.d_law_start
  have g_law_start := PySem.W.mg_of X G n_law_start
  have b_law_start := F_law_start.binds (ps := ["_law_script"]) fun _ _ _ _ _ _ us hl => match us, hl with | [_], _ => rfl
  obtain ⟨f_law_draw, fd_law_draw, n_law_draw, F_law_draw⟩ := B.d_law_draw
  have g_law_draw := PySem.W.mg_of X G n_law_draw
  have b_law_draw := F_law_draw.binds (ps := ["_law_script", "_law_state", "_law_limit"]) fun _ _ _ _ _ _ us hl => match us, hl with | [_, _, _], _ => rfl
  obtain ⟨f_law_numbers, fd_law_numbers, n_law_numbers, F_law_numbers⟩ := B.d_law_numbers
  have g_law_numbers := PySem.W.mg_of X G n_law_numbers
  have b_law_numbers := F_law_numbers.binds (ps := ["_law_script", "_law_state", "_law_most"]) fun _ _ _ _ _ _ us hl => match us, hl with | [_, _, _], _ => rfl
  obtain ⟨f_law_widths, fd_law_widths, n_law_widths, F_law_widths⟩ := B.d_law_widths
  have g_law_widths := PySem.W.mg_of X G n_law_widths
  have b_law_widths := F_law_widths.binds (ps := ["_law_numbers_here"]) fun _ _ _ _ _ _ us hl => match us, hl with | [_], _ => rfl
  obtain ⟨f_law_first, fd_law_first, n_law_first, F_law_first⟩ := B.d_law_first
  have g_law_first := PySem.W.mg_of X G n_law_first
  have b_law_first := F_law_first.binds (ps := ["_law_numbers_here", "_law_houses_here"]) fun _ _ _ _ _ _ us hl => match us, hl with | [_, _], _ => rfl
  obtain ⟨f_law_after, fd_law_after, n_law_after, F_law_after⟩ := B.d_law_after
  have g_law_after := PySem.W.mg_of X G n_law_after
  have b_law_after := F_law_after.binds (ps := ["_law_now", "_law_probe", "_law_told"]) fun _ _ _ _ _ _ us hl => match us, hl with | [_, _, _], _ => rfl
  obtain ⟨f_law_house_log, fd_law_house_log, n_law_house_log, F_law_house_log⟩ := B.d_law_house_log
  have g_law_house_log := PySem.W.mg_of X G n_law_house_log
  have b_law_house_log := F_law_house_log.binds (ps := ["_law_widths_here", "_law_houses_here", "_law_pairs_here"]) fun _ _ _ _ _ _ us hl => match us, hl with | [_, _, _], _ => rfl
  obtain ⟨f_law_houses, fd_law_houses, n_law_houses, F_law_houses⟩ := B.d_law_houses
  have g_law_houses := PySem.W.mg_of X G n_law_houses
  have b_law_houses := F_law_houses.binds (ps := ["_law_script", "_law_state"]) fun _ _ _ _ _ _ us hl => match us, hl with | [_, _], _ => rfl
  obtain ⟨f_law_next, fd_law_next, n_law_next, F_law_next⟩ := B.d_law_next
  have g_law_next := PySem.W.mg_of X G n_law_next
  have b_law_next := F_law_next.binds (ps := ["_law_case", "_law_below"]) fun _ _ _ _ _ _ us hl => match us, hl with | [_, _], _ => rfl
  obtain ⟨f_law_least, fd_law_least, n_law_least, F_law_least⟩ := B.d_law_least
  have g_law_least := PySem.W.mg_of X G n_law_least
  have b_law_least := F_law_least.binds (ps := ["_law_known", "_law_case"]) fun _ _ _ _ _ _ us hl => match us, hl with | [_, _], _ => rfl
  obtain ⟨f_law_whole, fd_law_whole, n_law_whole, F_law_whole⟩ := B.d_law_whole
  have g_law_whole := PySem.W.mg_of X G n_law_whole
  have b_law_whole := F_law_whole.binds (ps := ["_law_value"]) fun _ _ _ _ _ _ us hl => match us, hl with | [_], _ => rfl
  obtain ⟨f_law_is_case, fd_law_is_case, n_law_is_case, F_law_is_case⟩ := B.d_law_is_case
  have g_law_is_case := PySem.W.mg_of X G n_law_is_case
  have b_law_is_case := F_law_is_case.binds (ps := ["_law_value", "_law_start_here"]) fun _ _ _ _ _ _ us hl => match us, hl with | [_, _], _ => rfl
  obtain ⟨f_law_tops, fd_law_tops, n_law_tops, F_law_tops⟩ := B.d_law_tops
  have g_law_tops := PySem.W.mg_of X G n_law_tops
  have b_law_tops := F_law_tops.binds (ps := ["_law_pairs_here", "_law_start_here"]) fun _ _ _ _ _ _ us hl => match us, hl with | [_, _], _ => rfl
  obtain ⟨f_law_stands, fd_law_stands, n_law_stands, F_law_stands⟩ := B.d_law_stands
  have g_law_stands := PySem.W.mg_of X G n_law_stands
  have b_law_stands := F_law_stands.binds (ps := ["_law_tops_here", "_law_case", "_law_count"]) fun _ _ _ _ _ _ us hl => match us, hl with | [_, _, _], _ => rfl
  obtain ⟨f_law_reason, fd_law_reason, n_law_reason, F_law_reason⟩ := B.d_law_reason
  have g_law_reason := PySem.W.mg_of X G n_law_reason
  have b_law_reason := F_law_reason.binds (ps := ["_law_tops_here", "_law_pair", "_law_start_here"]) fun _ _ _ _ _ _ us hl => match us, hl with | [_, _, _], _ => rfl
  obtain ⟨f_law_verdict, fd_law_verdict, n_law_verdict, F_law_verdict⟩ := B.d_law_verdict
  have g_law_verdict := PySem.W.mg_of X G n_law_verdict
  have b_law_verdict := F_law_verdict.binds (ps := ["_law_pairs_here", "_law_v", "_law_start_here"]) fun _ _ _ _ _ _ us hl => match us, hl with | [_, _, _], _ => rfl
  obtain ⟨f_law_told_by, fd_law_told_by, n_law_told_by, F_law_told_by⟩ := B.d_law_told_by
  have g_law_told_by := PySem.W.mg_of X G n_law_told_by
  have b_law_told_by := F_law_told_by.binds (ps := ["_law_log", "_law_v", "_law_pairs_here"]) fun _ _ _ _ _ _ us hl => match us, hl with | [_, _, _], _ => rfl
  obtain ⟨f_law_changed, fd_law_changed, n_law_changed, F_law_changed⟩ := B.d_law_changed
  have g_law_changed := PySem.W.mg_of X G n_law_changed
  have b_law_changed := F_law_changed.binds (ps := ["_law_script", "_law_state", "_law_pairs_here", "_law_start_here"]) fun _ _ _ _ _ _ us hl => match us, hl with | [_, _, _, _], _ => rfl
  obtain ⟨f_law_pairs, fd_law_pairs, n_law_pairs, F_law_pairs⟩ := B.d_law_pairs
  have g_law_pairs := PySem.W.mg_of X G n_law_pairs
  have b_law_pairs := F_law_pairs.binds (ps := ["_law_script", "_law_state", "_law_log", "_law_start_here"]) fun _ _ _ _ _ _ us hl => match us, hl with | [_, _, _, _], _ => rfl
  obtain ⟨f_law, fd_law, n_law, F_law⟩ := B.d_law
  obtain ⟨f_HouseLog_init, fd_HouseLog_init, n_HouseLog_init, i_HouseLog_init, F_HouseLog_init⟩ := B.m_HouseLog_init
  obtain ⟨f_HouseLog_told, fd_HouseLog_told, n_HouseLog_told, i_HouseLog_told, F_HouseLog_told⟩ := B.m_HouseLog_told
  have b_HouseLog_told := F_HouseLog_told.binds (ps := ["self", "probe", "answer"]) fun _ _ _ _ _ _ us hl => match us, hl with | [_, _, _], _ => rfl
  obtain ⟨f_HouseLog_can_be, fd_HouseLog_can_be, n_HouseLog_can_be, i_HouseLog_can_be, F_HouseLog_can_be⟩ := B.m_HouseLog_can_be
  have b_HouseLog_can_be := F_HouseLog_can_be.binds (ps := ["self"]) fun _ _ _ _ _ _ us hl => match us, hl with | [_], _ => rfl
  obtain ⟨f_HouseLog_houses_left, fd_HouseLog_houses_left, n_HouseLog_houses_left, i_HouseLog_houses_left, F_HouseLog_houses_left⟩ := B.m_HouseLog_houses_left
  have b_HouseLog_houses_left := F_HouseLog_houses_left.binds (ps := ["self"]) fun _ _ _ _ _ _ us hl => match us, hl with | [_], _ => rfl
  obtain ⟨f_Widths_init, fd_Widths_init, n_Widths_init, i_Widths_init, F_Widths_init⟩ := B.m_Widths_init
  obtain ⟨f_Widths_or, fd_Widths_or, n_Widths_or, i_Widths_or, F_Widths_or⟩ := B.m_Widths_or
  have b_Widths_or := F_Widths_or.binds (ps := ["self", "other"]) fun _ _ _ _ _ _ us hl => match us, hl with | [_, _], _ => rfl
  have e := hfa.symm.trans (PySem.W.mg_of X G n_law)
  cases e
  obtain ⟨tH, nH⟩ := B.n_MOST_HOUSES
  obtain ⟨tW, nW⟩ := B.n_MOST_WIDTHS
  obtain ⟨tX, nX⟩ := B.n_MOST_WIDTH
  have m_MOST_HOUSES := PySem.W.mg_of X G nH
  have m_MOST_WIDTHS := PySem.W.mg_of X G nW
  have m_MOST_WIDTH := PySem.W.mg_of X G nX
  have gC := PySem.W.mg_of X G B.aC
  have m_Widths := PySem.W.mg_of X G B.aCW
  have m_BadPaper := PySem.W.mg_of X G B.aCP
  have m_BadNumber := PySem.W.mg_of X G B.aCN
  have m_ParcelError := PySem.W.mg_of X G B.aCE
  have noS := PySem.W.mg_none_of X G B.z_super
  have TB := B.bN.txt m_BadNumber noS
  have TP := B.bP.txt m_BadPaper noS
  have cl : Cls K C := ⟨B.pgC, B.hdC, B.poC, B.saC⟩
  have clw : Cls K CW := ⟨B.pgCW, B.hdCW, B.poCW, B.saCW⟩
  have ow : OwnC K CW := ⟨clw, B.ha, B.hn, B.htk, B.hm⟩
  have XP : XfC K CP := ⟨B.gaCP, B.ggCP, B.bP.exC, B.hxCP⟩
  have XN : XfC K CN := ⟨B.gaCN, B.ggCN, B.bN.exC, B.hxCN⟩
  refine ⟨fd_law, ?b, fun base _ _ => ?_⟩
  case b =>
    intro s v
    obtain ⟨oc, od, kV, doc, pm, an, cdv, ct, osl, rfl, _, _⟩ := F_law.ex
    exact .of_eq rfl
  have a_is_integer : Av P w K mg base CX0 1 "is_integer" ["value"] spInt := ⟨_, _, ok_is_integer F_is_integer T, g_is_integer, F_is_integer.kp, b_is_integer⟩
  have a_law_whole : Av P w K mg base CX0 1 "_law_whole" ["_law_value"] spInt := ⟨_, _, ok_law_whole F_law_whole T, g_law_whole, F_law_whole.kp, b_law_whole⟩
  have a_check_number : Av P w K mg base (L2.CX P w) 3 "check_number" ["what", "value", "low", "high"] (spChk CN) := ⟨_, _, ok_check_number F_check_number T TB a_is_integer, g_check_number, F_check_number.kp, b_check_number⟩
  have a_told_states : Av P w K mg base CX0 1 "told_states" ["state", "below"] spTold := ⟨_, _, ok_told_states F_told_states T, g_told_states, F_told_states.kp, b_told_states⟩
  have a_led_states : Av P w K mg base CX0 2 "led_states" ["state", "below"] spLed := ⟨_, _, ok_led_states F_led_states T a_told_states, g_led_states, F_led_states.kp, b_led_states⟩
  have a_law_next : Av P w K mg base CX0 1 "_law_next" ["_law_case", "_law_below"] spLed := ⟨_, _, ok_law_next F_law_next T, g_law_next, F_law_next.kp, b_law_next⟩
  have a_is_state : Av P w K mg base CX0 2 "is_state" ["value", "start"] spIsSt := ⟨_, _, ok_is_state F_is_state T a_is_integer, g_is_state, F_is_state.kp, b_is_state⟩
  have a_law_is_case : Av P w K mg base CX0 2 "_law_is_case" ["_law_value", "_law_start_here"] spIsSt := ⟨_, _, ok_law_is_case F_law_is_case T a_law_whole, g_law_is_case, F_law_is_case.kp, b_law_is_case⟩
  have a_greatest_counts : Av P w K mg base CX0 3 "greatest_counts" ["pairs", "start"] spTops := ⟨_, _, ok_greatest_counts F_greatest_counts T a_is_integer a_is_state, g_greatest_counts, F_greatest_counts.kp, b_greatest_counts⟩
  have a_law_tops : Av P w K mg base CX0 3 "_law_tops" ["_law_pairs_here", "_law_start_here"] spTops := ⟨_, _, ok_law_tops F_law_tops T a_law_whole a_law_is_case, g_law_tops, F_law_tops.kp, b_law_tops⟩
  have a_stands : Av P w K mg base CX0 1 "stands" ["found", "state", "count"] spStands := ⟨_, _, ok_stands F_stands T, g_stands, F_stands.kp, b_stands⟩
  have a_law_stands : Av P w K mg base CX0 1 "_law_stands" ["_law_tops_here", "_law_case", "_law_count"] spStands := ⟨_, _, ok_law_stands F_law_stands T, g_law_stands, F_law_stands.kp, b_law_stands⟩
  have a_house_fault : Av P w K mg base CX0 3 "house_fault" ["found", "pair", "start"] spFault := ⟨_, _, ok_house_fault F_house_fault T a_is_integer a_is_state a_stands a_led_states, g_house_fault, F_house_fault.kp, b_house_fault⟩
  have a_law_reason : Av P w K mg base CX0 3 "_law_reason" ["_law_tops_here", "_law_pair", "_law_start_here"] spFault := ⟨_, _, ok_law_reason F_law_reason T a_law_whole a_law_is_case a_law_stands a_law_next, g_law_reason, F_law_reason.kp, b_law_reason⟩
  have m_can_be : AvM P w K mg base CX0 1 C "can_be" ["self"] (spCan C) := ⟨_, _, ok_can_be F_HouseLog_can_be T cl B.n_can, ⟨n_HouseLog_can_be, i_HouseLog_can_be, F_HouseLog_can_be.kp⟩, b_HouseLog_can_be⟩
  have m_houses_left : AvM P w K mg base CX0 1 C "houses_left" ["self"] (spLeft C) := ⟨_, _, ok_houses_left F_HouseLog_houses_left T cl B.n_left_over, ⟨n_HouseLog_houses_left, i_HouseLog_houses_left, F_HouseLog_houses_left.kp⟩, b_HouseLog_houses_left⟩
  have a_state_of : Av P w K mg base CX0 2 "state_of" ["houselog"] (spState C) := ⟨_, _, ok_state_of F_state_of T cl m_can_be m_houses_left, g_state_of, F_state_of.kp, b_state_of⟩
  have a_halvings : Av P w K mg base CX0 1 "halvings" ["number"] spHalv := ⟨_, _, ok_halvings F_halvings , g_halvings, F_halvings.kp, b_halvings⟩
  have a_least_count : Av P w K mg base CX0 2 "least_count" ["state"] spCount := ⟨_, _, ok_least_count F_least_count T a_halvings, g_least_count, F_least_count.kp, b_least_count⟩
  have a_house_paper : Av P w K mg base CX0 3 "house_paper" ["houselog"] (spPaper C) := ⟨_, _, ok_house_paper F_house_paper T a_state_of a_led_states a_least_count, g_house_paper, F_house_paper.kp, b_house_paper⟩
  have a_check_house_paper : Av P w K mg base (L2.CX P w) 4 "check_house_paper" ["houselog", "v", "pairs"] (spCheck C CP CN) := ⟨_, _, ok_check_house_paper F_check_house_paper T TP a_check_number a_state_of a_greatest_counts a_house_fault a_stands, g_check_house_paper, F_check_house_paper.kp, b_check_house_paper⟩
  have a_after_told : Av P w K mg base CX0 2 "after_told" ["can", "left", "probe", "told"] spAfter := ⟨_, _, ok_after_told F_after_told T a_is_integer, g_after_told, F_after_told.kp, b_after_told⟩
  have a_law_after : Av P w K mg base CX0 1 "_law_after" ["_law_now", "_law_probe", "_law_told"] spAfterL := ⟨_, _, ok_law_after F_law_after T, g_law_after, F_law_after.kp, b_law_after⟩
  have c_Widths : AvC P w K mg base 4 "Widths" CW (spWInit CW) := ⟨_, ⟨B.mkCW, n_Widths_init, i_Widths_init, B.kpCW⟩, ok_Widths_init F_Widths_init T clw B.nW m_MOST_WIDTHS m_MOST_WIDTH a_check_number, m_Widths⟩
  have m_or : AvM P w K mg base CX0 6 CW "__or__" ["self", "other"] (spOr CW) := ⟨_, _, ok_Widths_or F_Widths_or T ow B.nW m_Widths c_Widths, ⟨n_Widths_or, i_Widths_or, F_Widths_or.kp⟩, b_Widths_or⟩
  have c_HouseLog : AvC P w K mg base 4 "HouseLog" C (spHInit C CW) := ⟨_, ⟨B.mkC, n_HouseLog_init, i_HouseLog_init, B.kpC⟩, ok_HouseLog_init F_HouseLog_init T cl clw B.nW B.n_widths B.n_houses B.n_pairs B.n_can B.n_left_over m_MOST_HOUSES a_check_number a_after_told, gC⟩
  have m_told : AvM P w K mg base CX0 6 C "told" ["self", "probe", "answer"] (spToldM C CW) := ⟨_, _, ok_HouseLog_told F_HouseLog_told T cl B.n_widths B.n_houses B.n_pairs c_HouseLog, ⟨n_HouseLog_told, i_HouseLog_told, F_HouseLog_told.kp⟩, b_HouseLog_told⟩
  have a_law_start : Av P w K mg base CX0 1 "_law_start" ["_law_script"] (spStartK K) := ⟨_, _, ok_law_start F_law_start T, g_law_start, F_law_start.kp, b_law_start⟩
  have a_law_draw : Av P w K mg base CX0 1 "_law_draw" ["_law_script", "_law_state", "_law_limit"] (spDraw K) := ⟨_, _, ok_law_draw F_law_draw T, g_law_draw, F_law_draw.kp, b_law_draw⟩
  have a_law_numbers : Av P w K mg base CX0 2 "_law_numbers" ["_law_script", "_law_state", "_law_most"] (spNums K) := ⟨_, _, ok_law_numbers F_law_numbers T a_law_draw, g_law_numbers, F_law_numbers.kp, b_law_numbers⟩
  have a_law_first : Av P w K mg base CX0 1 "_law_first" ["_law_numbers_here", "_law_houses_here"] spFirst := ⟨_, _, ok_law_first F_law_first T, g_law_first, F_law_first.kp, b_law_first⟩
  have a_law_widths : Av P w K mg base CX0 6 "_law_widths" ["_law_numbers_here"] (spWid CW) := ⟨_, _, ok_law_widths F_law_widths T c_Widths, g_law_widths, F_law_widths.kp, b_law_widths⟩
  have a_law_house_log : Av P w K mg base CX0 7 "_law_house_log" ["_law_widths_here", "_law_houses_here", "_law_pairs_here"] (spHLog C CW) := ⟨_, _, ok_law_house_log F_law_house_log T cl c_HouseLog m_told, g_law_house_log, F_law_house_log.kp, b_law_house_log⟩
  have a_law_houses : Av P w K mg base CX0 8 "_law_houses" ["_law_script", "_law_state"] (spHouses K C) := ⟨_, _, ok_law_houses F_law_houses T B.sf a_law_draw a_law_numbers a_law_widths m_or a_law_first a_law_after a_law_house_log, g_law_houses, F_law_houses.kp, b_law_houses⟩
  have a_law_least : Av P w K mg base CX0 26 "_law_least" ["_law_known", "_law_case"] (spLeast 24) := ⟨_, _, ok_law_least F_law_least T g_law_least F_law_least.kp b_law_least a_law_next 24, g_law_least, F_law_least.kp, b_law_least⟩
  have a_law_verdict : Av P w K mg base CX0 4 "_law_verdict" ["_law_pairs_here", "_law_v", "_law_start_here"] spVerdict := ⟨_, _, ok_law_verdict F_law_verdict T a_law_tops a_law_reason a_law_stands, g_law_verdict, F_law_verdict.kp, b_law_verdict⟩
  have a_law_told_by : Av P w K mg base CX0 5 "_law_told_by" ["_law_log", "_law_v", "_law_pairs_here"] (spToldBy C) := ⟨_, _, ok_law_told_by F_law_told_by T XP B.bP.no1 B.bP.no2 XN B.bN.no1 B.bN.no2 m_BadPaper m_BadNumber m_ParcelError B.ePP B.eNP B.eNN a_check_house_paper, g_law_told_by, F_law_told_by.kp, b_law_told_by⟩
  have a_law_changed : Av P w K mg base CX0 2 "_law_changed" ["_law_script", "_law_state", "_law_pairs_here", "_law_start_here"] (spChanged K) := ⟨_, _, ok_law_changed F_law_changed T a_law_draw a_law_whole, g_law_changed, F_law_changed.kp, b_law_changed⟩
  have a_law_pairs : Av P w K mg base CX0 4 "_law_pairs" ["_law_script", "_law_state", "_law_log", "_law_start_here"] (spPairs K C) := ⟨_, _, ok_law_pairs F_law_pairs T a_law_draw a_house_paper a_law_changed, g_law_pairs, F_law_pairs.kp, b_law_pairs⟩
  exact ok_law F_law T a_law_start a_law_houses a_law_least a_law_pairs a_law_draw a_law_verdict a_law_told_by
theorem walk {l : PySem.W.OpenLaw} {q : Program} {loose : List Str} {XP : (Str → Option Value) → Heap → Prop} {YP : World → Heap → Prop} {d : DefRec} {K : Params → PySem.W.Frag} (hn : l.most = some 63) (hdf : d.params.defaults = [])
    (hY : ∀ (w : World) (h : Heap), YP w h → (K w.params).In h)
    (F : ∀ (w : World) (mg : Str → Option Value) (fa : Addr) (h : Heap), (K w.params).In h → h.Ns mainGlobals mg → mg d.name = some (.ref fa) →
      ∃ fd : FuncData, (∀ (s : Shared) (u : Value), BindsTo s fd ⟨[u], []⟩ [("_law_script", u)]) ∧ ∀ base : Heap, (K w.params).In base → base.Ns mainGlobals mg → FnOk l.prog w (K w.params) mg base CX0 30 fa fd ["_law_script"] (spLaw (K w.params))) :
    PySem.W.WalkO q loose XP YP l.row.toRowW d [] (fun f vs => PySem.call f vs) :=
  L2.walk_of (n := 63) (k := 30) (x := "_law_script") (CX := fun _ => CX0) (sp := fun w => spLaw (K w.params)) hn (by decide) hdf ⟨rfl, by decide, by decide⟩ hY F (fun _ _ a ns _ ho hS => ⟨a, ns, rfl, hS, ho, fun _ => rfl⟩) fun _ _ _ _ _ z => z
end K70

section
open PySem PySem.W PyProof.Rows
set_option maxHeartbeats 0 in
set_option maxRecDepth 100000 in
open_top hd for PySem.Challenge.rw_widestparcels_k70_whole_house_papers_of
end
open PySem PySem.W PyProof.Rows in
set_option maxRecDepth 100000 in
set_option maxHeartbeats 0 in
theorem PySem.Challenge.cw_widestparcels_k70_whole_house_papers_of_holds : PySem.Challenge.rw_widestparcels_k70_whole_house_papers_of.Holds :=
  hd (by
  k_fill
  refine K70.walk (l := PySem.Challenge.rw_widestparcels_k70_whole_house_papers_of) rfl rfl (fun w h Y => PySem.W.kIn_of Y) ?F
  case F =>
    intro w mg fa h KX G hmg
    refine' K70.all_mk KX G hmg ?B
    case B =>
      refine' { aC := ?aC, aCW := ?aCW, aCP := ?aCP, aCN := ?aCN, aCE := ?aCE, z_len := ?z_len, z_range := ?z_range, z_isinstance := ?z_isinstance, z_int := ?z_int, z_bool := ?z_bool, z_tuple := ?z_tuple, z_list := ?z_list, z_abs := ?z_abs, z_max := ?z_max, z_min := ?z_min, z_any := ?z_any, z_enumerate := ?z_enumerate, z_sorted := ?z_sorted, z_super := ?z_super, n_MOST_HOUSES := ?n_MOST_HOUSES, n_MOST_WIDTHS := ?n_MOST_WIDTHS, n_MOST_WIDTH := ?n_MOST_WIDTH, pgC := ?pgC, hdC := ?hdC, poC := ?poC, saC := ?saC, mkC := ?mkC, kpC := ?kpC, pgCW := ?pgCW, hdCW := ?hdCW, poCW := ?poCW, saCW := ?saCW, mkCW := ?mkCW, kpCW := ?kpCW, sf := ?sf, ha := ?ha, hn := ?hn, htk := ?htk, hm := ?hm, nW := ?nW, n_widths := ?n_widths, n_houses := ?n_houses, n_pairs := ?n_pairs, n_can := ?n_can, n_left_over := ?n_left_over, gaCP := ?gaCP, ggCP := ?ggCP, hxCP := ?hxCP, gaCN := ?gaCN, ggCN := ?ggCN, hxCN := ?hxCN, ePP := ?ePP, eNP := ?eNP, eNN := ?eNN, bN := ?bN, bP := ?bP, m_HouseLog_init := ?m_HouseLog_init, m_HouseLog_told := ?m_HouseLog_told, m_HouseLog_can_be := ?m_HouseLog_can_be, m_HouseLog_houses_left := ?m_HouseLog_houses_left, m_Widths_init := ?m_Widths_init, m_Widths_or := ?m_Widths_or, d_is_integer := ?d_is_integer, d_check_number := ?d_check_number, d_after_told := ?d_after_told, d_halvings := ?d_halvings, d_state_of := ?d_state_of, d_told_states := ?d_told_states, d_led_states := ?d_led_states, d_is_state := ?d_is_state, d_greatest_counts := ?d_greatest_counts, d_stands := ?d_stands, d_house_fault := ?d_house_fault, d_check_house_paper := ?d_check_house_paper, d_house_paper := ?d_house_paper, d_least_count := ?d_least_count, d_law_start := ?d_law_start, d_law_draw := ?d_law_draw, d_law_numbers := ?d_law_numbers, d_law_widths := ?d_law_widths, d_law_first := ?d_law_first, d_law_after := ?d_law_after, d_law_house_log := ?d_law_house_log, d_law_houses := ?d_law_houses, d_law_next := ?d_law_next, d_law_least := ?d_law_least, d_law_whole := ?d_law_whole, d_law_is_case := ?d_law_is_case, d_law_tops := ?d_law_tops, d_law_stands := ?d_law_stands, d_law_reason := ?d_law_reason, d_law_verdict := ?d_law_verdict, d_law_told_by := ?d_law_told_by, d_law_changed := ?d_law_changed, d_law_pairs := ?d_law_pairs, d_law := ?d_law }
      (case aC => k_is)
      (case aCW => k_is)
      (case aCP => k_is)
      (case aCN => k_is)
      (case aCE => k_is)
      (case z_len => k_is)
      (case z_range => k_is)
      (case z_isinstance => k_is)
      (case z_int => k_is)
      (case z_bool => k_is)
      (case z_tuple => k_is)
      (case z_list => k_is)
      (case z_abs => k_is)
      (case z_max => k_is)
      (case z_min => k_is)
      (case z_any => k_is)
      (case z_enumerate => k_is)
      (case z_sorted => k_is)
      (case z_super => k_is)
      (case n_MOST_HOUSES => refine' K70.tok_mk ?q; (case q => k_is))
      (case n_MOST_WIDTHS => refine' K70.tok_mk ?q; (case q => k_is))
      (case n_MOST_WIDTH => refine' K70.tok_mk ?q; (case q => k_is))
      (case pgC => k_is)
      (case hdC => k_is)
      (case poC => k_is)
      (case saC => k_is)
      (case mkC => k_is)
      (case kpC => k_is)
      (case pgCW => k_is)
      (case hdCW => k_is)
      (case poCW => k_is)
      (case saCW => k_is)
      (case mkCW => k_is)
      (case kpCW => k_is)
      (case sf => k_is)
      (case ha => k_is)
      (case hn => k_is)
      (case htk => k_is)
      (case hm => k_is)
      (case nW => k_is)
      (case n_widths => k_is)
      (case n_houses => k_is)
      (case n_pairs => k_is)
      (case n_can => k_is)
      (case n_left_over => k_is)
      (case gaCP => k_is)
      (case ggCP => k_is)
      (case hxCP => k_is)
      (case gaCN => k_is)
      (case ggCN => k_is)
      (case hxCN => k_is)
      (case ePP => refine' K70.exm_mk ?h1 ?h2 ?h3 ?h4; (case h1 => k_is); (case h2 => k_is); (case h3 => k_is); (case h4 => first | rfl | k_is))
      (case eNP => refine' K70.exm_mk ?h1 ?h2 ?h3 ?h4; (case h1 => k_is); (case h2 => k_is); (case h3 => k_is); (case h4 => first | rfl | k_is))
      (case eNN => refine' K70.exm_mk ?h1 ?h2 ?h3 ?h4; (case h1 => k_is); (case h2 => k_is); (case h3 => k_is); (case h4 => first | rfl | k_is))
      (case bN => refine' K70.bad_BadNumber ?h1 ?h2 ?sa ?no1 ?no2 ?kC ?exC ?veC ?tyC ?meC ?sup ?nto ?top ?h3 ?h4 ?h5 ?h6 ?h7 ?h8 ?h9 ?h10; (case h1 => k_is); (case h2 => rfl); (case sa => k_is); (case no1 => k_is); (case no2 => k_is); (case kC => k_is); (case exC => k_is); (case veC => k_is); (case tyC => k_is); (case meC => k_is); (case sup => ks_is); (case nto => k_is); (case top => rfl); (case h3 => k_is); (case h4 => k_is); (case h5 => k_is); (case h6 => k_is); (case h7 => k_is); (case h8 => rfl); (case h9 => rfl); (case h10 => k_is))
      (case bP => refine' K70.bad_BadPaper ?h1 ?h2 ?sa ?no1 ?no2 ?kC ?exC ?veC ?tyC ?meC ?sup ?nto ?top ?h3 ?h4 ?h5 ?h6 ?h7 ?h8 ?h9 ?h10; (case h1 => k_is); (case h2 => rfl); (case sa => k_is); (case no1 => k_is); (case no2 => k_is); (case kC => k_is); (case exC => k_is); (case veC => k_is); (case tyC => k_is); (case meC => k_is); (case sup => ks_is); (case nto => k_is); (case top => rfl); (case h3 => k_is); (case h4 => k_is); (case h5 => k_is); (case h6 => k_is); (case h7 => k_is); (case h8 => rfl); (case h9 => rfl); (case h10 => k_is))
      (case m_HouseLog_init => refine' K70.mt_mk ?a ?i ?l ?c ?k; (case a => k_is); (case i => k_is); (case l => k_is); (case c => k_is); (case k => k_is))
      (case m_HouseLog_told => refine' K70.mt_mk ?a ?i ?l ?c ?k; (case a => k_is); (case i => k_is); (case l => k_is); (case c => k_is); (case k => k_is))
      (case m_HouseLog_can_be => refine' K70.mt_mk ?a ?i ?l ?c ?k; (case a => k_is); (case i => k_is); (case l => k_is); (case c => k_is); (case k => k_is))
      (case m_HouseLog_houses_left => refine' K70.mt_mk ?a ?i ?l ?c ?k; (case a => k_is); (case i => k_is); (case l => k_is); (case c => k_is); (case k => k_is))
      (case m_Widths_init => refine' K70.mt_mk ?a ?i ?l ?c ?k; (case a => k_is); (case i => k_is); (case l => k_is); (case c => k_is); (case k => k_is))
      (case m_Widths_or => refine' K70.mt_mk ?a ?i ?l ?c ?k; (case a => k_is); (case i => k_is); (case l => k_is); (case c => k_is); (case k => k_is))
      (case d_is_integer => refine' K70.df_mk ?a ?l ?c ?k; (case a => k_is); (case l => k_is); (case c => k_is); (case k => k_is))
      (case d_check_number => refine' K70.df_mk ?a ?l ?c ?k; (case a => k_is); (case l => k_is); (case c => k_is); (case k => k_is))
      (case d_after_told => refine' K70.df_mk ?a ?l ?c ?k; (case a => k_is); (case l => k_is); (case c => k_is); (case k => k_is))
      (case d_halvings => refine' K70.df_mk ?a ?l ?c ?k; (case a => k_is); (case l => k_is); (case c => k_is); (case k => k_is))
      (case d_state_of => refine' K70.df_mk ?a ?l ?c ?k; (case a => k_is); (case l => k_is); (case c => k_is); (case k => k_is))
      (case d_told_states => refine' K70.df_mk ?a ?l ?c ?k; (case a => k_is); (case l => k_is); (case c => k_is); (case k => k_is))
      (case d_led_states => refine' K70.df_mk ?a ?l ?c ?k; (case a => k_is); (case l => k_is); (case c => k_is); (case k => k_is))
      (case d_is_state => refine' K70.df_mk ?a ?l ?c ?k; (case a => k_is); (case l => k_is); (case c => k_is); (case k => k_is))
      (case d_greatest_counts => refine' K70.df_mk ?a ?l ?c ?k; (case a => k_is); (case l => k_is); (case c => k_is); (case k => k_is))
      (case d_stands => refine' K70.df_mk ?a ?l ?c ?k; (case a => k_is); (case l => k_is); (case c => k_is); (case k => k_is))
      (case d_house_fault => refine' K70.df_mk ?a ?l ?c ?k; (case a => k_is); (case l => k_is); (case c => k_is); (case k => k_is))
      (case d_check_house_paper => refine' K70.df_mk ?a ?l ?c ?k; (case a => k_is); (case l => k_is); (case c => k_is); (case k => k_is))
      (case d_house_paper => refine' K70.df_mk ?a ?l ?c ?k; (case a => k_is); (case l => k_is); (case c => k_is); (case k => k_is))
      (case d_least_count => refine' K70.df_mk ?a ?l ?c ?k; (case a => k_is); (case l => k_is); (case c => k_is); (case k => k_is))
      (case d_law_start => refine' K70.df_mk ?a ?l ?c ?k; (case a => k_is); (case l => k_is); (case c => k_is); (case k => k_is))
      (case d_law_draw => refine' K70.df_mk ?a ?l ?c ?k; (case a => k_is); (case l => k_is); (case c => k_is); (case k => k_is))
      (case d_law_numbers => refine' K70.df_mk ?a ?l ?c ?k; (case a => k_is); (case l => k_is); (case c => k_is); (case k => k_is))
      (case d_law_widths => refine' K70.df_mk ?a ?l ?c ?k; (case a => k_is); (case l => k_is); (case c => k_is); (case k => k_is))
      (case d_law_first => refine' K70.df_mk ?a ?l ?c ?k; (case a => k_is); (case l => k_is); (case c => k_is); (case k => k_is))
      (case d_law_after => refine' K70.df_mk ?a ?l ?c ?k; (case a => k_is); (case l => k_is); (case c => k_is); (case k => k_is))
      (case d_law_house_log => refine' K70.df_mk ?a ?l ?c ?k; (case a => k_is); (case l => k_is); (case c => k_is); (case k => k_is))
      (case d_law_houses => refine' K70.df_mk ?a ?l ?c ?k; (case a => k_is); (case l => k_is); (case c => k_is); (case k => k_is))
      (case d_law_next => refine' K70.df_mk ?a ?l ?c ?k; (case a => k_is); (case l => k_is); (case c => k_is); (case k => k_is))
      (case d_law_least => refine' K70.df_mk ?a ?l ?c ?k; (case a => k_is); (case l => k_is); (case c => k_is); (case k => k_is))
      (case d_law_whole => refine' K70.df_mk ?a ?l ?c ?k; (case a => k_is); (case l => k_is); (case c => k_is); (case k => k_is))
      (case d_law_is_case => refine' K70.df_mk ?a ?l ?c ?k; (case a => k_is); (case l => k_is); (case c => k_is); (case k => k_is))
      (case d_law_tops => refine' K70.df_mk ?a ?l ?c ?k; (case a => k_is); (case l => k_is); (case c => k_is); (case k => k_is))
      (case d_law_stands => refine' K70.df_mk ?a ?l ?c ?k; (case a => k_is); (case l => k_is); (case c => k_is); (case k => k_is))
      (case d_law_reason => refine' K70.df_mk ?a ?l ?c ?k; (case a => k_is); (case l => k_is); (case c => k_is); (case k => k_is))
      (case d_law_verdict => refine' K70.df_mk ?a ?l ?c ?k; (case a => k_is); (case l => k_is); (case c => k_is); (case k => k_is))
      (case d_law_told_by => refine' K70.df_mk ?a ?l ?c ?k; (case a => k_is); (case l => k_is); (case c => k_is); (case k => k_is))
      (case d_law_changed => refine' K70.df_mk ?a ?l ?c ?k; (case a => k_is); (case l => k_is); (case c => k_is); (case k => k_is))
      (case d_law_pairs => refine' K70.df_mk ?a ?l ?c ?k; (case a => k_is); (case l => k_is); (case c => k_is); (case k => k_is))
      (case d_law => refine' K70.df_mk ?a ?l ?c ?k; (case a => k_is); (case l => k_is); (case c => k_is); (case k => k_is)))
#print axioms PySem.Challenge.cw_widestparcels_k70_whole_house_papers_of_holds
