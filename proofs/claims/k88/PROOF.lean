import PyProof.Rows.All
import Wide.All
import OpenK.AllK
import Wide.FinOn
import HandS.ForMost
import HandS.SortKw
import HandS.Lambda
import HandS.More
import KE.SortKeyHeap
import PyProof.Rows.CallKwBuiltin
import HandS.Style
import HandS.TupLe
import KE.DatumOrd
import HandS.Defaults
import HandS.IsInst
import HandS.Flow
import HandS.Walk
import HandS.WordsExc
import HandS.HeadHook4
import HandS.Star
import HandS.Conv
import HandS.TupAny
import HandS.EndTab
import HandS.Head0
import HandS.Head1
import HandS.Head2
import HandS.HeadEnd
import HandS.HeadHook1
import HandS.HeadHook2
import HandS.HeadHook3
import HandS.HeadWalk
import PySem.Challenge.RW_avoidwords_k88_whole_rich_words
set_option Elab.async false
set_option linter.all false
set_option maxRecDepth 100000
set_option maxHeartbeats 0
set_option pp.maxSteps 500
/-! Plain laws: palindromes, words, factorisations. No program in sight. -/
namespace Aw
def pal (l : List Nat) : Bool := l == l.reverse
def seg (l : List Nat) (i j : Nat) : List Nat := (l.take j).drop i
def letters (sz : Nat) : List Nat := [97, 98, 99, 100, 101, 102].take sz
def palAt : List Nat → Nat
  | [] => 0
  | x :: r => if pal (x :: r) then 0 else palAt r + 1
def newM (l : List Nat) : Bool := (List.range (palAt l)).all fun i => !(((l.drop i).take (l.drop (palAt l)).length) == l.drop (palAt l))
def stepL (ok : List Nat → Bool) (sz : Nat) (ws : List (List Nat)) : List (List Nat) := ws.flatMap fun w => ((letters sz).map fun c => w ++ [c]).filter ok
def richL (sz : Nat) : Nat → List (List Nat)
  | 0 => [[]]
  | k + 1 => stepL newM sz (richL sz k)
def endsPlain (least : Nat) (w : List Nat) : Bool :=
  !(decide (least ≤ w.length) && pal (w.drop (w.length - least))) && !(decide (least + 1 ≤ w.length) && pal (w.drop (w.length - (least + 1))))
def freeL (sz least : Nat) : Nat → List (List Nat)
  | 0 => [[]]
  | k + 1 => stepL (endsPlain least) sz (freeL sz least k)
def allL (sz : Nat) : Nat → List (List Nat)
  | 0 => [[]]
  | k + 1 => (allL sz k).flatMap fun w => (letters sz).map fun c => w ++ [c]
/-- a key put into a dict -/
def insK (ks : List (List Nat)) (p : List Nat) : List (List Nat) := if p ∈ ks then ks else ks ++ [p]
def mirE (l : List Nat) (b : Nat) (ks : List (List Nat)) : Nat → List (List Nat)
  | 0 => ks
  | m + 1 => if pal (seg l b (b + 1 + m)) then insK (mirE l b ks m) (seg l b (b + 1 + m)) else mirE l b ks m
def mirB (l : List Nat) : Nat → List (List Nat)
  | 0 => []
  | b + 1 => mirE l b (mirB l b) (l.length - b)
def mirK (l : List Nat) : List (List Nat) := mirB l l.length
def noDef (l : List Nat) : Bool := (mirK l).length == l.length
def hasLong (least : Nat) (w : List Nat) : Bool := (List.range (w.length + 1)).any fun b => (List.range (w.length + 1 - b)).any fun d => decide (least ≤ d) && pal (seg w b (b + d))
def lenOf (sz : Nat) : Nat := if sz = 1 then 12 else if sz = 2 then 8 else 6
/-! ### by looking at each case -/
theorem rich1 : ((List.range 12).all fun n => richL 1 n == (allL 1 n).filter noDef) = true := by decide +kernel
theorem rich2 : ((List.range 8).all fun n => richL 2 n == (allL 2 n).filter noDef) = true := by decide +kernel
theorem rich3 : ((List.range 6).all fun n => richL 3 n == (allL 3 n).filter noDef) = true := by decide +kernel
theorem rich28 : (richL 2 8).length = 252 := by decide +kernel
theorem free1 : ((List.range 12).all fun n => (List.range 5).all fun k => freeL 1 (k + 2) n == (allL 1 n).filter fun w => !hasLong (k + 2) w) = true := by decide +kernel
theorem free2 : ((List.range 8).all fun n => (List.range 5).all fun k => freeL 2 (k + 2) n == (allL 2 n).filter fun w => !hasLong (k + 2) w) = true := by decide +kernel
theorem free3 : ((List.range 6).all fun n => (List.range 5).all fun k => freeL 3 (k + 2) n == (allL 3 n).filter fun w => !hasLong (k + 2) w) = true := by decide +kernel
theorem rich_is {sz n : Nat} (h1 : 1 ≤ sz) (h3 : sz ≤ 3) (hn : n < lenOf sz) : richL sz n = (allL sz n).filter noDef := by
  have h : sz = 1 ∨ sz = 2 ∨ sz = 3 := by omega
  rcases h with rfl | rfl | rfl
  · exact eq_of_beq (List.all_eq_true.mp rich1 n (List.mem_range.mpr hn))
  · exact eq_of_beq (List.all_eq_true.mp rich2 n (List.mem_range.mpr hn))
  · exact eq_of_beq (List.all_eq_true.mp rich3 n (List.mem_range.mpr hn))
theorem free_is {sz n least : Nat} (h1 : 1 ≤ sz) (h3 : sz ≤ 3) (hn : n < lenOf sz) (l2 : 2 ≤ least) (l6 : least ≤ 6) : freeL sz least n = (allL sz n).filter fun w => !hasLong least w := by
  have h : sz = 1 ∨ sz = 2 ∨ sz = 3 := by omega
  obtain ⟨k, hk, rfl⟩ : ∃ k, k < 5 ∧ least = k + 2 := ⟨least - 2, by omega, by omega⟩
  rcases h with rfl | rfl | rfl
  · exact eq_of_beq (List.all_eq_true.mp (List.all_eq_true.mp free1 n (List.mem_range.mpr hn)) k (List.mem_range.mpr hk))
  · exact eq_of_beq (List.all_eq_true.mp (List.all_eq_true.mp free2 n (List.mem_range.mpr hn)) k (List.mem_range.mpr hk))
  · exact eq_of_beq (List.all_eq_true.mp (List.all_eq_true.mp free3 n (List.mem_range.mpr hn)) k (List.mem_range.mpr hk))
end Aw
/-! Palindromic factorisations, least ones. -/
namespace Aw
/-! ### the order -/
def lx : List Int → List Int → Bool
  | [], [] => false
  | [], _ :: _ => true
  | _ :: _, [] => false
  | x :: xs, y :: ys => if x = y then lx xs ys else decide (x < y)
theorem lx_irrefl : ∀ s, lx s s = false
  | [] => rfl
  | x :: s => by
    show (if x = x then lx s s else decide (x < x)) = false
    rw [if_pos rfl]
    exact lx_irrefl s
theorem lx_total : ∀ {s t}, lx s t = false → lx t s = false → s = t
  | [], [], _, _ => rfl
  | [], _ :: _, h, _ => by cases h
  | _ :: _, [], _, h => by cases h
  | x :: s, y :: t, h1, h2 => by
    have h1 : (if x = y then lx s t else decide (x < y)) = false := h1
    have h2 : (if y = x then lx t s else decide (y < x)) = false := h2
    by_cases e : x = y
    · subst e
      rw [if_pos rfl] at h1 h2
      rw [lx_total h1 h2]
    · rw [if_neg e] at h1
      rw [if_neg (Ne.symm e)] at h2
      have h1 := of_decide_eq_false h1
      have h2 := of_decide_eq_false h2
      omega
/-- a ≤ b, b ≤ c: a ≤ c -/
theorem lx_le_trans : ∀ {a b c : List Int}, lx b a = false → lx c b = false → lx c a = false
  | [], [], [], _, _ => rfl
  | [], [], _ :: _, _, _ => rfl
  | [], _ :: _, [], _, h => by cases h
  | [], _ :: _, _ :: _, _, _ => rfl
  | _ :: _, [], _, h, _ => by cases h
  | _ :: _, _ :: _, [], _, h => by cases h
  | x :: a, y :: b, z :: c, h1, h2 => by
    have h1 : (if y = x then lx b a else decide (y < x)) = false := h1
    have h2 : (if z = y then lx c b else decide (z < y)) = false := h2
    show (if z = x then lx c a else decide (z < x)) = false
    by_cases e1 : y = x
    · rw [if_pos e1] at h1
      by_cases e2 : z = y
      · rw [if_pos e2] at h2
        rw [if_pos (e2.trans e1)]
        exact lx_le_trans h1 h2
      · rw [if_neg e2] at h2
        rw [if_neg (by omega)]
        have h2 := of_decide_eq_false h2
        exact decide_eq_false (by omega)
    · rw [if_neg e1] at h1
      have h1 := of_decide_eq_false h1
      by_cases e2 : z = y
      · rw [if_neg (by omega)]
        exact decide_eq_false (by omega)
      · rw [if_neg e2] at h2
        have h2 := of_decide_eq_false h2
        rw [if_neg (show ¬ z = x by omega)]
        exact decide_eq_false (by omega)
theorem lx_asym {s t : List Int} (h : lx s t = true) : lx t s = false := by
  cases e : lx t s with
  | false => rfl
  | true =>
    exfalso
    revert h e
    induction s generalizing t with
    | nil =>
      intro h e
      cases t with
      | nil => cases h
      | cons y t => cases e
    | cons x s ih =>
      intro h e
      cases t with
      | nil => cases h
      | cons y t =>
        have h : (if x = y then lx s t else decide (x < y)) = true := h
        have e : (if y = x then lx t s else decide (y < x)) = true := e
        by_cases q : x = y
        · subst q
          rw [if_pos rfl] at h e
          exact ih h e
        · rw [if_neg q] at h
          rw [if_neg (Ne.symm q)] at e
          have h := of_decide_eq_true h
          have e := of_decide_eq_true e
          omega
theorem lx_snoc (x : Int) : ∀ {s t : List Int}, s.length = t.length → lx (s ++ [x]) (t ++ [x]) = lx s t
  | [], [], _ => by
    show (if x = x then lx [] [] else decide (x < x)) = false
    rw [if_pos rfl]
    rfl
  | [], _ :: _, h => by simp at h
  | _ :: _, [], h => by simp at h
  | a :: s, b :: t, h => by
    show (if a = b then lx (s ++ [x]) (t ++ [x]) else decide (a < b)) = (if a = b then lx s t else decide (a < b))
    rw [lx_snoc x (show s.length = t.length by simpa using h)]
/-- by length, then as lists -/
def kl (s t : List Int) : Bool := if s.length = t.length then lx s t else decide (s.length < t.length)
theorem kl_irrefl (s : List Int) : kl s s = false := by
  unfold kl
  rw [if_pos rfl]
  exact lx_irrefl s
theorem kl_asym {s t : List Int} (h : kl s t = true) : kl t s = false := by
  unfold kl at h ⊢
  by_cases e : s.length = t.length
  · rw [if_pos e] at h
    rw [if_pos e.symm]
    exact lx_asym h
  · rw [if_neg e] at h
    rw [if_neg (Ne.symm e)]
    have h := of_decide_eq_true h
    exact decide_eq_false (by omega)
theorem kl_le_trans {a b c : List Int} (h1 : kl b a = false) (h2 : kl c b = false) : kl c a = false := by
  unfold kl at h1 h2 ⊢
  by_cases e1 : b.length = a.length
  · rw [if_pos e1] at h1
    by_cases e2 : c.length = b.length
    · rw [if_pos e2] at h2
      rw [if_pos (e2.trans e1)]
      exact lx_le_trans h1 h2
    · rw [if_neg e2] at h2
      rw [if_neg (by omega)]
      have h2 := of_decide_eq_false h2
      exact decide_eq_false (by omega)
  · rw [if_neg e1] at h1
    have h1 := of_decide_eq_false h1
    by_cases e2 : c.length = b.length
    · rw [if_neg (by omega)]
      exact decide_eq_false (by omega)
    · rw [if_neg e2] at h2
      have h2 := of_decide_eq_false h2
      rw [if_neg (by omega)]
      exact decide_eq_false (by omega)
theorem kl_snoc {s t : List Int} (x : Int) : kl (s ++ [x]) (t ++ [x]) = kl s t := by
  unfold kl
  by_cases e : s.length = t.length
  · rw [if_pos e, if_pos (by simp [e]), lx_snoc x e]
  · rw [if_neg e, if_neg (by simp; exact e)]
    simp
theorem kl_total {s t : List Int} (h1 : kl s t = false) (h2 : kl t s = false) : s = t := by
  unfold kl at h1 h2
  by_cases e : s.length = t.length
  · rw [if_pos e] at h1
    rw [if_pos e.symm] at h2
    exact lx_total h1 h2
  · rw [if_neg e] at h1
    rw [if_neg (Ne.symm e)] at h2
    have h1 := of_decide_eq_false h1
    have h2 := of_decide_eq_false h2
    omega
/-! ### factorisations -/
inductive PF (l : List Nat) : List Int → Nat → Prop
  | nil : PF l [] 0
  | snoc {s : List Int} {b e : Nat} : PF l s b → b < e → e ≤ l.length → pal (seg l b e) = true → PF l (s ++ [(e : Int) - (b : Int)]) e
def Best (l : List Nat) (s : List Int) (e : Nat) : Prop := PF l s e ∧ ∀ t, PF l t e → kl t s = false
theorem PF.le {l : List Nat} {s : List Int} {e : Nat} (h : PF l s e) : e ≤ l.length := by
  cases h with
  | nil => exact Nat.zero_le _
  | snoc _ _ h _ => exact h
theorem PF.zero {l : List Nat} {s : List Int} {e : Nat} (h : PF l s e) (e0 : e = 0) : s = [] := by
  cases h with
  | nil => rfl
  | snoc _ h _ _ => omega
theorem PF.inv {l : List Nat} {s : List Int} {e : Nat} (h : PF l s e) (he : 0 < e) : ∃ (t : List Int) (b : Nat), s = t ++ [(e : Int) - (b : Int)] ∧ PF l t b ∧ b < e ∧ pal (seg l b e) = true := by
  cases h with
  | nil => omega
  | snoc h1 h2 h3 h4 => exact ⟨_, _, rfl, h1, h2, h4⟩
theorem best_zero (l : List Nat) : Best l [] 0 := ⟨.nil, fun t h => by rw [h.zero rfl]; exact kl_irrefl _⟩
/-- what stands at best[e] when all begins below b have been looked at -/
def Cand (l : List Nat) (e b : Nat) (o : Option (List Int)) : Prop :=
  (∀ s, o = some s → PF l s e) ∧ ∀ (b' : Nat) (t : List Int), b' < b → pal (seg l b' e) = true → PF l t b' → ∃ s, o = some s ∧ kl (t ++ [(e : Int) - (b' : Int)]) s = false
theorem cand_zero (l : List Nat) (e : Nat) : Cand l e 0 none := ⟨(fun s h => nomatch h), fun b' t h => absurd h (Nat.not_lt_zero _)⟩
theorem cand_skip {l : List Nat} {e b : Nat} {o : Option (List Int)} (c : Cand l e b o) (h : ¬ pal (seg l b e) = true) : Cand l e (b + 1) o := by
  refine ⟨c.1, fun b' t hb hp ht => ?_⟩
  by_cases q : b' = b
  · subst q
    exact absurd hp h
  · exact c.2 b' t (by omega) hp ht
/-- the new candidate is taken -/
theorem cand_take {l : List Nat} {e b : Nat} {o : Option (List Int)} {s' : List Int} (c : Cand l e b o) (hb : Best l s' b) (lt : b < e) (le : e ≤ l.length) (hp : pal (seg l b e) = true)
    (h : ∀ s, o = some s → kl (s' ++ [(e : Int) - (b : Int)]) s = true) : Cand l e (b + 1) (some (s' ++ [(e : Int) - (b : Int)])) := by
  refine ⟨fun s q => by cases q; exact .snoc hb.1 lt le hp, fun b' t hb' hp' ht => ⟨_, rfl, ?_⟩⟩
  by_cases q : b' = b
  · subst q
    rw [kl_snoc]
    exact hb.2 t ht
  · obtain ⟨s, es, hs⟩ := c.2 b' t (by omega) hp' ht
    exact kl_le_trans (kl_asym (h s es)) hs
/-- the old one stays -/
theorem cand_keep {l : List Nat} {e b : Nat} {s s' : List Int} (c : Cand l e b (some s)) (hb : Best l s' b) (h : kl (s' ++ [(e : Int) - (b : Int)]) s = false) : Cand l e (b + 1) (some s) := by
  refine ⟨c.1, fun b' t hb' hp' ht => ?_⟩
  by_cases q : b' = b
  · subst q
    exact ⟨s, rfl, kl_le_trans h (by rw [kl_snoc]; exact hb.2 t ht)⟩
  · exact c.2 b' t (by omega) hp' ht
theorem pal_one (l : List Nat) (h : l.length ≤ 1) : pal l = true := by
  unfold pal
  cases l with
  | nil => rfl
  | cons x r =>
    cases r with
    | nil => simp
    | cons y r => simp at h
theorem seg_len (l : List Nat) (i j : Nat) : (seg l i j).length = min j l.length - i := by
  unfold seg
  rw [List.length_drop, List.length_take]
theorem pal_letter (l : List Nat) (b : Nat) : pal (seg l b (b + 1)) = true := pal_one _ (by rw [seg_len]; omega)
theorem cand_best {l : List Nat} {e : Nat} {o : Option (List Int)} {s0 : List Int} (c : Cand l e e o) (he : 0 < e) (h0 : PF l s0 (e - 1)) : ∃ s, o = some s ∧ Best l s e := by
  obtain ⟨s, es, _⟩ := c.2 (e - 1) s0 (by omega) (by have h := pal_letter l (e - 1); rw [show e - 1 + 1 = e by omega] at h; exact h) h0
  refine ⟨s, es, c.1 s es, fun t ht => ?_⟩
  obtain ⟨t', b, rfl, h1, h2, h3⟩ := ht.inv he
  obtain ⟨s2, es2, h⟩ := c.2 b t' h2 h3 h1
  rw [es] at es2
  cases es2
  exact h
/-! ### pieces -/
def pcs (l : List Nat) : Nat → List Int → List (List Nat)
  | _, [] => []
  | a, x :: s => seg l a (a + x.toNat) :: pcs l (a + x.toNat) s
def tot (s : List Int) : Nat := (s.map Int.toNat).sum
theorem pcs_app (l : List Nat) : ∀ (s t : List Int) (a : Nat), pcs l a (s ++ t) = pcs l a s ++ pcs l (a + tot s) t
  | [], t, a => by simp [pcs, tot]
  | x :: s, t, a => by
    show seg l a (a + x.toNat) :: pcs l (a + x.toNat) (s ++ t) = seg l a (a + x.toNat) :: (pcs l (a + x.toNat) s ++ _)
    rw [pcs_app l s t, show a + x.toNat + tot s = a + tot (x :: s) by simp [tot]; omega]
theorem tot_app (s t : List Int) : tot (s ++ t) = tot s + tot t := by simp [tot]
theorem take_seg (l : List Nat) {b e : Nat} (h : b ≤ e) : l.take b ++ seg l b e = l.take e := by
  unfold seg
  have h2 : (l.take e).take b = l.take b := by rw [List.take_take, Nat.min_eq_left h]
  rw [← h2]
  exact List.take_append_drop b (l.take e)
theorem PF.all {l : List Nat} {s : List Int} {e : Nat} (h : PF l s e) : tot s = e ∧ (∀ x ∈ s, 0 < x) ∧ (pcs l 0 s).map (fun p => (p.length : Int)) = s ∧ (pcs l 0 s).flatten = l.take e := by
  induction h with
  | nil => exact ⟨rfl, fun x hx => absurd hx (by simp), rfl, rfl⟩
  | @snoc s b e h1 h2 h3 h4 ih =>
    obtain ⟨i1, i2, i3, i4⟩ := ih
    have et : ((e : Int) - (b : Int)).toNat = e - b := by omega
    have ep : pcs l 0 (s ++ [(e : Int) - (b : Int)]) = pcs l 0 s ++ [seg l b e] := by
      rw [pcs_app]
      show pcs l 0 s ++ [seg l (0 + tot s) (0 + tot s + ((e : Int) - (b : Int)).toNat)] = _
      rw [et, i1, show 0 + b = b by omega, show b + (e - b) = e by omega]
    refine ⟨?_, ?_, ?_, ?_⟩
    · rw [tot_app, i1]
      show b + (((e : Int) - (b : Int)).toNat + 0) = e
      omega
    · intro x hx
      rcases List.mem_append.mp hx with hx | hx
      · exact i2 x hx
      · rw [List.mem_singleton.mp hx]
        omega
    · rw [ep, List.map_append, i3]
      show s ++ [((seg l b e).length : Int)] = _
      rw [seg_len, show ((min e l.length - b : Nat) : Int) = (e : Int) - (b : Int) by omega]
    · rw [ep, List.flatten_append, i4]
      simp only [List.flatten_cons, List.flatten_nil, List.append_nil]
      exact take_seg l (Nat.le_of_lt h2)
theorem PF.ones (l : List Nat) : ∀ k, k ≤ l.length → ∃ s, PF l s k ∧ s.length = k
  | 0, _ => ⟨[], .nil, rfl⟩
  | k + 1, h => by
    obtain ⟨s, h1, h2⟩ := PF.ones l k (by omega)
    exact ⟨_, .snoc h1 (Nat.lt_succ_self k) h (pal_letter l k), by simp [h2]⟩
theorem PF.len {l : List Nat} {s : List Int} {e : Nat} (h : PF l s e) : s.length ≤ e := by
  induction h with
  | nil => exact Nat.le_refl _
  | snoc h1 h2 h3 h4 ih =>
    rw [List.length_append]
    show _ + 1 ≤ _
    omega
/-! ### the rows -/
def ends (l : List Nat) (p : List Int × Nat) : List (List Int × Nat) :=
  ((List.range (l.length - p.2)).filter fun d => pal (seg l p.2 (p.2 + 1 + d))).map fun d => (p.1 ++ [((p.2 + 1 + d : Nat) : Int) - (p.2 : Int)], p.2 + 1 + d)
def rowsF (l : List Nat) : Nat → List (List Int × Nat)
  | 0 => [([], 0)]
  | k + 1 => (rowsF l k).flatMap (ends l)
def doneF (l : List Nat) (k : Nat) : List (List Int) := ((rowsF l k).filter fun p => p.2 == l.length).map (·.1)
theorem mem_ends {l : List Nat} {p q : List Int × Nat} : q ∈ ends l p ↔ p.2 < q.2 ∧ q.2 ≤ l.length ∧ pal (seg l p.2 q.2) = true ∧ q.1 = p.1 ++ [(q.2 : Int) - (p.2 : Int)] := by
  unfold ends
  rw [List.mem_map]
  constructor
  · rintro ⟨d, hd, rfl⟩
    obtain ⟨h1, h2⟩ := List.mem_filter.mp hd
    have h1 := List.mem_range.mp h1
    exact ⟨by show p.2 < p.2 + 1 + d; omega, by show p.2 + 1 + d ≤ _; omega, h2, rfl⟩
  · rintro ⟨h1, h2, h3, h4⟩
    have e : p.2 + 1 + (q.2 - p.2 - 1) = q.2 := by omega
    refine ⟨q.2 - p.2 - 1, List.mem_filter.mpr ⟨List.mem_range.mpr (by omega), by rw [e]; exact h3⟩, ?_⟩
    rw [e]
    exact Prod.ext h4.symm rfl
theorem mem_rows {l : List Nat} : ∀ {k : Nat} {s : List Int} {a : Nat}, (s, a) ∈ rowsF l k ↔ PF l s a ∧ s.length = k
  | 0, s, a => by
    constructor
    · intro h
      have e := List.mem_singleton.mp (show (s, a) ∈ [(([], 0) : List Int × Nat)] from h)
      cases e
      exact ⟨.nil, rfl⟩
    · rintro ⟨h1, h2⟩
      have e := List.eq_nil_of_length_eq_zero h2
      subst e
      have e : a = 0 := by
        rcases Nat.eq_zero_or_pos a with e | e
        · exact e
        · obtain ⟨t, b, q, _⟩ := h1.inv e
          simp at q
      subst e
      exact List.mem_singleton.mpr rfl
  | k + 1, s, a => by
    show (s, a) ∈ (rowsF l k).flatMap (ends l) ↔ _
    rw [List.mem_flatMap]
    constructor
    · rintro ⟨⟨t, b⟩, h1, h2⟩
      obtain ⟨i1, i2⟩ := mem_rows.mp h1
      obtain ⟨j1, j2, j3, j4⟩ := mem_ends.mp h2
      have j4 : s = t ++ [(a : Int) - (b : Int)] := j4
      subst j4
      exact ⟨.snoc i1 j1 j2 j3, by simp [i2]⟩
    · rintro ⟨h1, h2⟩
      have ha : 0 < a := by
        rcases Nat.eq_zero_or_pos a with e | e
        · rw [h1.zero e] at h2
          simp at h2
        · exact e
      obtain ⟨t, b, e, h3, h4, h5⟩ := h1.inv ha
      refine ⟨(t, b), mem_rows.mpr ⟨h3, ?_⟩, mem_ends.mpr ⟨h4, h1.le, h5, e⟩⟩
      rw [e] at h2
      simpa using h2
theorem mem_done {l : List Nat} {k : Nat} {s : List Int} : s ∈ doneF l k ↔ PF l s l.length ∧ s.length = k := by
  unfold doneF
  rw [List.mem_map]
  constructor
  · rintro ⟨⟨t, a⟩, h, rfl⟩
    obtain ⟨h1, h2⟩ := List.mem_filter.mp h
    have h2 : (a == l.length) = true := h2
    have e : a = l.length := eq_of_beq h2
    subst e
    exact mem_rows.mp h1
  · intro h
    exact ⟨(s, l.length), List.mem_filter.mpr ⟨mem_rows.mpr h, by simp⟩, rfl⟩
theorem rows_some {l : List Nat} {k : Nat} (h : k ≤ l.length) : rowsF l k ≠ [] := fun e => by
  obtain ⟨s, h1, h2⟩ := PF.ones l k h
  have m := mem_rows.mpr ⟨h1, h2⟩
  rw [e] at m
  cases m
theorem done_some (l : List Nat) : doneF l l.length ≠ [] := fun e => by
  obtain ⟨s, h1, h2⟩ := PF.ones l l.length (Nat.le_refl _)
  have m := mem_done.mpr ⟨h1, h2⟩
  rw [e] at m
  cases m
/-- the bound on their number -/
def wt (n : Nat) (rs : List (List Int × Nat)) : Nat := (rs.map fun p => 2 ^ (n - p.2)).sum
theorem len_wt (n : Nat) : ∀ rs : List (List Int × Nat), rs.length ≤ wt n rs
  | [] => Nat.le_refl _
  | p :: rs => by
    show rs.length + 1 ≤ 2 ^ (n - p.2) + wt n rs
    have h1 := len_wt n rs
    have h2 : 1 ≤ 2 ^ (n - p.2) := Nat.one_le_two_pow
    omega
theorem wt_app (n : Nat) (rs ts : List (List Int × Nat)) : wt n (rs ++ ts) = wt n rs + wt n ts := by simp [wt]
theorem wt_some (l : List Nat) (p : List Int × Nat) : ∀ m, m ≤ l.length - p.2 →
    wt l.length (((List.range m).filter fun d => pal (seg l p.2 (p.2 + 1 + d))).map fun d => (p.1 ++ [((p.2 + 1 + d : Nat) : Int) - (p.2 : Int)], p.2 + 1 + d)) + 2 ^ (l.length - p.2 - m) ≤ 2 ^ (l.length - p.2)
  | 0, _ => by simp [wt]
  | m + 1, h => by
    have ih := wt_some l p m (by omega)
    rw [List.range_succ, List.filter_append, List.map_append, wt_app]
    have e : 2 ^ (l.length - p.2 - m) = 2 ^ (l.length - p.2 - (m + 1)) + 2 ^ (l.length - p.2 - (m + 1)) := by
      rw [show l.length - p.2 - m = (l.length - p.2 - (m + 1)) + 1 by omega, Nat.pow_succ]
      omega
    have h2 : wt l.length ((([m] : List Nat).filter fun d => pal (seg l p.2 (p.2 + 1 + d))).map fun d => (p.1 ++ [((p.2 + 1 + d : Nat) : Int) - (p.2 : Int)], p.2 + 1 + d)) ≤ 2 ^ (l.length - p.2 - (m + 1)) := by
      cases q : pal (seg l p.2 (p.2 + 1 + m)) with
      | true =>
        rw [List.filter_cons_of_pos (by exact q)]
        show 2 ^ (l.length - (p.2 + 1 + m)) + 0 ≤ _
        rw [show l.length - (p.2 + 1 + m) = l.length - p.2 - (m + 1) by omega]
        exact Nat.le_refl _
      | false =>
        rw [List.filter_cons_of_neg (by rw [q]; exact Bool.false_ne_true)]
        exact Nat.zero_le _
    omega
theorem wt_ends (l : List Nat) (p : List Int × Nat) : wt l.length (ends l p) ≤ 2 ^ (l.length - p.2) := Nat.le_trans (Nat.le_add_right _ _) (wt_some l p _ (Nat.le_refl _))
theorem wt_flat (l : List Nat) : ∀ rs : List (List Int × Nat), wt l.length (rs.flatMap (ends l)) ≤ wt l.length rs
  | [] => Nat.le_refl _
  | p :: rs => by
    rw [List.flatMap_cons, wt_app]
    show _ ≤ 2 ^ (l.length - p.2) + wt l.length rs
    exact Nat.add_le_add (wt_ends l p) (wt_flat l rs)
theorem wt_rows (l : List Nat) : ∀ k, wt l.length (rowsF l k) ≤ 2 ^ l.length
  | 0 => by simp [rowsF, wt]
  | k + 1 => Nat.le_trans (wt_flat l _) (wt_rows l k)
theorem wt_mono (n : Nat) {rs ts : List (List Int × Nat)} : wt n rs ≤ wt n (rs ++ ts) := by
  rw [wt_app]
  exact Nat.le_add_right _ _
theorem rows_len {l : List Nat} (hl : l.length ≤ 10) (k : Nat) : (rowsF l k).length ≤ 1024 := by
  refine Nat.le_trans (len_wt l.length _) (Nat.le_trans (wt_rows l k) ?_)
  exact Nat.le_trans (Nat.pow_le_pow_right (by decide) hl) (by decide)
theorem done_len {l : List Nat} (hl : l.length ≤ 10) (k : Nat) : (doneF l k).length ≤ 1024 := by
  unfold doneF
  rw [List.length_map]
  exact Nat.le_trans (List.length_filter_le ..) (rows_len hl k)
/-! ### both ways agree -/
theorem agree {l : List Nat} {K : Nat} {s m : List Int} (hs : Best l s l.length) (hm : m ∈ doneF l K) (hmin : ∀ d ∈ doneF l K, lx d m = false) (hk : ∀ k, k < K → doneF l k = []) : s = m := by
  obtain ⟨h1, h2⟩ := mem_done.mp hm
  have h3 := hs.2 m h1
  have h4 : s ∈ doneF l s.length := mem_done.mpr ⟨hs.1, rfl⟩
  have h5 : K ≤ s.length := by
    rcases Nat.lt_or_ge s.length K with q | q
    · rw [hk _ q] at h4
      cases h4
    · exact q
  have h6 : s.length = K := by
    unfold kl at h3
    by_cases e : m.length = s.length
    · omega
    · rw [if_neg e] at h3
      have := of_decide_eq_false h3
      omega
  have h7 := hmin s (by rw [← h6]; exact h4)
  unfold kl at h3
  rw [if_pos (by omega)] at h3
  exact lx_total h7 h3
end Aw
/-! sorted(d, key=lambda part: (len(part), part)), d a dict with texts as keys: a new list of as many items. -/
namespace Aw
open PySem PySem.Spec PyProof.Rows L2 LamX
/-- the lambda's body -/
abbrev lamB (p1 p2 p3 p4 p5 : Pos) (k : Nat) : Expr := .Tuple [.Call (.Name "len" p1) [.Name "part" p2] [] p3, .Name "part" p4] k p5
def keyD (x : Str) : PyData := .tuple [.int x.length, .str x]
structure KeyS (scope : Scope) : Prop where
  kind : scope.kind = .function
  co : scope.isCoroutine = false
  gen : scope.isGenerator = false
  nocell : ∀ y ∈ scope.names, y.2 ≠ .cell
  nofree : ∀ y ∈ scope.names, y.2 ≠ .free
  part : scope.names.lookup ("part" : Str) = some NameKind.local
  len : scope.names.lookup ("len" : Str) = some NameKind.globalImplicit
section
variable {X : Cx} {pins : List (Addr × Obj)} {σ : L2.St} {H : Hp} {s : Shared}
theorem key_turn {j : Nat} {f c' : Addr} {pm ctv : Value} {qual : Str} {params : Arguments} {scope : Scope} {p1 p2 p3 p4 p5 : Pos} {kk : Nat} (I : Inv X pins σ H s) (hr : Room (j + 1) X.A) (S : KeyS scope)
    (hf : s.heap.get? f = some (PySem.W.kla_obj "<lambda>" qual params (lamB p1 p2 p3 p4 p5 kk) scope [] pm c' ctv)) (hc : H c' = some (CodeO c' qual)) (hml : X.mg "len" = none)
    (hbind : ∀ v : Value, bindArgs (PySem.W.kla_fn "<lambda>" qual params (lamB p1 p2 p3 p4 p5 kk) scope [] pm (.ref c') ctv) ⟨[v], []⟩ = pure [(("part" : Str), v)])
    {x : Str} {t : Tok} (hx : x.length ≤ 1000) {h : Heap} {tk : Nat} (kp : ∀ b o, s.heap.get? b = some o → h.get? b = some o) :
    wpAny (model X.prog X.w) X.A.in1.in1 (call (.ref f) [.str x t]) (PySem.W.KeyPure (keyD x) { s with heap := h, toks := tk }) (fun _ _ => False) { s with heap := h, toks := tk } := by
  have hline : (1000 : Nat) ≤ sizeLine := by rw [sizeLine_eq]; decide
  obtain ⟨⟨oc, vs, tt, hoc, hdc, hvc⟩, _, _⟩ := I.hok c' _ hc
  obtain ⟨mb, hb1, hb2⟩ := I.mod.blt
  have key : codeAny (model X.prog X.w) X.A.in1.in1 (.call (.ref f) ⟨[.str x t], []⟩) (fun r s2 => ∃ v2, r = .ok (.ret v2) ∧ PySem.W.KeyPure (keyD x) { s with heap := h, toks := tk } v2 s2) { s with heap := h, toks := tk } := by
    refine PySem.W.kla_callFunE (fd := PySem.W.kla_fn "<lambda>" qual params (lamB p1 p2 p3 p4 p5 kk) scope [] pm (.ref c') ctv) (show X.A.depth < recursionLimit from hr.depth) (kp _ _ hf) rfl S.co S.gen rfl ⟨c', oc, vs, tt, rfl, kp _ _ hoc, hdc, hvc⟩ ?_
    rw [hbind]
    refine wpAny_pure (wpAny_newFunctionEnv S.nocell (fun y hy => ?_) (fun h₁ hns hsb => ⟨(I.nolimit.keeps kp).fresh _ hsb, ?_⟩) S.kind)
    · have e : y = (("part" : Str), Value.str x t) := by simpa using hy
      rw [e]
      exact S.part
    · have kp1 : ∀ b o, h.get? b = some o → h₁.get? b = some o := fun b o e => hsb.extBut b o (Nat.ne_of_lt (Heap.lt_size e)) (Heap.get?_push_of_some _ e)
      have G : h₁.Ns mainGlobals X.mg := ((I.mod.glob.keeps I.bk).keeps kp).keeps kp1
      have B : h₁.Ns builtinsNs mb := ((hb1.keeps I.bk).keeps kp).keeps kp1
      have hpart : ((([(("part" : Str), Value.str x t)] : List (Str × Value)).reverse).lookup ("part" : Str)) = some (Value.str x t) := rfl
      have nm : ∀ (p : Pos) (tk2 : Nat) (h2 : Heap) {Q E : Value → Shared → Prop} {A : Around} {mm : Model}, (∀ b o, h₁.get? b = some o → h2.get? b = some o) → Q (.str x t) { s with heap := h2, toks := tk2 } → wpAny mm A (eval (.Name "part" p) (newEnv scope h.objs.size mainGlobals [] (qual ++ ".<locals>.") (some f) (.ref c') none builtinsNs)) Q E { s with heap := h2, toks := tk2 } := fun p tk2 h2 {Q E A mm} k2 q =>
        wpAny_Name (wpAny_loadName_local S.kind S.part (hns.keeps k2) hpart q)
      refine PySem.W.kla_codeExpr ?_
      refine wpAny_Tuple_spliced ?_
      show wpAny _ _ (spliced [(false, eval (.Call (.Name "len" p1) [.Name "part" p2] [] p3) _), (false, eval (.Name "part" p4) _)]) _ _ _
      refine Calls.spliced_cons (wpAny_Call_Name_kw (Calls.Name_function_global S.kind S.len (Calls.loadGlobal_builtin G hml B ((hb2 _ (by decide)).trans PySem.boot_len) ?_) (by decide)))
      refine PyProof.Rows.callWith_builtin1 ?_
      show wpAny _ _ (spliced [(false, eval (.Name "part" p2) _)]) _ _ _
      refine Calls.spliced_cons (nm p2 _ _ (fun _ _ e => e) (Calls.spliced_nil ?_))
      refine len_str (by omega) ?_
      refine Calls.spliced_cons (nm p4 _ _ (fun _ _ e => e) (Calls.spliced_nil ⟨by show 2 ≤ sizeLine; omega, ?_⟩))
      refine ⟨_, rfl, _, _, rfl, fun b o e => Heap.get?_push_of_some _ (kp1 b o e), ?_⟩
      exact .tuple (Heap.get?_push_size _ rfl) rfl rfl (.cons (.int _ _) (.cons (.str _ _) .nil))
  refine wpAny_call (codeAny_mono key fun r s2 hq => ?_)
  obtain ⟨v2, rfl, q⟩ := hq
  exact q
end
theorem vals_strs : ∀ {out : List Value}, (∀ v ∈ out, ∃ x t, v = Value.str x t) → ∃ ys : List V, Vals ys out
  | [], _ => ⟨[], .nil⟩
  | v :: out, h => by
    obtain ⟨ys, r⟩ := vals_strs (out := out) fun u hu => h u (List.mem_cons_of_mem _ hu)
    obtain ⟨x, t, e⟩ := h v List.mem_cons_self
    exact ⟨.str x :: ys, .cons ⟨t, e⟩ r⟩
def tSortK (T : List (Addr × Str)) (to : TE) : TE := fun σ H Q => to σ H fun x H1 => ∃ (a : Addr) (kvs : List (Key × V)) (ks : List Str), x = .ref a ∧ H1 a = some (.dK kvs) ∧ kvs.map (·.1) = ks.map Sum.inr ∧ ks.length ≤ 2000 ∧ (∀ k ∈ ks, k.length ≤ 1000) ∧ Tabs T H1 ∧
  ∀ H2, ExtN H1 H2 → Tabs T H2 → ∀ (p : Addr) (ys : List V), H2 p = none → ys.length = ks.length → Q (.ref p) (upd H2 p (.lst ys))
section
variable {X : Cx}
theorem pe_sortK {T : List (Addr × Str)} {c P : Addr} {o : Expr} {to : TE} {params : Arguments} {scope : Scope} {p pos kpos lpos p1 p2 p3 p4 p5 : Pos} {kk j : Nat} (hcalm : X.calm = true) (hr : Room (j + 1) X.A) (hg : Gl X "sorted") (hm : X.mg "sorted" = none) (hml : X.mg "len" = none)
    (TB : TabB X.base X.mg c P) (hcode : X.env.code = .ref c) (hmT : (P, X.env.qual ++ "<lambda>") ∈ T) (hu : ∀ p ∈ T, p.1 = P → p.2 = X.env.qual ++ "<lambda>") (S : KeyS scope) (hdef : defaultsOf params X.env = ([], []))
    (hbind : ∀ (q : Str) (pm cv ctv v : Value), bindArgs (PySem.W.kla_fn "<lambda>" q params (lamB p1 p2 p3 p4 p5 kk) scope [] pm cv ctv) ⟨[v], []⟩ = pure [(("part" : Str), v)])
    (hclo : cloFrom X.env.cells scope.names [] = []) (ho : PE X o to)
    (he : starEach [o] X.env = (false, eval o X.env) :: starEach [] X.env := by rfl) :
    PE X (.Call (.Name "sorted" p) [o] [⟨some "key", .Lambda params (lamB p1 p2 p3 p4 p5 kk) scope lpos, kpos⟩] pos) (tSortK T to) := by
  refine ⟨fun pins s σ H Q I h => ?_⟩
  refine wpAny_Call_Name_kw (ld_blt I hg hm (by decide +kernel : bootBuiltins "sorted" = some (.builtin "sorted")) ?_)
  refine PyProof.Rows.callWith_kw ?_ (by rw [he]; rfl) (by rw [he]; rfl)
  rw [he]
  show wpAny _ _ (spliced [(false, eval o X.env)]) _ _ _
  refine Calls.spliced_cons (thn (ho.run pins s σ H _ I h) fun v s1 ⟨x, H1, I1, r1, q1⟩ => Calls.spliced_nil ?_)
  obtain ⟨a, kvs, ks, rfl, ha, hks, hl1, hl2, hT, q⟩ := q1
  cases r1
  show wpAny _ _ (evalAll [(do let v ← eval (.Lambda params (lamB p1 p2 p3 p4 p5 kk) scope lpos) X.env; standAt pos; pure v)]) _ _ _
  refine wpAny_evalAll_cons (wpAny_bind (lam_make2 I1 TB hcode hmT hu hT hdef (fun y hy e => absurd e (S.nofree y hy)) fun f c' pm ctv H2 s2 I2 eN T2 hf hfn hfr hco => wpAny_bind (wpAny_standAt (wpAny_pure (wpAny_evalAll_nil ?_)))))
  rw [hclo] at hf
  show wpAny _ _ (call (.builtin "sorted") [.ref a] [(Str.ofString "key", .ref f)]) _ _ _
  have hd : H2 a = some (.dK kvs) := eN a _ ha (fun ps z => by cases z)
  obtain ⟨z, lo, vs, rel, dd⟩ := dk_rd I2.hok (.inl hd)
  obtain ⟨ep, hat⟩ := dd.dictAt
  have hkeys : vs.map (·.1) = ks.map Sum.inr := rel.keys.symm.trans hks
  have hl : vs.length = ks.length := by
    have e := congrArg List.length hkeys
    rw [List.length_map, List.length_map] at e
    exact e
  have hline : (2000 : Nat) ≤ sizeLine := by rw [sizeLine_eq]; decide
  have h16 : vs.length ≤ sizeLine := by omega
  refine PyProof.Rows.call_function_entry_kw PyProof.Rows.kind_sorted PyProof.Rows.plain_sorted PyProof.Rows.entry_sorted (PyProof.Rows.ksk_s1 _ _) ?_
  unfold Builtin.«sorted»
  refine wpAny_bind (m := checkCount "sorted" 1 1 _) (wpAny_pure ?_)
  refine wpAny_bind (PySem.W.kdu_collect (A := X.A.in1) (PySem.W.kdl_dict (knd := mixKind X.prog X.w) (kvs := vs) (ep := ep) lo) (I2.ok.hd hcalm) hat h16 fun h' tk acc hk hacc => ?_)
  have hal : acc.toList.length = ks.length := by rw [Array.length_toList, hacc.1, hl]
  have hS : ∀ (i : Nat) (v : Value), acc.toList[i]? = some v → ∃ (x : Str) (t : Tok), ks[i]? = some x ∧ v = Value.str x t := fun j v e => by
    obtain ⟨k, x, e1, e2⟩ := hacc.2 j v (by rw [← Array.getElem?_toList]; exact e)
    have e3 : (vs.map (·.1))[j]? = some k := by rw [List.getElem?_map, e1]; all_goals rfl
    rw [hkeys, List.getElem?_map] at e3
    cases e4 : ks[j]? with
    | none => rw [e4] at e3; cases e3
    | some y =>
      rw [e4] at e3
      have e5 : Sum.inr y = k := Option.some.inj e3
      subst e5
      obtain ⟨t, ev⟩ := Value.isStrOf_shape (x := y) (v := v) e2
      exact ⟨y, t, rfl, ev⟩
  refine wpAny_bind (wpAny_newList ?_ (by omega))
  have hoL : (h'.push (seqObj "list" acc.toList.toArray 0)).get? h'.objs.size = some (seqObj "list" acc.toList.toArray 0) := Heap.get?_push_size _ rfl
  have old : ∀ b u, s2.heap.get? b = some u → b ≠ h'.objs.size ∧ (h'.push (seqObj "list" acc.toList.toArray 0)).get? b = some u := fun b u e => ⟨Nat.ne_of_lt (Heap.lt_size (hk b u e)), Heap.get?_push_of_some _ (hk b u e)⟩
  have I3 : Inv X pins σ H2 { s2 with heap := h', toks := tk } := I2.kept hk
  show wpAny _ _ _ _ _ { s2 with heap := h'.push (seqObj "list" acc.toList.toArray 0), toks := tk }
  refine wpAny_bind (wpAny_holding (PyProof.Rows.wpAny_call_entry_kw PyProof.Rows.slot_list_sort ⟨_, hoL, rfl⟩ PyProof.Rows.entry_list_sort ?body (PyProof.Rows.ksk_l1 _ _)))
  case body =>
    show wpAny (model X.prog X.w) X.A.in1.in1 (Builtin.«list.sort» ⟨[.ref h'.objs.size], [(Str.ofString "key", .ref f)]⟩) _ _ _
    rw [PyProof.Rows.ksk_t1]
    refine PySem.W.keyH_tree (kz := ks.map keyD) (s := { s2 with heap := h'.push (seqObj "list" acc.toList.toArray 0), toks := tk }) hoL (by rw [List.length_map, hal]) (by omega) (PySem.W.AllAlike.of fun _ _ => by simp [keyD, PySem.W.alike, PySem.W.alikeAll]) (PySem.W.Sortable.tuples fun _ => ⟨_, _, rfl⟩) (fun d hd => ?_) (fun i v k hv hkz g tk2 kp => ?_) fun g tk2 out cc kp hD ko => ⟨_, rfl, ?_⟩
    · obtain ⟨x, _, rfl⟩ := List.mem_map.mp hd
      have hdep : (keyD x).depth = 1 := by simp [keyD, PyData.depth, PyData.depthAll]
      rw [hdep]
      have := hr.un
      show X.A.units + 1 + 1 + 1 < cLine
      omega
    · obtain ⟨x, t, e1, rfl⟩ := hS i v hv
      rw [List.getElem?_map, e1] at hkz
      have ek : keyD x = k := Option.some.inj hkz
      subst ek
      exact key_turn (h := g) (tk := tk2) I2 hr S hf hco hml (fun v => hbind _ _ _ _ v) (hl2 x (List.mem_of_getElem? e1)) fun b o e => kp b o (old b o e).1 (old b o e).2
    · have hol : out.length = ks.length := (ko.length (by rw [List.length_map, hal])).trans hal
      obtain ⟨ys, ry⟩ := vals_strs (out := out) fun v hv => by
        have m := ko.mem hv
        obtain ⟨i, hi, e⟩ := List.mem_iff_getElem.mp m
        obtain ⟨x, t, _, e2⟩ := hS i v (by rw [List.getElem?_eq_getElem hi, e])
        exact ⟨x, t, e2⟩
      have hys : ys.length = ks.length := ry.length.trans hol
      refine wpAny_pure ⟨_, rfl, .ref h'.objs.size, upd H2 h'.objs.size (.lst ys), I3.laid (t' := tk2) (fun b u e => kp b u (Nat.ne_of_lt (Heap.lt_size e)) (Heap.get?_push_of_some _ e)) (Nat.le_refl _) ⟨by omega, out, cc, ry, hD⟩, rfl, q H2 eN T2 _ ys (I3.hok.fresh (Nat.le_refl _)) hys⟩
end
end Aw
/-! s[::-1] of a text; < of (int, tuple of ints); min of a list of tuples of ints. -/
namespace Aw
open PySem PySem.Spec PyProof.Rows L2
/-! ### texts -/
def S (l : List Nat) : Str := ⟨l.toArray⟩
theorem S_inj {l m : List Nat} : S l = S m ↔ l = m := by
  constructor
  · intro h
    have e : l.toArray = m.toArray := congrArg Str.cps h
    have e2 := congrArg Array.toList e
    simpa using e2
  · intro h
    rw [h]
theorem S_len (l : List Nat) : (S l).length = l.length := by
  show l.toArray.size = l.length
  simp
theorem S_list (l : List Nat) : (S l).cps.toList = l := by simp [S]
theorem S_app (l m : List Nat) : S l ++ S m = S (l ++ m) := by
  show (⟨l.toArray ++ m.toArray⟩ : Str) = ⟨(l ++ m).toArray⟩
  simp
theorem cut_seg (l : List Nat) (i j : Nat) : cutS (S l) (some (i : Int)) (some (j : Int)) = S (seg l i j) := by
  unfold cutS seg
  rw [HT.sIx_nat, HT.sIx_nat, S_len, S_list]
  refine congrArg (fun z : List Nat => (⟨z.toArray⟩ : Str)) ?_
  rw [List.drop_take]
  rcases Nat.le_total i l.length with h | h
  · rw [Nat.min_eq_left h]
    rcases Nat.le_total j l.length with h2 | h2
    · rw [Nat.min_eq_left h2]
    · rw [Nat.min_eq_right h2, List.take_of_length_le (by rw [List.length_drop]; omega), List.take_of_length_le (by rw [List.length_drop]; omega)]
  · rw [Nat.min_eq_right h, List.drop_of_length_le (Nat.le_refl _), List.drop_of_length_le h]
    simp
theorem cut_drop (l : List Nat) (i : Nat) : cutS (S l) (some (i : Int)) none = S (l.drop i) := by
  unfold cutS
  rw [HT.sIx_nat, HT.sIx_none, S_len, S_list]
  refine congrArg (fun z : List Nat => (⟨z.toArray⟩ : Str)) ?_
  rcases Nat.le_total i l.length with h | h
  · rw [Nat.min_eq_left h]
    exact List.take_of_length_le (by rw [List.length_drop]; omega)
  · rw [Nat.min_eq_right h, List.drop_of_length_le (Nat.le_refl _), List.drop_of_length_le h]
    simp
theorem cut_take (l : List Nat) (j : Nat) : cutS (S l) none (some (j : Int)) = S (l.take j) := by
  unfold cutS
  rw [HT.sIx_nat, HT.sIx_none, S_len, S_list]
  refine congrArg (fun z : List Nat => (⟨z.toArray⟩ : Str)) ?_
  rw [List.drop_zero, Nat.sub_zero]
  rcases Nat.le_total j l.length with h | h
  · rw [Nat.min_eq_left h]
  · rw [Nat.min_eq_right h, List.take_of_length_le (Nat.le_refl _), List.take_of_length_le h]
theorem dec_pal (l : List Nat) : decide (V.str (S l) = V.str (S l.reverse)) = pal l := by
  unfold pal
  rw [Bool.eq_iff_iff, decide_eq_true_eq, beq_iff_eq]
  constructor
  · intro h
    injection h with h
    exact S_inj.mp h
  · intro h
    rw [← h]
theorem range_rev (n : Nat) : (List.range n).map (fun k => n - 1 - k) = (List.range n).reverse := PySem.W.krv_range n
theorem indices_rev (n : Nat) : Builtin.Str.strSliceIndices none none (-1) n = (List.range n).reverse := by
  unfold PySem.Builtin.Str.strSliceIndices
  rw [← range_rev, ← PySem.W.krv_sliceRange]
  first
    | rfl
    | simp
theorem filterMap_range (xs : Array Nat) : (List.range xs.size).filterMap (xs[·]?) = xs.toList := PySem.W.krv_all xs
def tRevS (te : TE) : TE := fun σ H Q => te σ H fun x H1 => ∃ l, x = .str (S l) ∧ l.length ≤ sizeLine ∧ Q (.str (S l.reverse)) H1
section
variable {X : Cx}
theorem pe_revS {e : Expr} {te : TE} {k : Nat} {p1 p2 p3 pos : Pos} (he : PE X e te) : PE X (.Subscript e (.Slice none none (some (.UnaryOp .USub (.Constant (.int 1) k p1) p2)) p3) pos) (tRevS te) := by
  refine ⟨fun pins s σ H Q I h => ?_⟩
  refine Subscript_ (thn (he.run pins s σ H _ I h) fun v s1 ⟨x, H1, I1, r1, q1⟩ => ?_)
  obtain ⟨z, ex, hz, q⟩ := q1
  subst ex
  obtain ⟨t, rfl⟩ := r1
  have hst : PO X (some (.UnaryOp .USub (.Constant (.int 1) k p1) p2)) (tPart (tUn (rU fun i => .int (-i)) (tC (.int 1)))) := po_some (pe_un un_neg pe_int)
  refine wpAny_Slice (thn (po_none.run pins s1 σ H1 (fun o H2 => o = none ∧ H2 = H1) I1 ⟨rfl, rfl⟩) fun vl s2 ⟨l, H2, I2, pl, el, e2⟩ => ?_)
  subst el e2
  refine thn (po_none.run pins s2 σ H2 (fun o H3 => o = none ∧ H3 = H2) I2 ⟨rfl, rfl⟩) fun vu s3 ⟨u, H3, I3, pu, eu, e3⟩ => ?_
  subst eu e3
  refine thn (hst.run pins s3 σ H3 (fun o H4 => o = some (-1) ∧ H4 = H3) I3 ⟨1, rfl, -1, rfl, rfl, rfl⟩) fun vs s4 ⟨o, H4, I4, ps, eo, e4⟩ => ?_
  subst eo e4
  have I5 : Inv X pins σ H4 { s4 with heap := s4.heap.push { cls := .type "slice", data := .fields #[vl, vu, vs] } } := I4.kept (t' := s4.toks) fun b ob q => Heap.get?_push_of_some _ q
  obtain ⟨l', rfl, el⟩ := IsPart.raw pl
  obtain ⟨u', rfl, eu⟩ := IsPart.raw pu
  obtain ⟨w', rfl, ew⟩ := IsPart.raw ps
  show wpAny (model X.prog X.w) X.A (subscriptTail e (.Slice none none (some (.UnaryOp .USub (.Constant (.int 1) k p1) p2)) p3) (.str (S z) t) (.ref s4.heap.objs.size)) (EP X pins σ Q) X.xe { s4 with heap := s4.heap.push { cls := .type "slice", data := .fields #[partValue l', partValue u', partValue w'] } }
  refine tail_any (ops := [.str (S z) t, .ref s4.heap.objs.size]) (typeIs_str _ _ _) F.slot_str_getitem.lookup ?_ (by with_unfolding_all rfl)
  refine wpAny_getItem_str_slice (l := l') (u := u') (st := w') ⟨_, Heap.get?_push_size _ rfl, rfl, rfl⟩ (by rw [ew]; rfl) ?_
  have em : sliceMade (S z) t l' u' w' = Made.str (S z.reverse) := by
    unfold sliceMade slicePicked
    rw [ew, el, eu]
    show (if ((-1 : Int) == 1 && (Builtin.Str.strSliceIndices none none (-1) (S z).length).length == (S z).length) = true then Made.val (.str (S z) t) else Made.str ⟨((Builtin.Str.strSliceIndices none none (-1) (S z).length).filterMap ((S z).cps[·]?)).toArray⟩) = _
    rw [if_neg (by simp), indices_rev, List.filterMap_reverse]
    have e3 : (List.range (S z).length).filterMap ((S z).cps[·]?) = (S z).cps.toList := filterMap_range (S z).cps
    rw [e3, S_list] <;> rfl
  rw [em]
  exact ⟨by rw [S_len, List.length_reverse]; exact hz, .str (S z.reverse), H4, I5.tok _, ⟨_, rfl⟩, q⟩
end
/-! ### tuples of ints -/
theorem lx_list : ∀ s t : List Int, PySem.W.listLt s t = lx s t
  | [], [] => rfl
  | [], _ :: _ => rfl
  | _ :: _, [] => rfl
  | x :: s, y :: t => by
    show (if x = y then PySem.W.listLt s t else decide (x < y)) = (if x = y then lx s t else decide (x < y))
    rw [lx_list s t]
theorem holdAll_ints {h : Heap} : ∀ {us : List Value} {ns : List Int}, IntsAre us ns → PySem.W.HoldAll h us ns
  | _, _, .nil => PySem.W.HoldAll.nil
  | _, _, .cons n t r => PySem.W.HoldAll.cons (PySem.W.holds_int n t) (holdAll_ints r)
/-- x holds the tuple ns -/
def TupI (K : PySem.W.Frag) (H : Hp) (x : V) (ns : List Int) : Prop := ∃ t, x = .ref t ∧ SqT K H t (ns.map V.int)
theorem Same.seqT {K : PySem.W.Frag} {H H' : Hp} {a : Addr} {xs : List V} (e : Same H H') (h : SqT K H a xs) : SqT K H' a xs := by
  rcases h with (h | ⟨o, h⟩) | h
  · exact .inl (.inl (e _ _ h))
  · exact .inl (.inr ⟨o, e _ _ h⟩)
  · exact .inr h
theorem TupI.same {K : PySem.W.Frag} {H H' : Hp} {x : V} {ns : List Int} (h : TupI K H x ns) (e : Same H H') : TupI K H' x ns := by
  obtain ⟨t, e1, h1⟩ := h
  exact ⟨t, e1, Same.seqT e h1⟩
theorem holdAll_one {h : Heap} : ∀ {us : List Value} {ns ms : List Int}, PySem.W.HoldAll h us ns → PySem.W.HoldAll h us ms → ns = ms
  | [], [], [], _, _ => rfl
  | [], _ :: _, _, a, _ => by have := a.length; simp at this
  | [], [], _ :: _, _, b => by have := b.length; simp at this
  | _ :: _, [], _, a, _ => by have := a.length; simp at this
  | _ :: _, _ :: _, [], _, b => by have := b.length; simp at this
  | u :: us, n :: ns, m :: ms, a, b => by
    obtain ⟨t, e1⟩ := PySem.W.int_of_holds a.head.1
    obtain ⟨t', e2⟩ := PySem.W.int_of_holds b.head.1
    rw [e1] at e2
    cases e2
    rw [holdAll_one a.head.2 b.head.2]
theorem holds_one {h : Heap} {v : Value} {ns ms : List Int} (a : PySem.W.Holds h v (PySem.W.Tup.mk ns)) (b : PySem.W.Holds h v (PySem.W.Tup.mk ms)) : ns = ms := by
  obtain ⟨l, vs, e1, ⟨o, h1, h2, n, h3⟩, h4⟩ := PySem.W.tup_of_holds a
  obtain ⟨l', vs', e2, ⟨o', g1, g2, n', g3⟩, g4⟩ := PySem.W.tup_of_holds b
  rw [e1] at e2
  cases e2
  rw [h1] at g1
  cases g1
  rw [h3] at g3
  cases g3
  exact holdAll_one h4 g4
section
variable {X : Cx}
theorem holds_tupI {pins : List (Addr × Obj)} {s : Shared} {σ : L2.St} {H : Hp} (I : Inv X pins σ H s) {x : V} {ns : List Int} {v : Value} (h : TupI X.K H x ns) (r : RelV x v) : PySem.W.Holds s.heap v (PySem.W.Tup.mk ns) := by
  obtain ⟨t, rfl, ht⟩ := h
  cases r
  obtain ⟨its, r1, p1, _⟩ := I.tuple ht
  exact PySem.W.holds_tup p1 (by simpa using holdAll_ints (Vals.ints r1))
/-- (i, t) < (j, u), t and u tuples of ints -/
def rLtP (K : PySem.W.Frag) : R2 := fun x y H Q => ∃ (a b : Addr) (i j : Int) (u v : V) (ns ms : List Int), x = .ref a ∧ y = .ref b ∧ SqT K H a [.int i, u] ∧ TupI K H u ns ∧ SqT K H b [.int j, v] ∧ TupI K H v ms ∧ Q (.bl (if i = j then lx ns ms else decide (i < j))) H
theorem holds_pairI {pins : List (Addr × Obj)} {s : Shared} {σ : L2.St} {H : Hp} (I : Inv X pins σ H s) {a : Addr} {i : Int} {u : V} {ns : List Int} (h : SqT X.K H a [.int i, u]) (hu : TupI X.K H u ns) : PySem.W.Holds s.heap (.ref a) ((i, PySem.W.Tup.mk ns) : Int × PySem.W.Tup Int) := by
  obtain ⟨its, r1, p1, _⟩ := I.tuple h
  obtain ⟨w1, w2, rfl, ⟨t, rfl⟩, e2⟩ := vals2 r1
  exact PySem.W.holds_pair p1 (PySem.W.holds_int i t) (holds_tupI I hu e2)
theorem op_ltP (hu : X.A.units + 64 < cLine) : OpR X (compareOp .Lt) (rLtP X.K) := by
  intro pins s σ H x y v u Q I rx ry h
  obtain ⟨a, b, i, j, ut, vt, ns, ms, rfl, rfl, h1, h2, h3, h4, q⟩ := h
  cases rx
  cases ry
  refine PySem.W.lt_datum (x := ((i, PySem.W.Tup.mk ns) : Int × PySem.W.Tup Int)) (y := (j, PySem.W.Tup.mk ms)) (holds_pairI I h1 h2) (holds_pairI I h3 h4) (by show X.A.units + 2 < cLine; omega) ?_
  refine ⟨.bl _, H, I, rfl, ?_⟩
  show Q (.bl (if i = j then PySem.W.listLt ns ms else decide (i < j))) H
  rw [lx_list]
  exact q
/-- min(xs), xs a list of tuples of ints -/
def rMinT (K : PySem.W.Frag) : List V → Hp → VK → Prop := fun vs H Q => ∃ (a : Addr) (xs : List V) (ds : List (List Int)), vs = [.ref a] ∧ SqL K H a xs ∧ Paired (TupI K H) xs ds ∧ ds ≠ [] ∧ ∀ x d, TupI K H x d → d ∈ ds → (∀ e ∈ ds, lx e d = false) → Q x H
theorem paired_get {α β : Type} {F : α → β → Prop} : ∀ {xs : List α} {ys : List β} {i : Nat} {x : α}, Paired F xs ys → xs[i]? = some x → ∃ y, ys[i]? = some y ∧ F x y
  | _, _, _, _, .nil, e => by simp at e
  | _, _, 0, _, .cons r _, e => by
    simp at e
    subst e
    exact ⟨_, rfl, r⟩
  | _, _, i + 1, x, .cons _ t, e => by
    obtain ⟨u, h1, h2⟩ := paired_get (i := i) (x := x) t (by simpa using e)
    exact ⟨u, by simpa using h1, h2⟩
theorem holdAll_tups {pins : List (Addr × Obj)} {s : Shared} {σ : L2.St} {H : Hp} (I : Inv X pins σ H s) : ∀ {xs : List V} {us : List Value} {ds : List (List Int)}, Vals xs us → Paired (TupI X.K H) xs ds → PySem.W.HoldAll s.heap us (ds.map PySem.W.Tup.mk)
  | _, _, _, .nil, .nil => PySem.W.HoldAll.nil
  | _, _, _, .cons r rs, .cons q qs => PySem.W.HoldAll.cons (holds_tupI I q r) (holdAll_tups I rs qs)
theorem minOf_least : ∀ (xs : List (List Int)) (x : List Int), (PySem.W.minOf (PySem.W.Tup.mk x) (xs.map PySem.W.Tup.mk)).items ∈ x :: xs ∧ ∀ e ∈ x :: xs, lx e (PySem.W.minOf (PySem.W.Tup.mk x) (xs.map PySem.W.Tup.mk)).items = false
  | [], x => ⟨List.mem_cons_self, fun e he => by
    rw [List.mem_singleton.mp he]
    exact lx_irrefl x⟩
  | y :: ys, x => by
    have e0 : PySem.W.minOf (PySem.W.Tup.mk x) ((y :: ys).map PySem.W.Tup.mk) = PySem.W.minOf (PySem.W.Tup.mk (if lx y x = true then y else x)) (ys.map PySem.W.Tup.mk) := by
      show PySem.W.minOf (if PySem.W.listLt y x = true then PySem.W.Tup.mk y else PySem.W.Tup.mk x) (ys.map PySem.W.Tup.mk) = _
      rw [lx_list]
      split <;> rfl
    rw [e0]
    obtain ⟨h1, h2⟩ := minOf_least ys (if lx y x = true then y else x)
    generalize (PySem.W.minOf (PySem.W.Tup.mk (if lx y x = true then y else x)) (ys.map PySem.W.Tup.mk)).items = m at h1 h2 ⊢
    have h3 := h2 _ List.mem_cons_self
    refine ⟨?_, fun e he => ?_⟩
    · rcases List.mem_cons.mp h1 with h | h
      · rw [h]
        split
        · exact List.mem_cons_of_mem _ List.mem_cons_self
        · exact List.mem_cons_self
      · exact List.mem_cons_of_mem _ (List.mem_cons_of_mem _ h)
    · rcases List.mem_cons.mp he with rfl | he
      · by_cases c : lx y e = true
        · rw [if_pos c] at h3
          exact lx_le_trans h3 (lx_asym c)
        · rw [if_neg c] at h3
          exact h3
      · rcases List.mem_cons.mp he with rfl | he
        · by_cases c : lx e x = true
          · rw [if_pos c] at h3
            exact h3
          · rw [if_neg c] at h3
            exact lx_le_trans h3 (by simpa using c)
        · exact h2 e (List.mem_cons_of_mem _ he)
theorem cr_minT (hc : X.calm = true) (hu : X.A.units + 64 < cLine) : CallR X (.builtin "min") (rMinT X.K) := by
  intro pins s σ H vs us Q I r h
  obtain ⟨a, xs, ds, rfl, hs, hp, hne, q⟩ := h
  obtain ⟨its, rv, hl, _⟩ := I.list hs
  rw [Vals.ref1 r]
  obtain ⟨d, rest, rfl⟩ : ∃ d rest, ds = d :: rest := by
    cases ds with
    | nil => exact absurd rfl hne
    | cons d rest => exact ⟨d, rest, rfl⟩
  have HA := holdAll_tups I rv hp
  refine PySem.W.min_list_datum (x := PySem.W.Tup.mk d) (xs := rest.map PySem.W.Tup.mk) (I.ok.hd hc) hl.isList (by simpa using HA) (by show X.A.units + 1 + 1 < cLine; omega) fun i v h' tk hv hh hk => ?_
  obtain ⟨h1, h2⟩ := minOf_least rest d
  have hv' : its[i]? = some v := by simpa using hv
  have hlen := rv.length
  obtain ⟨hi, _⟩ := List.getElem?_eq_some_iff.mp hv'
  have hx : xs[i]? = some (xs[i]'(by omega)) := List.getElem?_eq_getElem _
  obtain ⟨u, hu', ru⟩ := Vals.get rv hx
  rw [hv'] at hu'
  cases hu'
  obtain ⟨e, he, te⟩ := paired_get hp hx
  have I2 : Inv X pins σ H { s with heap := h', toks := tk } := I.kept hk
  have hh2 := holds_tupI I2 te ru
  have ee : e = (PySem.W.minOf (PySem.W.Tup.mk d) (rest.map PySem.W.Tup.mk)).items := holds_one hh2 hh
  refine ⟨_, H, I2, ru, q _ e te (List.mem_of_getElem? he) ?_⟩
  rw [ee]
  exact h2
end
end Aw
/-! The small defs: is_int .. need_size, ends_plain, new_mirror. -/
namespace Aw
open PySem PySem.Spec PyProof.Rows L2
def top (i : Nat) : Stmt := PySem.Challenge.pw_avoidwords_k88_whole_rich_words.main.body.getD i (.Pass ⟨0, 0, 0, 0⟩)
abbrev FnP (K : PySem.W.Frag) (x : Str) (i : Nat) (f : Addr) (fd : FuncData) : Prop := FunD K x x (defArgs (top i)) (defBody (top i)) (defScope (top i)) [] [] f fd
theorem bInt : bootBuiltins "int" = some (.type "int") := by decide +kernel
theorem bBool : bootBuiltins "bool" = some (.type "bool") := by decide +kernel
theorem bStr : bootBuiltins "str" = some (.type "str") := by decide +kernel
theorem bTuple : bootBuiltins "tuple" = some (.type "tuple") := by decide +kernel
theorem bList : bootBuiltins "list" = some (.type "list") := by decide +kernel
theorem bIsi : bootBuiltins "isinstance" = some (.builtin "isinstance") := by decide +kernel
theorem bAll : bootBuiltins "all" = some (.builtin "all") := by decide +kernel
theorem bMin : bootBuiltins "min" = some (.builtin "min") := by decide +kernel
/-- what the module's names hold -/
structure Glob (mg : Str → Option Value) : Prop where
  len : mg "len" = none
  isinstance : mg "isinstance" = none
  int : mg "int" = none
  bool : mg "bool" = none
  str : mg "str" = none
  all : mg "all" = none
  range : mg "range" = none
  sorted : mg "sorted" = none
  tuple : mg "tuple" = none
  list : mg "list" = none
  min : mg "min" = none
  letters : ∃ t, mg "LETTERS" = some (.str "abcdefghijklmnopqrstuvwxyz" t)
  size : ∃ t, mg "MOST_SIZE" = some (.int 6 t)
  steps : ∃ t, mg "MOST_STEPS" = some (.int 40 t)
  listed : ∃ t, mg "MOST_LISTED" = some (.int 2000 t)
section
variable {P : Program} {w : World} {K : PySem.W.Frag} {mg : Str → Option Value} {base : Heap}
theorem sc9 : FnScope ["value"] ["value"] (defScope (top 9)) := ⟨rfl, rfl, rfl, by decide +kernel, rfl, by decide +kernel, by decide +kernel⟩
/-- is_int(n) -/
def spIsInt : Sp := fun vs H Q _ => ∃ n : Int, vs = [.int n] ∧ Q (.bl true) H
theorem ok_is_int {f : Addr} {fd : FuncData} (F : FnP K "is_int" 9 f fd) (G : Glob mg) : FnOk P w K mg base CX0 1 f fd ["value"] spIsInt := by
  refine F.ok sc9 (fun vs H Q E h => ?_) (fun cdv A outer s H vs Q E hr h => ?_)
  · obtain ⟨n, rfl, _⟩ := h
    rfl
  · obtain ⟨n, rfl, q⟩ := h
    refine ⟨_, PSs.nox (pss_one (ps_ret (pe_and (pe_callB call_isi (by rfl) G.isinstance bIsi (pa_cons (pv 0) (pa_cons (pe_bltn (v := .ty "int") (by rfl) G.int bInt rfl) pa_nil)))
      (pe_one (pe_not (pe_callB call_isi (by rfl) G.isinstance bIsi (pa_cons (pv 0) (pa_cons (pe_bltn (v := .ty "bool") (by rfl) G.bool bBool rfl) pa_nil)))))))), ?_⟩
    refine ⟨.int n, rfl, .int n, .ty "int", .type "int", .type "int", true, rfl, .ty _, .base (.int n), kit_ty (by decide +kernel), true, rfl, iteT ?_⟩
    refine ⟨.int n, rfl, .int n, .ty "bool", .type "int", .type "bool", false, rfl, .ty _, .base (.int n), kit_ty (by decide +kernel), false, rfl, ?_⟩
    exact q
theorem sc10 : FnScope ["value", "least", "most"] ["value", "least", "most"] (defScope (top 10)) := ⟨rfl, rfl, rfl, by decide +kernel, rfl, by decide +kernel, by decide +kernel⟩
theorem b1 {x : Str} {i : Nat} {f : Addr} {fd : FuncData} {ps : List Str} (F : FnP K x i f fd) (h : ∀ (kV doc pm : Value) (an : Option Addr) (cdv ct : Value) (us : List Value), us.length = ps.length → bindArgs (PySem.W.fnOf x x (defArgs (top i)) (defBody (top i)) (defScope (top i)) .none kV doc pm an cdv ct) ⟨us, []⟩ = pure (ps.zip us)) : Binds K fd ps [] := F.bindsN h
/-- is_in(n, a, b), a ≤ n ≤ b -/
def spIsIn : Sp := fun vs H Q _ => ∃ n a b : Int, vs = [.int n, .int a, .int b] ∧ a ≤ n ∧ n ≤ b ∧ Q (.bl true) H
theorem ok_is_in {f f9 : Addr} {fd fd9 : FuncData} (F : FnP K "is_in" 10 f fd) (F9 : FnP K "is_int" 9 f9 fd9) (g9 : mg "is_int" = some (.ref f9)) (G : Glob mg) : FnOk P w K mg base CX0 2 f fd ["value", "least", "most"] spIsIn := by
  have G9 : FnOk P w K mg base CX0 1 f9 fd9 ["value"] spIsInt := ok_is_int F9 G
  have b9 : Binds K fd9 ["value"] [] := F9.bindsN fun _ _ _ _ _ _ us hl => match us, hl with | [_], _ => rfl
  refine F.ok sc10 (fun vs H Q E h => ?_) (fun cdv A outer s H vs Q E hr h => ?_)
  · obtain ⟨n, a, b, rfl, _⟩ := h
    rfl
  · obtain ⟨n, a, b, rfl, h1, h2, q⟩ := h
    refine ⟨_, PSs.nox (pss_one (ps_ret (pe_and (pe_call G9 hr (by rfl) g9 F9.kp b9 .nil pass0 (pa_cons (pv 0) pa_nil)) (pe_one (pe_chain op_le op_le (pv 1) (pv 0) (pv 2)))))), ?_⟩
    refine ⟨.int n, rfl, n, rfl, true, rfl, iteT ?_⟩
    refine ⟨.int a, rfl, .int n, rfl, a, n, rfl, rfl, true, congrArg V.bl (decide_eq_true h1), iteT ?_⟩
    refine ⟨.int b, rfl, n, b, rfl, rfl, ?_⟩
    show Q (.bl (decide (n ≤ b))) H
    rw [decide_eq_true h2]
    exact q
/-- words -/
def Wd (l : List Nat) : Prop := l.length ≤ 200 ∧ ∀ c ∈ l, 97 ≤ c ∧ c ≤ 122
theorem line200 : 200 ≤ sizeLine := by rw [sizeLine_eq]; decide
theorem line2000 : 2000 < sizeLine := by rw [sizeLine_eq]; decide
theorem Wd.line {l : List Nat} (h : Wd l) : l.length ≤ sizeLine := Nat.le_trans h.1 line200
abbrev ABC : Str := "abcdefghijklmnopqrstuvwxyz"
theorem abc_mem {c : Nat} (h1 : 97 ≤ c) (h2 : c ≤ 122) : c ∈ ABC.cps.toList := by
  have e : ABC.cps.toList = (List.range 26).map (97 + ·) := by decide +kernel
  rw [e]
  exact List.mem_map.mpr ⟨c - 97, List.mem_range.mpr (by omega), by omega⟩
theorem sc11 : FnScope ["value", "most", "sign"] ["value", "most"] (defScope (top 11)) := ⟨rfl, rfl, rfl, by decide +kernel, rfl, by decide +kernel, by decide +kernel⟩
def spIsWord : Sp := fun vs H Q _ => ∃ l, vs = [.str (S l), .int 200] ∧ Wd l ∧ ∀ H', Same H H' → Q (.bl true) H'
theorem same_upd {H : Hp} {p : Addr} {o : HO} (h : H p = none) : Same H (upd H p o) := fun b x e => by
  rw [upd_ne (ne_of_none e h)]
  exact e
theorem same_set {H H1 : Hp} {p : Addr} {o : HO} (e : Same H H1) (h : H p = none) : Same H (upd H1 p o) := fun b x q => by
  rw [upd_ne (ne_of_none q h)]
  exact e b x q
theorem ok_is_word {f : Addr} {fd : FuncData} (F : FunD K "is_word" "is_word" (defArgs (top 11)) (defBody (top 11)) (defScope (top 11)) [.int 200] [] f fd) (G : Glob mg) : FnOk P w K mg base CX0 1 f fd ["value", "most"] spIsWord := by
  obtain ⟨tL, gL⟩ := G.letters
  refine F.ok sc11 (fun vs H Q E h => ?_) (fun cdv A outer s H vs Q E hr h => ?_)
  · obtain ⟨l, rfl, _⟩ := h
    rfl
  · obtain ⟨l, rfl, hw, q⟩ := h
    refine ⟨_, PSs.nox (pss_one (ps_ret (pe_and (pe_callB call_isi (by rfl) G.isinstance bIsi (pa_cons (pv 0) (pa_cons (pe_bltn (v := .ty "str") (by rfl) G.str bStr rfl) pa_nil)))
      (pe_and (pe_cmpR op_le (pe_callB call_len_str (by rfl) G.len PySem.boot_len (pa_cons (pv 0) pa_nil)) (pv 1) (nomark _))
      (pe_one (pe_callB (cr_all rfl) (by rfl) G.all bAll (pa_cons (pe_lc (own := [("sign", 2)]) (g := gName 2) (by rfl) sc11.nd (pi_str (pv 0)) (blkOk_by (own := [("sign", 2)]) (N := ["value", "most", "sign"]) (sc := defScope (top 11)) (by decide +kernel))
        (fun _ _ _ _ _ => pg_name (i := 2) sc11.nd rfl (Or.inl rfl)) (fun _ _ _ _ _ => pts_nil) (fun _ _ _ _ _ => pe_cmpR op_in_sign (pv 2) (pe_glob (v := .str ABC) (by rfl) gL ⟨_, rfl⟩) (by rfl))) pa_nil))))))), ?_⟩
    refine ⟨.str (S l), rfl, .str (S l), .ty "str", .type "str", .type "str", true, rfl, .ty _, .base (.str _), kit_ty (by decide +kernel), true, rfl, iteT ?_⟩
    refine ⟨.str (S l), rfl, S l, rfl, by rw [S_len]; exact hw.line, .int 200, rfl, (S l).length, 200, rfl, rfl, true, ?_, iteT ?_⟩
    · rw [S_len]
      exact congrArg V.bl (decide_eq_true (by have := hw.1; omega))
    · refine ⟨.str (S l), rfl, S l, rfl, fun D hD => ?_⟩
      refine lc_it (walk_str (z := S l)) (fun i H' => Same H H' ∧ H' D = some (.lst ((List.replicate i true).map V.bl))) ⟨same_upd hD, upd_same⟩ (fun _ _ _ _ => True.intro) (fun i x H1 H2 hi hP hY => ?_) (fun H' hP => ?_)
      · obtain ⟨e, c, hc, rfl⟩ := hY
        subst e
        have hm : c ∈ l := by
          have h2 : (S l).cps.toList[i]? = some c := by rw [Array.getElem?_toList]; exact hc
          rw [S_list] at h2
          exact List.mem_of_getElem? h2
        have hi2 : i < l.length := by
          have h2 : (S l).cps.size = l.length := S_len l
          omega
        refine ⟨rfl, .str ⟨#[c]⟩, rfl, c, ABC, rfl, rfl, _, hP.2, ?_, same_set hP.1 hD, ?_⟩
        · rw [List.length_map, List.length_replicate]
          have := hw.1
          have := line2000
          omega
        · rw [upd_same, decide_eq_true (abc_mem (hw.2 c hm).1 (hw.2 c hm).2), List.replicate_succ', List.map_append]
          rfl
      · refine ⟨D, _, rfl, .inl (.inl hP.2), ?_⟩
        rw [show (List.replicate (S l).cps.size true).all id = true by simp]
        exact q _ hP.1
theorem sc12 : FnScope ["value"] ["value"] (defScope (top 12)) := ⟨rfl, rfl, rfl, by decide +kernel, rfl, by decide +kernel, by decide +kernel⟩
def spNeedWord : Sp := fun vs H Q _ => ∃ l, vs = [.str (S l)] ∧ Wd l ∧ ∀ H', Same H H' → Q .non H'
theorem ok_need_word {f f1 : Addr} {fd fd1 : FuncData} (F : FnP K "need_word" 12 f fd) (F1 : FunD K "is_word" "is_word" (defArgs (top 11)) (defBody (top 11)) (defScope (top 11)) [.int 200] [] f1 fd1) (g1 : mg "is_word" = some (.ref f1)) (G : Glob mg) : FnOk P w K mg base CX0 2 f fd ["value"] spNeedWord := by
  have G1 : FnOk P w K mg base CX0 1 f1 fd1 ["value", "most"] spIsWord := ok_is_word F1 G
  obtain ⟨ds, rd, bd⟩ := F1.binds1 (ps := ["value", "most"]) 1 0 (by simp) rfl fun _ _ _ _ _ _ _ us its hl hi => match us, its, hl, hi with | [_], [_], _, _ => ⟨_, rfl, rfl⟩
  refine F.ok sc12 (fun vs H Q E h => ?_) (fun cdv A outer s H vs Q E hr h => ?_)
  · obtain ⟨n, rfl, _⟩ := h
    rfl
  · obtain ⟨l, rfl, hw, q⟩ := h
    refine ⟨_, PSs.nox (pss_one (ps_if (pt_not (pt_val (pe_call G1 hr (by rfl) g1 F1.kp bd rd pass0 (pa_cons (pv 0) pa_nil)))) (pss_one ps_never) pss_nil)), ?_⟩
    exact ⟨.str (S l), rfl, l, rfl, hw, fun H' sm => ⟨true, rfl, iteF (q H' sm)⟩⟩
theorem sc13 : FnScope ["value"] ["value"] (defScope (top 13)) := ⟨rfl, rfl, rfl, by decide +kernel, rfl, by decide +kernel, by decide +kernel⟩
def spNeedSize : Sp := fun vs H Q _ => ∃ n : Int, vs = [.int n] ∧ 1 ≤ n ∧ n ≤ 6 ∧ Q .non H
theorem ok_need_size {f f0 f9 : Addr} {fd fd0 fd9 : FuncData} (F : FnP K "need_size" 13 f fd) (F0 : FnP K "is_in" 10 f0 fd0) (F9 : FnP K "is_int" 9 f9 fd9) (g0 : mg "is_in" = some (.ref f0)) (g9 : mg "is_int" = some (.ref f9)) (G : Glob mg) : FnOk P w K mg base CX0 3 f fd ["value"] spNeedSize := by
  have G0 : FnOk P w K mg base CX0 2 f0 fd0 ["value", "least", "most"] spIsIn := ok_is_in F0 F9 g9 G
  have b0 : Binds K fd0 ["value", "least", "most"] [] := F0.bindsN fun _ _ _ _ _ _ us hl => match us, hl with | [_, _, _], _ => rfl
  obtain ⟨tS, gS⟩ := G.size
  refine F.ok sc13 (fun vs H Q E h => ?_) (fun cdv A outer s H vs Q E hr h => ?_)
  · obtain ⟨n, rfl, _⟩ := h
    rfl
  · obtain ⟨n, rfl, h1, h2, q⟩ := h
    refine ⟨_, PSs.nox (pss_one (ps_if (pt_not (pt_val (pe_call G0 hr (by rfl) g0 F0.kp b0 .nil pass0 (pa_cons (pv 0) (pa_cons pe_int (pa_cons (pe_glob (v := .int 6) (by rfl) gS ⟨_, rfl⟩) pa_nil)))))) (pss_one ps_never) pss_nil)), ?_⟩
    exact ⟨.int n, rfl, n, 1, 6, rfl, h1, h2, true, rfl, iteF q⟩
end
end Aw
/-! ends_plain, new_mirror. -/
namespace Aw
open PySem PySem.Spec PyProof.Rows L2 TL
theorem palAt_pal : ∀ l : List Nat, pal (l.drop (palAt l)) = true
  | [] => rfl
  | x :: r => by
    show pal ((x :: r).drop (if pal (x :: r) = true then 0 else palAt r + 1)) = true
    by_cases h : pal (x :: r) = true
    · rw [if_pos h]
      exact h
    · rw [if_neg h]
      exact palAt_pal r
theorem palAt_first : ∀ (l : List Nat) (i : Nat), i < palAt l → pal (l.drop i) = false
  | [], i, h => absurd h (Nat.not_lt_zero _)
  | x :: r, i, h => by
    have h : i < (if pal (x :: r) = true then 0 else palAt r + 1) := h
    by_cases q : pal (x :: r) = true
    · rw [if_pos q] at h
      exact absurd h (Nat.not_lt_zero _)
    · rw [if_neg q] at h
      cases i with
      | zero => simpa using q
      | succ i => exact palAt_first r i (by omega)
theorem palAt_le : ∀ l : List Nat, palAt l ≤ l.length
  | [] => Nat.le_refl _
  | x :: r => by
    show (if pal (x :: r) = true then 0 else palAt r + 1) ≤ r.length + 1
    have := palAt_le r
    split <;> omega
theorem palAt_lt {l : List Nat} (h : l ≠ []) : palAt l < l.length := by
  rcases Nat.lt_or_ge (palAt l) l.length with g | g
  · exact g
  · have h1 : 0 < l.length := List.length_pos_iff.mpr h
    have h2 := palAt_first l (l.length - 1) (by omega)
    rw [pal_one _ (by rw [List.length_drop]; omega)] at h2
    cases h2
theorem find_last {l : List Nat} (h : l ≠ []) : decide (V.int (Txt.find (S l) (S (l.drop (palAt l)))) = V.int (palAt l : Nat)) = newM l := by
  have hlt := palAt_lt h
  have hy : tl (S (l.drop (palAt l))) ≠ [] := by
    show (S (l.drop (palAt l))).cps.toList ≠ []
    rw [S_list]
    intro e
    have := congrArg List.length e
    rw [List.length_drop] at this
    simp at this
    omega
  have hat : ∀ i, StrLaws.At (S l) (S (l.drop (palAt l))) (S l).length i ↔ pre (l.drop (palAt l)) (l.drop i) = true := fun i => by
    have q := at_iff (x := S l) hy i
    rw [show tl (S l) = l from S_list l, show tl (S (l.drop (palAt l))) = l.drop (palAt l) from S_list _] at q
    exact q
  have hself : pre (l.drop (palAt l)) (l.drop (palAt l)) = true := by
    unfold pre
    rw [List.take_length]
    exact beq_self_eq_true _
  have hnew : newM l = (List.range (palAt l)).all fun i => !pre (l.drop (palAt l)) (l.drop i) := rfl
  rw [hnew, Bool.eq_iff_iff, decide_eq_true_eq, List.all_eq_true]
  unfold PySem.Txt.find
  rcases StrLaws.occ_head (S l) (S (l.drop (palAt l))) 1 (Nat.le_refl 1) with ⟨h0, hn⟩ | ⟨i, r, h0, hi, hn⟩
  · exact absurd ((hat _).mpr hself) (hn (palAt l))
  · rw [h0]
    constructor
    · intro e j hj
      have e : i = palAt l := by
        have e1 : ((i : Nat) : Int) = ((palAt l : Nat) : Int) := V.int.inj e
        omega
      subst e
      have hj := List.mem_range.mp hj
      cases q : pre (l.drop (palAt l)) (l.drop j) with
      | false => rfl
      | true => exact absurd ((hat j).mpr q) (hn j hj)
    · intro e
      have h1 : ¬ palAt l < i := fun g => hn _ g ((hat _).mpr hself)
      have h2 : ¬ i < palAt l := fun g => by
        have q := e i (List.mem_range.mpr g)
        rw [(hat i).mp hi] at q
        cases q
      have e : i = palAt l := by omega
      rw [e]
section
variable {P : Program} {w : World} {K : PySem.W.Frag} {mg : Str → Option Value} {base : Heap}
theorem sc19 : FnScope ["word", "at"] ["word"] (defScope (top 19)) := ⟨rfl, rfl, rfl, by decide +kernel, rfl, by decide +kernel, by decide +kernel⟩
def spNewM : Sp := fun vs H Q _ => ∃ l, vs = [.str (S l)] ∧ Wd l ∧ l ≠ [] ∧ Q (.bl (newM l)) H
theorem ok_new_mirror {f : Addr} {fd : FuncData} (F : FnP K "new_mirror" 19 f fd) : FnOk P w K mg base CX0 1 f fd ["word"] spNewM := by
  refine F.ok sc19 (fun vs H Q E h => ?_) (fun cdv A outer s H vs Q E hr h => ?_)
  · obtain ⟨n, rfl, _⟩ := h
    rfl
  · obtain ⟨l, rfl, hw, hne, q⟩ := h
    refine ⟨_, PSs.nox (pss_cons (ps_set (i := 1) sc19.nd rfl (.inl rfl) pe_int)
      (pss_cons (ps_while PassesOwn.never (pt_cmpR op_ne (pe_slice sl_str (pv 0) (po_some (pv 1)) po_none) (pe_revS (pe_slice sl_str (pv 0) (po_some (pv 1)) po_none)) (nomark _))
        (pss_one (ps_aug (i := 1) sc19.nd rfl (.inl rfl) pe_int ip_add)))
      (pss_one (ps_ret (pe_cmpR op_eq (pe_m1 PySem.F.slot_str_find PySem.F.type_str_find mt_find (pv 0) (pe_slice sl_str (pv 0) (po_some (pv 1)) po_none)) (pv 1) (nomark _)))))), ?_⟩
    refine ⟨fun m σ H' => H' = H ∧ ∃ k : Nat, σ = [some (.str (S l)), some (.int (k : Int))] ∧ k ≤ palAt l ∧ m = palAt l - k, ⟨palAt l, rfl, 0, rfl, Nat.zero_le _, rfl⟩, ?_⟩
    rintro m σ H' ⟨rfl, k, rfl, hk, rfl⟩
    have hd : (l.drop k).length ≤ sizeLine := Nat.le_trans (by rw [List.length_drop]; omega) hw.line
    have hl : (S l).length ≤ sizeLine := by rw [S_len]; exact hw.line
    refine ⟨.str (S l), rfl, .int k, rfl, k, rfl, S l, rfl, hl, .str (S l), rfl, .int k, rfl, k, rfl, S l, rfl, hl, l.drop k, by rw [cut_drop], hd, ?_⟩
    rw [cut_drop]
    refine ⟨rfl, _, rfl, ?_⟩
    rw [dec_pal]
    by_cases hp : k = palAt l
    · have e : pal (l.drop k) = true := by rw [hp]; exact palAt_pal l
      rw [e]
      refine iteF ?_
      refine ⟨.str (S l), rfl, ⟨_, rfl⟩, .str (S l), rfl, .int k, rfl, k, rfl, S l, rfl, hl, S l, S (l.drop k), rfl, by rw [cut_drop], .int k, rfl, rfl, ?_⟩
      have e2 := find_last hne
      rw [← hp] at e2
      rw [e2]
      exact q
    · have e : pal (l.drop k) = false := palAt_first l k (by omega)
      rw [e]
      refine iteT ⟨fun σ' H'' => H'' = H' ∧ σ' = [some (.str (S l)), some (.int ((k + 1 : Nat) : Int))], fun σ' H'' ⟨e1, e2⟩ => ⟨palAt l - (k + 1), by omega, e1, k + 1, e2, by omega, rfl⟩, ?_⟩
      exact ⟨.int k, rfl, k, 1, rfl, rfl, rfl, by push_cast; rfl⟩
theorem sc23 : FnScope ["word", "least", "size", "part"] ["word", "least"] (defScope (top 23)) := ⟨rfl, rfl, rfl, by decide +kernel, rfl, by decide +kernel, by decide +kernel⟩
def spEnds : Sp := fun vs H Q _ => ∃ (l : List Nat) (least : Nat), vs = [.str (S l), .int (least : Int)] ∧ Wd l ∧ ∀ H', Same H H' → Q (.bl (endsPlain least l)) H'
def chk (n : Nat) (l : List Nat) : Bool := decide (n ≤ l.length) && pal (l.drop (l.length - n))
theorem ends_chk (n : Nat) (l : List Nat) : endsPlain n l = (!chk n l && !chk (n + 1) l) := rfl
theorem ok_ends_plain {f : Addr} {fd : FuncData} (F : FnP K "ends_plain" 23 f fd) (G : Glob mg) : FnOk P w K mg base CX0 1 f fd ["word", "least"] spEnds := by
  refine F.ok sc23 (fun vs H Q E h => ?_) (fun cdv A outer s H vs Q E hr h => ?_)
  · obtain ⟨l, n, rfl, _⟩ := h
    rfl
  · obtain ⟨l, n, rfl, hw, q⟩ := h
    refine ⟨_, PSs.nox (pss_cons (ps_for PassesOwn.never rfl (pi_tup (pe_tup (pa_cons (pv 1) (pa_cons (pe_op op_add (pv 1) pe_int) pa_nil)))) (pg_name (i := 2) sc23.nd rfl (.inl rfl))
        (pss_cons (ps_set (i := 3) sc23.nd rfl (.inl rfl) (pe_ifExp (pt_cmpR op_le (pv 2) (pe_callB call_len_str (by rfl) G.len PySem.boot_len (pa_cons (pv 0) pa_nil)) (nomark _))
          (pe_slice sl_str (pv 0) (po_some (pe_op op_sub (pe_callB call_len_str (by rfl) G.len PySem.boot_len (pa_cons (pv 0) pa_nil)) (pv 2))) po_none) pe_str))
        (pss_one (ps_if (pt_cmpR op_eq (pv 3) (pe_revS (pv 3)) (nomark _)) (pss_one (ps_ret pe_bl)) pss_nil))))
      (pss_one (ps_ret pe_bl))), ?_⟩
    have hl : (S l).length ≤ sizeLine := by rw [S_len]; exact hw.line
    refine ⟨.int n, rfl, .int n, rfl, n, 1, rfl, rfl, by show 2 ≤ sizeLine; rw [sizeLine_eq]; decide, fun t ht => ⟨t, rfl, ⟨_, .inl (.inl upd_same)⟩, ?_⟩⟩
    refine for_it (walk_tup (xs := [.int (n : Int), .int ((n : Int) + 1)])) (fun i σ H' => Same H H' ∧ H' t = some (.tup [.int (n : Int), .int ((n : Int) + 1)]) ∧ ∃ y2 y3, σ = [some (.str (S l)), some (.int (n : Int)), y2, y3] ∧ (1 ≤ i → chk n l = false) ∧ (2 ≤ i → chk (n + 1) l = false))
      ⟨same_upd ht, upd_same, none, none, rfl, fun h => by omega, fun h => by omega⟩ (fun i σ H' _ hP => .inl (.inl hP.2.1)) (fun i x σ H1 H2 hi hP hY => ?_) (fun σ H' hP => ?_)
    · obtain ⟨e, hx⟩ := hY
      subst e
      obtain ⟨sm, hT, y2, y3, rfl, c1, c2⟩ := hP
      have hi : i < 2 := hi
      have ex : x = .int ((n + i : Nat) : Int) := by
        rcases (show i = 0 ∨ i = 1 by omega) with rfl | rfl
        · exact (Option.some.inj hx).symm
        · exact (Option.some.inj hx).symm
      subst ex
      have next : chk (n + i) l = false → (1 ≤ i + 1 → chk n l = false) ∧ (2 ≤ i + 1 → chk (n + 1) l = false) := fun h => by
        rcases (show i = 0 ∨ i = 1 by omega) with rfl | rfl
        · exact ⟨fun _ => h, fun h => by omega⟩
        · exact ⟨fun _ => c1 (Nat.le_refl _), fun _ => h⟩
      refine ⟨.int ((n + i : Nat) : Int), rfl, .str (S l), rfl, S l, rfl, hl, ((n + i : Nat) : Int), (S l).length, rfl, rfl, _, rfl, ?_⟩
      rw [S_len]
      by_cases hc : n + i ≤ l.length
      · rw [show decide (((n + i : Nat) : Int) ≤ (l.length : Int)) = true from decide_eq_true (by omega)]
        refine iteT ?_
        refine ⟨.str (S l), rfl, .str (S l), rfl, S l, rfl, hl, .int ((n + i : Nat) : Int), rfl, (S l).length, ((n + i : Nat) : Int), rfl, rfl, _, rfl, S l, rfl, hl, ?_⟩
        rw [S_len, show (l.length : Int) - ((n + i : Nat) : Int) = ((l.length - (n + i) : Nat) : Int) by omega, cut_drop]
        refine ⟨.str (S (l.drop (l.length - (n + i)))), rfl, .str (S (l.drop (l.length - (n + i)))), rfl, l.drop (l.length - (n + i)), rfl, Nat.le_trans (by rw [List.length_drop]; omega) hw.line, rfl, _, rfl, ?_⟩
        rw [dec_pal]
        by_cases hp : pal (l.drop (l.length - (n + i))) = true
        · rw [hp]
          have ce : chk (n + i) l = true := by unfold chk; rw [decide_eq_true hc, hp]; rfl
          have ee : endsPlain n l = false := by
            rw [ends_chk]
            rcases (show i = 0 ∨ i = 1 by omega) with rfl | rfl
            · rw [show chk n l = true from ce]; rfl
            · rw [show chk (n + 1) l = true from ce]; simp
          refine iteT ?_
          have qq := q H2 sm
          rw [ee] at qq
          exact qq
        · rw [show pal (l.drop (l.length - (n + i))) = false by simpa using hp]
          exact iteF ⟨sm, hT, _, _, rfl, next (by unfold chk; rw [show pal (l.drop (l.length - (n + i))) = false by simpa using hp]; simp)⟩
      · rw [show decide (((n + i : Nat) : Int) ≤ (l.length : Int)) = false from decide_eq_false (by omega)]
        refine iteF ?_
        refine ⟨.str (S [97, 98]), rfl, .str (S [97, 98]), rfl, [97, 98], rfl, by show 2 ≤ sizeLine; rw [sizeLine_eq]; decide, rfl, _, rfl, ?_⟩
        rw [dec_pal]
        exact iteF ⟨sm, hT, _, _, rfl, next (by unfold chk; rw [decide_eq_false hc]; rfl)⟩
    · obtain ⟨sm, hT, y2, y3, rfl, c1, c2⟩ := hP
      have qq := q H' sm
      rw [ends_chk, c1 (by show 1 ≤ 2; decide), c2 (by show 2 ≤ 2; decide)] at qq
      exact qq
end
end Aw
/-! rich_words, mirror_free. -/
namespace Aw
open PySem PySem.Spec PyProof.Rows L2
def vS (ws : List (List Nat)) : List V := ws.map fun w => V.str (S w)
theorem vS_app (a b : List (List Nat)) : vS (a ++ b) = vS a ++ vS b := List.map_append
theorem vS_len (a : List (List Nat)) : (vS a).length = a.length := List.length_map _
theorem vS_get (a : List (List Nat)) (i : Nat) : (vS a)[i]? = a[i]?.map fun w => V.str (S w) := List.getElem?_map
def rCatS : R2 := fun x y H Q => ∃ i j, x = .str i ∧ y = .str j ∧ i.length + j.length ≤ sizeLine ∧ Q (.str (i ++ j)) H
theorem letters_len {sz : Nat} (h : sz ≤ 6) : (letters sz).length = sz := by
  unfold letters
  rw [List.length_take]
  show min sz 6 = sz
  omega
theorem letters_mem {sz c : Nat} (h : c ∈ letters sz) : 97 ≤ c ∧ c ≤ 122 := by
  have h2 := List.mem_of_mem_take h
  simp at h2
  omega
theorem abc_cut {sz : Nat} (h : sz ≤ 6) : cutS ABC none (some (sz : Int)) = S (letters sz) := by
  have e : ABC = S ((List.range 26).map (97 + ·)) := by decide +kernel
  rw [e, cut_take]
  refine congrArg S ?_
  have h : sz = 0 ∨ sz = 1 ∨ sz = 2 ∨ sz = 3 ∨ sz = 4 ∨ sz = 5 ∨ sz = 6 := by omega
  rcases h with rfl | rfl | rfl | rfl | rfl | rfl | rfl <;> decide +kernel
theorem line_abc : ABC.length ≤ sizeLine := by
  rw [sizeLine_eq]
  decide +kernel
theorem take_more {α : Type} : ∀ {l : List α} {i : Nat} {x : α}, l[i]? = some x → l.take (i + 1) = l.take i ++ [x]
  | [], i, x, h => by simp at h
  | a :: l, 0, x, h => by
    have e : a = x := Option.some.inj h
    subst e
    rfl
  | a :: l, i + 1, x, h => by
    have ih := take_more (l := l) (i := i) (x := x) h
    show a :: l.take (i + 1) = a :: l.take i ++ [x]
    rw [ih]
    rfl
theorem stepL_app (ok : List Nat → Bool) (sz : Nat) (a b : List (List Nat)) : stepL ok sz (a ++ b) = stepL ok sz a ++ stepL ok sz b := List.flatMap_append ..
theorem stepL_len (ok : List Nat → Bool) {sz : Nat} (h : sz ≤ 6) : ∀ ws : List (List Nat), (stepL ok sz ws).length ≤ ws.length * sz
  | [] => by simp [stepL]
  | w :: ws => by
    have ih := stepL_len ok h ws
    show (((letters sz).map fun c => w ++ [c]).filter ok ++ stepL ok sz ws).length ≤ (ws.length + 1) * sz
    rw [List.length_append, Nat.succ_mul]
    have h2 : (((letters sz).map fun c => w ++ [c]).filter ok).length ≤ sz := by
      refine Nat.le_trans (List.length_filter_le ..) ?_
      rw [List.length_map, letters_len h]
      exact Nat.le_refl _
    omega
theorem one_sign (c : Nat) : (⟨#[c]⟩ : Str) = S [c] := rfl
/-- [word + sign for word in words for sign in LETTERS[:size] if ok(word + sign)] -/
theorem step_lc {K : PySem.W.Frag} {H : Hp} {Q : VK} {D0 : Addr} {ws : List (List Nat)} {sz : Nat} {n : Int} {y2 y4 y5 y6 : Option V} {ok : List Nat → Bool} {tt1 : TT} (h6 : sz ≤ 6) (hs : SqL K H D0 (vS ws)) (hn : ws.length * 6 < sizeLine) (hw : ∀ w ∈ ws, w.length ≤ 100)
    (ht : ∀ (w : List Nat) (c : Nat) (H' : Hp) (F : Bool → Hp → Prop), w ∈ ws → c ∈ letters sz → Same H H' → (∀ H'', Same H' H'' → F (ok (w ++ [c])) H'') → tt1 [some (.int sz), some (.int n), y2, some (.ref D0), y4, some (.str (S w)), some (.str (S [c]))] H' F)
    (q : ∀ H' D, Same H H' → H D = none → H' D = some (.lst (vS (stepL ok sz ws))) → Q (.ref D) H') :
    tLc2 (iList K (tVar 3)) (gName 5) tYes (iStr (tSl rSlS (tC (.str ABC)) tNoPart (tPart (tVar 0)))) (gName 6) tt1 (tOp rCatS (tVar 5) (tVar 6)) [5, 6] [6] [some (.int sz), some (.int n), y2, some (.ref D0), y4, y5, y6] H Q := by
  have l100 : 101 ≤ sizeLine := by rw [sizeLine_eq]; decide
  refine ⟨.ref D0, rfl, D0, rfl, ⟨_, hs⟩, fun D hD => ?_⟩
  refine ⟨fun i m H' => i + m = ws.length ∧ Same H H' ∧ H' D = some (.lst (vS (stepL ok sz (ws.take i)))), ⟨ws.length, by omega, same_upd hD, upd_same⟩, ?_⟩
  rintro i m H1 ⟨him, sm, hd⟩
  have hs1 : SqL K H1 D0 (vS ws) := sm.seq hs
  by_cases hi : i < ws.length
  · obtain ⟨wd, hwd⟩ : ∃ wd, ws[i]? = some wd := ⟨_, List.getElem?_eq_getElem hi⟩
    have hmem : wd ∈ ws := List.mem_of_getElem? hwd
    have hx : (vS ws)[i]? = some (V.str (S wd)) := by rw [vS_get, hwd] <;> rfl
    refine .inr ⟨⟨_, _, hs1, hx⟩, fun H' => Same H H' ∧ H' D = some (.lst (vS (stepL ok sz (ws.take (i + 1))))), fun H' ⟨a, b⟩ => ⟨m - 1, by omega, by omega, a, b⟩, ?_⟩
    rintro x H2 ⟨rfl, hy⟩
    have ex : x = V.str (S wd) := Option.some.inj ((hy _ hs1).symm.trans hx)
    subst ex
    refine ⟨rfl, .int sz, rfl, sz, rfl, ABC, rfl, line_abc, S (letters sz), by rw [abc_cut h6], ?_⟩
    have hls := letters_len h6
    refine ⟨fun j k H' => j + k = sz ∧ Same H H' ∧ H' D = some (.lst (vS (stepL ok sz (ws.take i) ++ (((letters sz).take j).map fun c => wd ++ [c]).filter ok))), ⟨sz, by omega, sm, by rw [hd]; simp⟩, ?_⟩
    rintro j k H3 ⟨hjk, sm3, hd3⟩
    have hsize : (S (letters sz)).cps.size = sz := (S_len (letters sz)).trans hls
    by_cases hj : j < sz
    · refine .inr ⟨by show j < (S (letters sz)).cps.size; omega, fun H' => Same H H' ∧ H' D = some (.lst (vS (stepL ok sz (ws.take i) ++ (((letters sz).take (j + 1)).map fun c => wd ++ [c]).filter ok))), fun H' ⟨a, b⟩ => ⟨k - 1, by omega, by omega, a, b⟩, ?_⟩
      rintro x H4 ⟨rfl, c, hc, rfl⟩
      have hc2 : (letters sz)[j]? = some c := by
        have h2 : (S (letters sz)).cps.toList[j]? = some c := by rw [Array.getElem?_toList]; exact hc
        rw [S_list] at h2
        exact h2
      have hcm : c ∈ letters sz := List.mem_of_getElem? hc2
      have et : (((letters sz).take (j + 1)).map fun c => wd ++ [c]).filter ok = (((letters sz).take j).map fun c => wd ++ [c]).filter ok ++ (if ok (wd ++ [c]) = true then [wd ++ [c]] else []) := by
        rw [take_more hc2, List.map_append, List.filter_append]
        congr 1
        by_cases hq : ok (wd ++ [c]) = true
        · rw [if_pos hq]
          exact List.filter_cons_of_pos hq
        · rw [if_neg hq]
          exact List.filter_cons_of_neg hq
      refine ⟨rfl, ht wd c H4 _ hmem hcm sm3 fun H5 s5 => ?_⟩
      have hd5 : H5 D = some (.lst (vS (stepL ok sz (ws.take i) ++ (((letters sz).take j).map fun c => wd ++ [c]).filter ok))) := s5 _ _ hd3
      by_cases hok : ok (wd ++ [c]) = true
      · rw [hok]
        refine iteT ?_
        have hwl := hw wd hmem
        refine ⟨.str (S wd), rfl, .str (S [c]), rfl, S wd, S [c], rfl, rfl, by rw [S_len, S_len]; show wd.length + 1 ≤ _; omega, _, hd5, ?_, ?_, ?_⟩
        · rw [vS_len, List.length_append]
          have h1 := stepL_len ok h6 (ws.take i)
          have h2 : ((((letters sz).take j).map fun c => wd ++ [c]).filter ok).length ≤ j := by
            refine Nat.le_trans (List.length_filter_le ..) ?_
            rw [List.length_map, List.length_take]
            omega
          have h3 : (ws.take i).length = i := by rw [List.length_take]; omega
          rw [h3] at h1
          have h4 : i * sz ≤ i * 6 := Nat.mul_le_mul_left i h6
          omega
        · intro b o e
          rw [upd_ne (ne_of_none e hD)]
          exact s5 _ _ (sm3 _ _ e)
        · rw [upd_same, et, if_pos hok, S_app, ← List.append_assoc, vS_app _ [wd ++ [c]]]
          rfl
      · rw [show ok (wd ++ [c]) = false by simpa using hok]
        refine iteF ⟨fun b o e => s5 _ _ (sm3 _ _ e), ?_⟩
        rw [hd5, et, if_neg hok, List.append_nil]
    · have ej : j = sz := by omega
      subst ej
      refine .inl ⟨by show (S (letters j)).cps.size ≤ j; omega, sm3, ?_⟩
      rw [hd3, take_more hwd, stepL_app, List.take_of_length_le (Nat.le_of_eq hls)]
      simp [stepL]
  · have ei : ws.take i = ws := List.take_of_length_le (by omega)
    rw [ei] at hd
    exact .inl ⟨⟨_, hs1, by rw [vS_len]; omega⟩, q H1 D sm hD hd⟩
theorem rich_words_len (ok : List Nat → Bool) (sz : Nat) : ∀ {k : Nat} {ws : List (List Nat)}, (∀ w ∈ ws, w.length = k) → ∀ w ∈ stepL ok sz ws, w.length = k + 1 := by
  intro k ws h w hw
  obtain ⟨v, hv, hm⟩ := List.mem_flatMap.mp hw
  obtain ⟨c, _, rfl⟩ := List.mem_map.mp (List.mem_filter.mp hm).1
  simp [h v hv]
theorem step_Wd {ok : List Nat → Bool} {sz : Nat} {ws : List (List Nat)} (h : ∀ w ∈ ws, w.length ≤ 100 ∧ ∀ c ∈ w, 97 ≤ c ∧ c ≤ 122) {w : List Nat} {c : Nat} (hw : w ∈ ws) (hc : c ∈ letters sz) : Wd (w ++ [c]) := by
  obtain ⟨h1, h2⟩ := h w hw
  refine ⟨by simp; omega, fun d hd => ?_⟩
  rcases List.mem_append.mp hd with hd | hd
  · exact h2 d hd
  · rw [List.mem_singleton.mp hd]
    exact letters_mem hc
/-- the words of k letters that grow by ok -/
def growL (ok : List Nat → Bool) (sz : Nat) : Nat → List (List Nat)
  | 0 => [[]]
  | k + 1 => stepL ok sz (growL ok sz k)
theorem rich_grow (sz : Nat) : ∀ k, growL newM sz k = richL sz k
  | 0 => rfl
  | k + 1 => by
    show stepL newM sz _ = stepL newM sz _
    rw [rich_grow sz k]
theorem free_grow (sz least : Nat) : ∀ k, growL (endsPlain least) sz k = freeL sz least k
  | 0 => rfl
  | k + 1 => by
    show stepL _ sz _ = stepL _ sz _
    rw [free_grow sz least k]
theorem grow_len (ok : List Nat → Bool) {sz : Nat} (h : sz ≤ 6) : ∀ k, (growL ok sz k).length ≤ sz ^ k
  | 0 => Nat.le_refl _
  | k + 1 => by
    refine Nat.le_trans (stepL_len ok h _) ?_
    rw [Nat.pow_succ]
    exact Nat.mul_le_mul_right sz (grow_len ok h k)
theorem grow_words (ok : List Nat → Bool) (sz : Nat) : ∀ k, ∀ w ∈ growL ok sz k, w.length = k ∧ ∀ c ∈ w, 97 ≤ c ∧ c ≤ 122
  | 0, w, h => by
    rw [List.mem_singleton.mp h]
    exact ⟨rfl, fun c hc => absurd hc (by simp)⟩
  | k + 1, w, h => by
    obtain ⟨v, hv, hm⟩ := List.mem_flatMap.mp (show w ∈ (growL ok sz k).flatMap _ from h)
    obtain ⟨c, hc, rfl⟩ := List.mem_map.mp (List.mem_filter.mp hm).1
    obtain ⟨h1, h2⟩ := grow_words ok sz k v hv
    refine ⟨by simp [h1], fun d hd => ?_⟩
    rcases List.mem_append.mp hd with hd | hd
    · exact h2 d hd
    · rw [List.mem_singleton.mp hd]
      exact letters_mem hc
theorem pow_mono {sz : Nat} (h : 1 ≤ sz) {i n : Nat} (hi : i ≤ n) : sz ^ i ≤ sz ^ n := Nat.pow_le_pow_right h hi
section
variable {P : Program} {w : World} {K : PySem.W.Frag} {mg : Str → Option Value} {base : Heap}
/-- slot 2 stays empty: the slots are those of mirror_free -/
theorem sc20 : FnScope ["size", "length", "$none", "words", "turn", "word", "sign"] ["size", "length"] (defScope (top 20)) := ⟨rfl, rfl, rfl, by decide +kernel, rfl, by decide +kernel, by decide +kernel⟩
def spRich : Sp := fun vs H Q _ => ∃ (sz n : Nat), vs = [.int (sz : Int), .int (n : Int)] ∧ 1 ≤ sz ∧ sz ≤ 6 ∧ n ≤ 40 ∧ sz ^ n ≤ 2000 ∧ ∀ H' D, Same H H' → H D = none → H' D = some (.lst (vS (richL sz n))) → Q (.ref D) H'
theorem ok_rich {f fS f0 f9 fM : Addr} {fd fdS fd0 fd9 fdM : FuncData} (F : FnP K "rich_words" 20 f fd) (FS : FnP K "need_size" 13 fS fdS) (F0 : FnP K "is_in" 10 f0 fd0) (F9 : FnP K "is_int" 9 f9 fd9) (FM : FnP K "new_mirror" 19 fM fdM)
    (gS : mg "need_size" = some (.ref fS)) (g0 : mg "is_in" = some (.ref f0)) (g9 : mg "is_int" = some (.ref f9)) (gM : mg "new_mirror" = some (.ref fM)) (G : Glob mg) : FnOk P w K mg base CX0 4 f fd ["size", "length"] spRich := by
  have GS : FnOk P w K mg base CX0 3 fS fdS ["value"] spNeedSize := ok_need_size FS F0 F9 g0 g9 G
  have bS : Binds K fdS ["value"] [] := FS.bindsN fun _ _ _ _ _ _ us hl => match us, hl with | [_], _ => rfl
  have G0 : FnOk P w K mg base CX0 2 f0 fd0 ["value", "least", "most"] spIsIn := ok_is_in F0 F9 g9 G
  have b0 : Binds K fd0 ["value", "least", "most"] [] := F0.bindsN fun _ _ _ _ _ _ us hl => match us, hl with | [_, _, _], _ => rfl
  have GM : FnOk P w K mg base CX0 1 fM fdM ["word"] spNewM := ok_new_mirror FM
  have bM : Binds K fdM ["word"] [] := FM.bindsN fun _ _ _ _ _ _ us hl => match us, hl with | [_], _ => rfl
  obtain ⟨tL, gL⟩ := G.letters
  obtain ⟨tT, gT⟩ := G.steps
  obtain ⟨tK, gK⟩ := G.listed
  refine F.ok sc20 (fun vs H Q E h => ?_) (fun cdv A outer s H vs Q E hr h => ?_)
  · obtain ⟨sz, n, rfl, _⟩ := h
    rfl
  · obtain ⟨sz, n, rfl, h1, h6, h40, hp, q⟩ := h
    refine ⟨_, PSs.nox (pss_cons (ps_expr (pe_call GS hr (by rfl) gS FS.kp bS .nil pass0 (pa_cons (pv 0) pa_nil)))
      (pss_cons (ps_if (pt_not (pt_val (pe_call G0 (hr.mono (by decide)) (by rfl) g0 F0.kp b0 .nil pass0 (pa_cons (pv 1) (pa_cons pe_int (pa_cons (pe_glob (v := .int 40) (by rfl) gT ⟨_, rfl⟩) pa_nil)))))) (pss_one ps_never) pss_nil)
      (pss_cons (ps_set (i := 3) sc20.nd rfl (.inl rfl) (pe_lst (pa_cons pe_str pa_nil)))
      (pss_cons (ps_for PassesOwn.never rfl (pi_range1 (by rfl) G.range (pa_cons (pv 1) pa_nil)) (pg_name (i := 4) sc20.nd rfl (.inl rfl))
        (pss_cons (ps_setLc2 (i := 3) (own := [("word", 5), ("sign", 6)]) (vs1 := [6]) (g := gName 5) (g1 := gName 6) (tt := tYes) (by rfl) sc20.nd rfl rfl (sw_true rfl rfl rfl (by decide +kernel)) (pi_list (pv 3))
            (blkOk_by (own := [("word", 5), ("sign", 6)]) (N := ["size", "length", "$none", "words", "turn", "word", "sign"]) (sc := defScope (top 20)) (by decide +kernel)) (by decide)
            (fun _ _ _ _ _ => pg_name (i := 5) sc20.nd rfl (Or.inl rfl)) (fun _ _ _ _ _ => pts_nil)
            (fun _ _ _ _ _ => pi_str (pe_slice sl_str (pe_glob (v := .str ABC) (by rfl) gL ⟨_, rfl⟩) po_none (po_some (pv 0))))
            (fun _ _ _ _ _ => pg_name (i := 6) sc20.nd rfl (Or.inl rfl))
            (fun _ _ _ _ _ => pts_one (pt_val (pe_call GM (hr.mono (by decide)) (by rfl) gM FM.kp bM .nil pass0 (pa_cons (pe_op op_add_str (pv 5) (pv 6)) pa_nil))))
            (fun _ _ _ _ _ => pe_op op_add_str (pv 5) (pv 6)))
        (pss_one (ps_if (pt_cmpR op_gt (pe_callB call_len_seq (by rfl) G.len PySem.boot_len (pa_cons (pv 3) pa_nil)) (pe_glob (v := .int 2000) (by rfl) gK ⟨_, rfl⟩) (nomark _)) (pss_one ps_never) pss_nil))))
      (pss_one (ps_ret (pv 3))))))), ?_⟩
    refine ⟨.int sz, rfl, sz, rfl, by omega, by omega, ?_⟩
    refine ⟨.int n, rfl, n, 0, 40, rfl, by omega, by omega, true, rfl, iteF ?_⟩
    refine ⟨by show 1 ≤ sizeLine; rw [sizeLine_eq]; decide, fun D0 hD0 => ?_⟩
    refine ⟨.int n, rfl, n, rfl, by omega, by omega, ?_⟩
    refine for_it (walk_range (lo := 0) (n := (n : Int).toNat)) (fun i σ H' => Same H H' ∧ ∃ D y4 y5 y6, H D = none ∧ H' D = some (.lst (vS (growL newM sz i))) ∧ σ = [some (.int sz), some (.int n), none, some (.ref D), y4, y5, y6])
      ⟨same_upd hD0, D0, none, none, none, hD0, by rw [upd_same] <;> rfl, rfl⟩ (fun _ _ _ _ _ => True.intro) (fun i x σ H1 H2 hi hP hY => ?_) (fun σ H' hP => ?_)
    · obtain ⟨e, rfl⟩ := hY
      subst e
      obtain ⟨sm, D, y4, y5, y6, hD, hd, rfl⟩ := hP
      have hi : i < n := by omega
      have hgl := grow_len newM h6 i
      have hpi : sz ^ i ≤ 2000 := Nat.le_trans (pow_mono h1 (Nat.le_of_lt hi)) hp
      have hgw := grow_words newM sz i
      have line : 2000 * 6 < sizeLine := by rw [sizeLine_eq]; decide
      show tAsg (tLc2 (iList K (tVar 3)) (gName 5) tYes (iStr (tSl rSlS (tC (.str ABC)) tNoPart (tPart (tVar 0)))) (gName 6) (tB (tCall spNewM [] E0 (tCons (tOp rCatS (tVar 5) (tVar 6)) tNil))) (tOp rCatS (tVar 5) (tVar 6)) [5, 6] [6]) (gName 3) _ [some (.int sz), some (.int n), none, some (.ref D), some (.int (0 + (i : Nat))), y5, y6] H2
      unfold tAsg
      refine step_lc (K := K) (ok := newM) h6 (.inl (.inl hd)) (by have : (growL newM sz i).length * 6 ≤ 2000 * 6 := Nat.mul_le_mul_right 6 (by omega); omega) (fun w hw => by rw [(hgw w hw).1]; omega) (fun w c H' Fn hw hc sm' hF => ?_) (fun H' D' sm' hD' hd' => ?_)
      · have hwd : Wd (w ++ [c]) := step_Wd (ok := newM) (fun w hw => ⟨by rw [(hgw w hw).1]; omega, (hgw w hw).2⟩) hw hc
        refine ⟨.str (S w), rfl, .str (S [c]), rfl, S w, S [c], rfl, rfl, ?_, w ++ [c], by rw [S_app] <;> rfl, hwd, by simp, _, rfl, hF H' (Same.refl _)⟩
        have h2 := hwd.line
        rw [List.length_append] at h2
        rw [S_len, S_len]
        exact h2
      · have hg2 := grow_len newM h6 (i + 1)
        have hp2 : sz ^ (i + 1) ≤ 2000 := Nat.le_trans (pow_mono h1 hi) hp
        refine ⟨.ref D', rfl, D', _, rfl, .inl (.inl (.inl hd')), _, 2000, rfl, rfl, _, rfl, ?_⟩
        rw [vS_len, show decide ((2000 : Int) < ((stepL newM sz (growL newM sz i)).length : Int)) = false from decide_eq_false (by
          have e : (growL newM sz (i + 1)).length = (stepL newM sz (growL newM sz i)).length := rfl
          omega)]
        exact iteF ⟨sm.trans sm', D', _, _, _, Same.free sm hD', hd', rfl⟩
    · obtain ⟨sm, D, y4, y5, y6, hD, hd, rfl⟩ := hP
      refine ⟨.ref D, rfl, q H' D sm hD ?_⟩
      rw [hd, show (n : Int).toNat = n by omega, rich_grow]
theorem sc22 : FnScope ["size", "length", "least", "words", "turn", "word", "sign"] ["size", "length", "least"] (defScope (top 22)) := ⟨rfl, rfl, rfl, by decide +kernel, rfl, by decide +kernel, by decide +kernel⟩
def spFree : Sp := fun vs H Q _ => ∃ (sz n least : Nat), vs = [.int (sz : Int), .int (n : Int), .int (least : Int)] ∧ 1 ≤ sz ∧ sz ≤ 6 ∧ n ≤ 40 ∧ 2 ≤ least ∧ least ≤ 40 ∧ sz ^ n ≤ 2000 ∧ ∀ H' D, Same H H' → H D = none → H' D = some (.lst (vS (freeL sz least n))) → Q (.ref D) H'
theorem ok_free {f fS f0 f9 fE : Addr} {fd fdS fd0 fd9 fdE : FuncData} (F : FnP K "mirror_free" 22 f fd) (FS : FnP K "need_size" 13 fS fdS) (F0 : FnP K "is_in" 10 f0 fd0) (F9 : FnP K "is_int" 9 f9 fd9) (FE : FnP K "ends_plain" 23 fE fdE)
    (gS : mg "need_size" = some (.ref fS)) (g0 : mg "is_in" = some (.ref f0)) (g9 : mg "is_int" = some (.ref f9)) (gE : mg "ends_plain" = some (.ref fE)) (G : Glob mg) : FnOk P w K mg base CX0 4 f fd ["size", "length", "least"] spFree := by
  have GS : FnOk P w K mg base CX0 3 fS fdS ["value"] spNeedSize := ok_need_size FS F0 F9 g0 g9 G
  have bS : Binds K fdS ["value"] [] := FS.bindsN fun _ _ _ _ _ _ us hl => match us, hl with | [_], _ => rfl
  have G0 : FnOk P w K mg base CX0 2 f0 fd0 ["value", "least", "most"] spIsIn := ok_is_in F0 F9 g9 G
  have b0 : Binds K fd0 ["value", "least", "most"] [] := F0.bindsN fun _ _ _ _ _ _ us hl => match us, hl with | [_, _, _], _ => rfl
  have GE : FnOk P w K mg base CX0 1 fE fdE ["word", "least"] spEnds := ok_ends_plain FE G
  have bE : Binds K fdE ["word", "least"] [] := FE.bindsN fun _ _ _ _ _ _ us hl => match us, hl with | [_, _], _ => rfl
  obtain ⟨tL, gL⟩ := G.letters
  obtain ⟨tT, gT⟩ := G.steps
  obtain ⟨tK, gK⟩ := G.listed
  refine F.ok sc22 (fun vs H Q E h => ?_) (fun cdv A outer s H vs Q E hr h => ?_)
  · obtain ⟨sz, n, least, rfl, _⟩ := h
    rfl
  · obtain ⟨sz, n, least, rfl, h1, h6, h40, l2, l40, hp, q⟩ := h
    refine ⟨_, PSs.nox (pss_cons (ps_expr (pe_call GS hr (by rfl) gS FS.kp bS .nil pass0 (pa_cons (pv 0) pa_nil)))
      (pss_cons (ps_if (PW.pt (pw_or (pt_not (pt_val (pe_call G0 (hr.mono (by decide)) (by rfl) g0 F0.kp b0 .nil pass0 (pa_cons (pv 1) (pa_cons pe_int (pa_cons (pe_glob (v := .int 40) (by rfl) gT ⟨_, rfl⟩) pa_nil)))))) (pw_or1 (pt_not (pt_val (pe_call G0 (hr.mono (by decide)) (by rfl) g0 F0.kp b0 .nil pass0 (pa_cons (pv 2) (pa_cons pe_int (pa_cons (pe_glob (v := .int 40) (by rfl) gT ⟨_, rfl⟩) pa_nil))))))))) (pss_one ps_never) pss_nil)
      (pss_cons (ps_set (i := 3) sc22.nd rfl (.inl rfl) (pe_lst (pa_cons pe_str pa_nil)))
      (pss_cons (ps_for PassesOwn.never rfl (pi_range1 (by rfl) G.range (pa_cons (pv 1) pa_nil)) (pg_name (i := 4) sc22.nd rfl (.inl rfl))
        (pss_cons (ps_setLc2 (i := 3) (own := [("word", 5), ("sign", 6)]) (vs1 := [6]) (g := gName 5) (g1 := gName 6) (tt := tYes) (by rfl) sc22.nd rfl rfl (sw_true rfl rfl rfl (by decide +kernel)) (pi_list (pv 3))
            (blkOk_by (own := [("word", 5), ("sign", 6)]) (N := ["size", "length", "least", "words", "turn", "word", "sign"]) (sc := defScope (top 22)) (by decide +kernel)) (by decide)
            (fun _ _ _ _ _ => pg_name (i := 5) sc22.nd rfl (Or.inl rfl)) (fun _ _ _ _ _ => pts_nil)
            (fun _ _ _ _ _ => pi_str (pe_slice sl_str (pe_glob (v := .str ABC) (by rfl) gL ⟨_, rfl⟩) po_none (po_some (pv 0))))
            (fun _ _ _ _ _ => pg_name (i := 6) sc22.nd rfl (Or.inl rfl))
            (fun _ _ _ _ _ => pts_one (pt_val (pe_call GE (hr.mono (by decide)) (by rfl) gE FE.kp bE .nil pass0 (pa_cons (pe_op op_add_str (pv 5) (pv 6)) (pa_cons (pv 2) pa_nil)))))
            (fun _ _ _ _ _ => pe_op op_add_str (pv 5) (pv 6)))
        (pss_one (ps_if (pt_cmpR op_gt (pe_callB call_len_seq (by rfl) G.len PySem.boot_len (pa_cons (pv 3) pa_nil)) (pe_glob (v := .int 2000) (by rfl) gK ⟨_, rfl⟩) (nomark _)) (pss_one ps_never) pss_nil))))
      (pss_one (ps_ret (pv 3))))))), ?_⟩
    refine ⟨.int sz, rfl, sz, rfl, by omega, by omega, ?_⟩
    refine ⟨.int n, rfl, n, 0, 40, rfl, by omega, by omega, true, rfl, ?_⟩
    refine iteF ⟨.int least, rfl, least, 2, 40, rfl, by omega, by omega, true, rfl, ?_⟩
    refine iteF ?_
    refine ⟨by show 1 ≤ sizeLine; rw [sizeLine_eq]; decide, fun D0 hD0 => ?_⟩
    refine ⟨.int n, rfl, n, rfl, by omega, by omega, ?_⟩
    refine for_it (walk_range (lo := 0) (n := (n : Int).toNat)) (fun i σ H' => Same H H' ∧ ∃ D y4 y5 y6, H D = none ∧ H' D = some (.lst (vS (growL (endsPlain least) sz i))) ∧ σ = [some (.int sz), some (.int n), some (.int least), some (.ref D), y4, y5, y6])
      ⟨same_upd hD0, D0, none, none, none, hD0, by rw [upd_same] <;> rfl, rfl⟩ (fun _ _ _ _ _ => True.intro) (fun i x σ H1 H2 hi hP hY => ?_) (fun σ H' hP => ?_)
    · obtain ⟨e, rfl⟩ := hY
      subst e
      obtain ⟨sm, D, y4, y5, y6, hD, hd, rfl⟩ := hP
      have hi : i < n := by omega
      have hgl := grow_len (endsPlain least) h6 i
      have hpi : sz ^ i ≤ 2000 := Nat.le_trans (pow_mono h1 (Nat.le_of_lt hi)) hp
      have hgw := grow_words (endsPlain least) sz i
      have line : 2000 * 6 < sizeLine := by rw [sizeLine_eq]; decide
      show tAsg (tLc2 (iList K (tVar 3)) (gName 5) tYes (iStr (tSl rSlS (tC (.str ABC)) tNoPart (tPart (tVar 0)))) (gName 6) (tB (tCall spEnds [] E0 (tCons (tOp rCatS (tVar 5) (tVar 6)) (tCons (tVar 2) tNil)))) (tOp rCatS (tVar 5) (tVar 6)) [5, 6] [6]) (gName 3) _ [some (.int sz), some (.int n), some (.int least), some (.ref D), some (.int (0 + (i : Nat))), y5, y6] H2
      unfold tAsg
      refine step_lc (K := K) (ok := endsPlain least) h6 (.inl (.inl hd)) (by have : (growL (endsPlain least) sz i).length * 6 ≤ 2000 * 6 := Nat.mul_le_mul_right 6 (by omega); omega) (fun w hw => by rw [(hgw w hw).1]; omega) (fun w c H' Fn hw hc sm' hF => ?_) (fun H' D' sm' hD' hd' => ?_)
      · have hwd : Wd (w ++ [c]) := step_Wd (ok := endsPlain least) (fun w hw => ⟨by rw [(hgw w hw).1]; omega, (hgw w hw).2⟩) hw hc
        refine ⟨.str (S w), rfl, .str (S [c]), rfl, S w, S [c], rfl, rfl, ?_, .int least, rfl, w ++ [c], least, by rw [S_app] <;> rfl, hwd, fun H'' s'' => ⟨_, rfl, hF H'' s''⟩⟩
        have h2 := hwd.line
        rw [List.length_append] at h2
        rw [S_len, S_len]
        exact h2
      · have hg2 := grow_len (endsPlain least) h6 (i + 1)
        have hp2 : sz ^ (i + 1) ≤ 2000 := Nat.le_trans (pow_mono h1 hi) hp
        refine ⟨.ref D', rfl, D', _, rfl, .inl (.inl (.inl hd')), _, 2000, rfl, rfl, _, rfl, ?_⟩
        rw [vS_len, show decide ((2000 : Int) < ((stepL (endsPlain least) sz (growL (endsPlain least) sz i)).length : Int)) = false from decide_eq_false (by
          have e : (growL (endsPlain least) sz (i + 1)).length = (stepL (endsPlain least) sz (growL (endsPlain least) sz i)).length := rfl
          omega)]
        exact iteF ⟨sm.trans sm', D', _, _, _, Same.free sm hD', hd', rfl⟩
    · obtain ⟨sm, D, y4, y5, y6, hD, hd, rfl⟩ := hP
      refine ⟨.ref D, rfl, q H' D sm hD ?_⟩
      rw [hd, show (n : Int).toNat = n by omega, free_grow]
end
end Aw
/-! distinct_mirrors, defect. -/
namespace Aw
open PySem PySem.Spec PyProof.Rows L2 LamX
def kk (ks : List (List Nat)) : List (Key × V) := ks.map fun k => (Sum.inr (S k), V.bl true)
theorem kk_put (ks : List (List Nat)) (p : List Nat) : putK (kk ks) (Sum.inr (S p)) (V.bl true) = kk (insK ks p) := by
  unfold putK insK
  have ha : ((kk ks).any fun kv => decide (kv.1 = (Sum.inr (S p) : Key))) = true ↔ p ∈ ks := by
    rw [List.any_eq_true]
    constructor
    · rintro ⟨kv, h1, h2⟩
      obtain ⟨k, hk, rfl⟩ := List.mem_map.mp h1
      have e : (Sum.inr (S k) : Key) = Sum.inr (S p) := of_decide_eq_true h2
      have e2 : S k = S p := Sum.inr.inj e
      rw [← S_inj.mp e2]
      exact hk
    · intro h
      exact ⟨_, List.mem_map.mpr ⟨p, h, rfl⟩, decide_eq_true rfl⟩
  by_cases h : p ∈ ks
  · rw [if_pos (ha.mpr h), if_pos h]
    unfold kk
    rw [List.map_map]
    refine List.map_congr_left fun k _ => ?_
    show (if (Sum.inr (S k) : Key) = Sum.inr (S p) then ((Sum.inr (S k) : Key), V.bl true) else ((Sum.inr (S k) : Key), V.bl true)) = _
    split <;> rfl
  · rw [if_neg (fun q => h (ha.mp q)), if_neg h]
    unfold kk
    rw [List.map_append]
    rfl
theorem kk_len (ks : List (List Nat)) : (kk ks).length = ks.length := List.length_map _
theorem kk_keys (ks : List (List Nat)) : (kk ks).map (·.1) = (ks.map S).map Sum.inr := by
  unfold kk
  rw [List.map_map, List.map_map]
  rfl
theorem ins_len (ks : List (List Nat)) (p : List Nat) : (insK ks p).length ≤ ks.length + 1 := by
  unfold insK
  split
  · exact Nat.le_succ _
  · simp
theorem mirE_len (l : List Nat) (b : Nat) (ks : List (List Nat)) : ∀ m, (mirE l b ks m).length ≤ ks.length + m
  | 0 => Nat.le_refl _
  | m + 1 => by
    have ih := mirE_len l b ks m
    show (if pal (seg l b (b + 1 + m)) = true then insK (mirE l b ks m) (seg l b (b + 1 + m)) else mirE l b ks m).length ≤ _
    split
    · have := ins_len (mirE l b ks m) (seg l b (b + 1 + m))
      omega
    · omega
theorem mirB_len (l : List Nat) : ∀ b, (mirB l b).length ≤ b * l.length
  | 0 => Nat.zero_le _
  | b + 1 => by
    have ih := mirB_len l b
    have h := mirE_len l b (mirB l b) (l.length - b)
    show (mirE l b (mirB l b) (l.length - b)).length ≤ _
    rw [Nat.succ_mul]
    omega
theorem ins_short {ks : List (List Nat)} {p : List Nat} {n : Nat} (h : ∀ k ∈ ks, k.length ≤ n) (hp : p.length ≤ n) : ∀ k ∈ insK ks p, k.length ≤ n := by
  unfold insK
  split
  · exact h
  · intro k hk
    rcases List.mem_append.mp hk with hk | hk
    · exact h k hk
    · rw [List.mem_singleton.mp hk]
      exact hp
theorem mirE_short (l : List Nat) (b : Nat) {ks : List (List Nat)} (h : ∀ k ∈ ks, k.length ≤ l.length) : ∀ m, ∀ k ∈ mirE l b ks m, k.length ≤ l.length
  | 0 => h
  | m + 1 => by
    show ∀ k ∈ (if pal (seg l b (b + 1 + m)) = true then insK (mirE l b ks m) (seg l b (b + 1 + m)) else mirE l b ks m), _
    split
    · exact ins_short (mirE_short l b h m) (by rw [seg_len]; omega)
    · exact mirE_short l b h m
theorem mirB_short (l : List Nat) : ∀ b, ∀ k ∈ mirB l b, k.length ≤ l.length
  | 0 => fun k hk => absurd hk (by simp [mirB])
  | b + 1 => mirE_short l b (mirB_short l b) _
abbrev qualD : Str := "distinct_mirrors" ++ ".<locals>." ++ "<lambda>"
/-- one table, at P -/
abbrev TT1 (P : Addr) : List (Addr × Str) := [(P, qualD)]
section
variable {P : Program} {w : World} {K : PySem.W.Frag} {mg : Str → Option Value} {base : Heap} {Pt : Addr}
theorem sc17 : FnScope ["word", "found", "begin", "end", "part"] ["word"] (defScope (top 17)) := ⟨rfl, rfl, rfl, by decide +kernel, rfl, by decide +kernel, by decide +kernel⟩
def spDist (Pt : Addr) : Sp := fun vs H Q _ => ∃ l, vs = [.str (S l)] ∧ Wd l ∧ l.length ≤ 40 ∧ Tabs (TT1 Pt) H ∧ ∀ H' p ys, ExtN H H' → Tabs (TT1 Pt) H' → H' p = some (.lst ys) → ys.length = (mirK l).length → Q (.ref p) H'
theorem ok_dist {f : Addr} {fd : FuncData} (F : FnP K "distinct_mirrors" 17 f fd) (G : Glob mg) (TB : ∀ (c : Addr), fd.code = .ref c → TabB base mg c Pt) : FnOk P w K mg base CX0 2 f fd ["word"] (spDist Pt) := by
  obtain ⟨oc, od, dV, kV, doc, pm, an, cdv, ct, osl, rfl, lk, hcd, _, _⟩ := F.ex
  obtain ⟨c, rfl⟩ := He.codeIn_ref hcd
  have TBc := TB c rfl
  refine fn_of lk hcd sc17 (fun vs H Q E h => ?_) (fun A outer s H vs Q E hr h => ?_)
  · obtain ⟨l, rfl, _⟩ := h
    rfl
  · obtain ⟨l, rfl, hw, h40, hT, q⟩ := h
    have hl : (S l).length ≤ sizeLine := by rw [S_len]; exact hw.line
    refine ⟨_, PSs.nox (pss_cons (ps_set (i := 1) sc17.nd rfl (.inl rfl) pe_dnewK)
      (pss_cons (ps_for PassesOwn.never rfl (pi_range1 (by rfl) G.range (pa_cons (pe_callB call_len_str (by rfl) G.len PySem.boot_len (pa_cons (pv 0) pa_nil)) pa_nil)) (pg_name (i := 2) sc17.nd rfl (.inl rfl))
        (pss_one (ps_for PassesOwn.never rfl (pi_range2 (by rfl) G.range (pa_cons (pe_op op_add (pv 2) pe_int) (pa_cons (pe_op op_add (pe_callB call_len_str (by rfl) G.len PySem.boot_len (pa_cons (pv 0) pa_nil)) pe_int) pa_nil))) (pg_name (i := 3) sc17.nd rfl (.inl rfl))
          (pss_cons (ps_set (i := 4) sc17.nd rfl (.inl rfl) (pe_slice sl_str (pv 0) (po_some (pv 2)) (po_some (pv 3))))
          (pss_one (ps_if (pt_cmpR op_eq (pv 4) (pe_revS (pv 4)) (nomark _)) (pss_one (ps_dput (hu_of hr) (pv 1) (pv 4) pe_bl rfl)) pss_nil))))))
      (pss_one (ps_ret (pe_sortK (T := TT1 Pt) (j := 0) rfl hr (by rfl) G.sorted G.len TBc rfl (by exact List.mem_singleton.mpr rfl) (fun p hp _ => by rw [List.mem_singleton.mp hp] <;> rfl) ⟨rfl, rfl, rfl, by decide +kernel, by decide +kernel, rfl, rfl⟩ rfl (fun _ _ _ _ _ => rfl) rfl (pv 1)))))), ?_⟩
    refine fun o ho => ?_
    have sm0 : Same H (upd H o (.dK [])) := same_upd ho
    -- for begin in range(len(word))
    refine ⟨.str (S l), rfl, S l, rfl, hl, (S l).length, rfl, by omega, by rw [S_len]; omega, ?_⟩
    rw [S_len]
    refine for_it (walk_range (lo := 0) (n := (l.length : Int).toNat)) (fun i σ H' => Same H H' ∧ H' o = some (.dK (kk (mirB l i))) ∧ ∃ y2 y3 y4, σ = [some (.str (S l)), some (.ref o), y2, y3, y4])
      ⟨sm0, upd_same, none, none, none, rfl⟩ (fun _ _ _ _ _ => True.intro) (fun i x σ H1 H2 hi hP hY => ?_) (fun σ H' hP => ?_)
    · obtain ⟨e, rfl⟩ := hY
      subst e
      obtain ⟨sm, hd, y2, y3, y4, rfl⟩ := hP
      have hi : i < l.length := by omega
      refine ⟨_, rfl, _, 1, rfl, rfl, .str (S l), rfl, S l, rfl, hl, (S l).length, 1, rfl, rfl, 0 + (i : Nat) + 1, (S l).length + 1, rfl, ⟨by omega, by omega, by rw [S_len]; omega, by rw [S_len]; omega⟩, ?_⟩
      rw [S_len, show ((l.length : Int) + 1 - (0 + ((i : Nat) : Int) + 1)).toNat = l.length - i by omega]
      refine for_it (walk_range (lo := 0 + ((i : Nat) : Int) + 1) (n := l.length - i)) (fun j σ H' => Same H H' ∧ H' o = some (.dK (kk (mirE l i (mirB l i) j))) ∧ ∃ y3 y4, σ = [some (.str (S l)), some (.ref o), some (.int (i : Nat)), y3, y4])
        ⟨sm, hd, y3, y4, by rw [show ((i : Nat) : Int) = 0 + ((i : Nat) : Int) by omega] <;> rfl⟩ (fun _ _ _ _ _ => True.intro) (fun j x σ H1 H2 hj hP hY => ?_) (fun σ H' hP => ?_)
      · obtain ⟨e, rfl⟩ := hY
        subst e
        obtain ⟨sm, hd, y3, y4, rfl⟩ := hP
        have ee : 0 + ((i : Nat) : Int) + 1 + ((j : Nat) : Int) = ((i + 1 + j : Nat) : Int) := by omega
        refine ⟨.str (S l), rfl, .int (i : Nat), rfl, (i : Nat), rfl, .int (0 + ((i : Nat) : Int) + 1 + ((j : Nat) : Int)), rfl, _, rfl, S l, rfl, hl, ?_⟩
        rw [ee, cut_seg]
        have hsl : (seg l i (i + 1 + j)).length ≤ sizeLine := Nat.le_trans (by rw [seg_len]; omega) hw.line
        refine ⟨.str (S (seg l i (i + 1 + j))), rfl, .str (S (seg l i (i + 1 + j))), rfl, seg l i (i + 1 + j), rfl, hsl, rfl, _, rfl, ?_⟩
        rw [dec_pal]
        by_cases hp : pal (seg l i (i + 1 + j)) = true
        · rw [hp]
          have em : mirE l i (mirB l i) (j + 1) = insK (mirE l i (mirB l i) j) (seg l i (i + 1 + j)) := if_pos hp
          have hlen : (kk (mirE l i (mirB l i) j)).length < sizeLine := by
            rw [kk_len]
            have h1 := mirE_len l i (mirB l i) j
            have h2 := mirB_len l i
            have h3 : i * l.length ≤ 40 * 40 := Nat.mul_le_mul (by omega) h40
            have := line2000
            omega
          refine iteT ⟨.ref o, rfl, .str (S (seg l i (i + 1 + j))), rfl, o, _, rfl, DPut.k (k := Sum.inr (S (seg l i (i + 1 + j)))) hd hlen, ?_⟩
          rw [kk_put, ← em]
          refine ⟨fun b x q => ?_, upd_same, _, _, rfl⟩
          rw [upd_ne (ne_of_none q ho)]
          exact sm b x q
        · rw [show pal (seg l i (i + 1 + j)) = false by simpa using hp]
          have em : mirE l i (mirB l i) (j + 1) = mirE l i (mirB l i) j := if_neg hp
          exact iteF ⟨sm, by rw [em]; exact hd, _, _, rfl⟩
      · obtain ⟨sm, hd, y3, y4, rfl⟩ := hP
        exact ⟨sm, hd, _, _, _, rfl⟩
    · obtain ⟨sm, hd, y2, y3, y4, rfl⟩ := hP
      have hd : H' o = some (.dK (kk (mirK l))) := by
        rw [hd, show (l.length : Int).toNat = l.length by omega] <;> rfl
      refine ⟨.ref o, rfl, o, kk (mirK l), (mirK l).map S, rfl, hd, kk_keys _, ?_, ?_, hT.ext sm, fun H2 eN T2 p ys hp hy => ?_⟩
      · rw [List.length_map]
        have h2 := mirB_len l l.length
        have h3 : l.length * l.length ≤ 40 * 40 := Nat.mul_le_mul h40 h40
        have h4 : (mirK l).length ≤ l.length * l.length := h2
        omega
      · intro k hk
        obtain ⟨m, hm, rfl⟩ := List.mem_map.mp hk
        rw [S_len]
        have := mirB_short l l.length m hm
        omega
      · refine q _ p ys (fun b u e n => ?_) (T2.ext (same_upd hp)) upd_same (by rw [hy, List.length_map])
        have e2 := eN b u (sm b u e) n
        rw [upd_ne (ne_of_none e2 hp)]
        exact e2
theorem sc18 : FnScope ["word"] ["word"] (defScope (top 18)) := ⟨rfl, rfl, rfl, by decide +kernel, rfl, by decide +kernel, by decide +kernel⟩
def spDefect (Pt : Addr) : Sp := fun vs H Q _ => ∃ l, vs = [.str (S l)] ∧ Wd l ∧ l.length ≤ 40 ∧ Tabs (TT1 Pt) H ∧ ∀ H', ExtN H H' → Tabs (TT1 Pt) H' → Q (.int ((l.length : Int) - ((mirK l).length : Int))) H'
theorem ok_defect {f fN fW fD : Addr} {fd fdN fdW fdD : FuncData} (F : FnP K "defect" 18 f fd) (FN : FnP K "need_word" 12 fN fdN) (FW : FunD K "is_word" "is_word" (defArgs (top 11)) (defBody (top 11)) (defScope (top 11)) [.int 200] [] fW fdW) (FD : FnP K "distinct_mirrors" 17 fD fdD)
    (gN : mg "need_word" = some (.ref fN)) (gW : mg "is_word" = some (.ref fW)) (gD : mg "distinct_mirrors" = some (.ref fD)) (G : Glob mg) (TB : ∀ (c : Addr), fdD.code = .ref c → TabB base mg c Pt) : FnOk P w K mg base CX0 3 f fd ["word"] (spDefect Pt) := by
  have GN : FnOk P w K mg base CX0 2 fN fdN ["value"] spNeedWord := ok_need_word FN FW gW G
  have bN : Binds K fdN ["value"] [] := FN.bindsN fun _ _ _ _ _ _ us hl => match us, hl with | [_], _ => rfl
  have GD : FnOk P w K mg base CX0 2 fD fdD ["word"] (spDist Pt) := ok_dist FD G TB
  have bD : Binds K fdD ["word"] [] := FD.bindsN fun _ _ _ _ _ _ us hl => match us, hl with | [_], _ => rfl
  refine F.ok sc18 (fun vs H Q E h => ?_) (fun cdv A outer s H vs Q E hr h => ?_)
  · obtain ⟨l, rfl, _⟩ := h
    rfl
  · obtain ⟨l, rfl, hw, h40, hT, q⟩ := h
    refine ⟨_, PSs.nox (pss_cons (ps_expr (pe_call GN hr (by rfl) gN FN.kp bN .nil pass0 (pa_cons (pv 0) pa_nil)))
      (pss_one (ps_ret (pe_op op_sub (pe_callB call_len_str (by rfl) G.len PySem.boot_len (pa_cons (pv 0) pa_nil)) (pe_callB call_len_seq (by rfl) G.len PySem.boot_len (pa_cons (pe_call GD hr (by rfl) gD FD.kp bD .nil pass0 (pa_cons (pv 0) pa_nil)) pa_nil)))))), ?_⟩
    refine ⟨.str (S l), rfl, l, rfl, hw, fun H1 sm => ?_⟩
    refine ⟨.str (S l), rfl, S l, rfl, by rw [S_len]; exact hw.line, .str (S l), rfl, l, rfl, hw, h40, hT.ext sm, fun H2 p ys eN T2 hp hy => ?_⟩
    refine ⟨p, ys, rfl, .inl (.inl (.inl hp)), _, _, rfl, rfl, ?_⟩
    rw [hy, S_len]
    exact q H2 ((ExtN.of sm).trans eN) T2
end
end Aw
/-! fewest_mirrors. -/
namespace Aw
open PySem PySem.Spec PyProof.Rows L2
section
variable {P : Program} {w : World} {K : PySem.W.Frag} {mg : Str → Option Value} {base : Heap}
theorem sc21 : FnScope ["word", "best", "end", "begin", "part", "told", "found", "at", "size", "sign"] ["word"] (defScope (top 21)) := ⟨rfl, rfl, rfl, by decide +kernel, rfl, by decide +kernel, by decide +kernel⟩
/-- what stands at a place of best -/
def Bst (K : PySem.W.Frag) (H : Hp) (x : V) : Option (List Int) → Prop
  | none => x = .non
  | some s => TupI K H x s
def Arr (K : PySem.W.Frag) (H : Hp) (n : Nat) (xs : List V) (f : Nat → Option (List Int)) : Prop := xs.length = n + 1 ∧ ∀ e, e ≤ n → ∃ x, xs[e]? = some x ∧ Bst K H x (f e)
theorem Bst.same {H H' : Hp} {x : V} {o : Option (List Int)} (h : Bst K H x o) (e : Same H H') : Bst K H' x o := by
  cases o with
  | none => exact h
  | some s => exact TupI.same h e
theorem Arr.same {H H' : Hp} {n : Nat} {xs : List V} {f : Nat → Option (List Int)} (h : Arr K H n xs f) (e : Same H H') : Arr K H' n xs f :=
  ⟨h.1, fun k hk => let ⟨x, h1, h2⟩ := h.2 k hk; ⟨x, h1, h2.same e⟩⟩
theorem seqT_upd {H : Hp} {a D : Addr} {xs ys : List V} {o : HO} (h : SqT K H a xs) (hD : H D = some (.lst ys)) : SqT K (upd H D o) a xs := by
  rcases h with (h | ⟨u, h⟩) | h
  · exact .inl (.inl (by rw [upd_ne (fun z => by rw [z, hD] at h; cases h)]; exact h))
  · exact .inl (.inr ⟨u, by rw [upd_ne (fun z => by rw [z, hD] at h; cases h)]; exact h⟩)
  · exact .inr h
theorem tupI_upd {H : Hp} {x : V} {D : Addr} {s : List Int} {ys : List V} {o : HO} (h : TupI K H x s) (hD : H D = some (.lst ys)) : TupI K (upd H D o) x s := by
  obtain ⟨t, e, h1⟩ := h
  exact ⟨t, e, seqT_upd h1 hD⟩
theorem bst_upd {H : Hp} {x : V} {D : Addr} {s : Option (List Int)} {ys : List V} {o : HO} (h : Bst K H x s) (hD : H D = some (.lst ys)) : Bst K (upd H D o) x s := by
  cases s with
  | none => exact h
  | some s => exact tupI_upd h hD
theorem Arr.put {H : Hp} {n e : Nat} {xs : List V} {f : Nat → Option (List Int)} {D : Addr} {x : V} {s : List Int} (h : Arr K H n xs f) (hD : H D = some (.lst xs)) (hx : TupI K H x s) (he : e ≤ n) :
    Arr K (upd H D (.lst (xs.set e x))) n (xs.set e x) fun k => if k = e then some s else f k := by
  refine ⟨by rw [List.length_set]; exact h.1, fun k hk => ?_⟩
  by_cases q : k = e
  · subst q
    refine ⟨x, List.getElem?_set_self (by have := h.1; omega), ?_⟩
    show Bst K _ x (if k = k then some s else f k)
    rw [if_pos rfl]
    exact tupI_upd hx hD
  · obtain ⟨y, h1, h2⟩ := h.2 k hk
    refine ⟨y, by rw [List.getElem?_set_ne (Ne.symm q)]; exact h1, ?_⟩
    show Bst K _ y (if k = e then some s else f k)
    rw [if_neg q]
    exact bst_upd h2 hD
theorem ixN_at {n j : Nat} (h : j < n) : ixN n (j : Int) = some j := by
  unfold ixN
  rw [if_pos (by omega), if_pos (by omega)]
  simp
theorem kl_is (s t : List Int) : (if ((s.length : Nat) : Int) = ((t.length : Nat) : Int) then lx s t else decide (((s.length : Nat) : Int) < ((t.length : Nat) : Int))) = kl s t := by
  unfold kl
  by_cases e : s.length = t.length
  · rw [if_pos e, if_pos (by omega)]
  · rw [if_neg e, if_neg (by omega)]
    by_cases q : s.length < t.length
    · rw [decide_eq_true q, decide_eq_true (by omega)]
    · rw [decide_eq_false q, decide_eq_false (by omega)]
/-- the ends up to i are told; at the next one all begins below j have been looked at -/
structure Best2 (l : List Nat) (i j : Nat) (f : Nat → Option (List Int)) : Prop where
  done : ∀ e, e ≤ i → ∃ s, f e = some s ∧ Best l s e
  here : Cand l (i + 1) j (f (i + 1))
  none : ∀ e, i + 1 < e → f e = .none
theorem best2_start (l : List Nat) : Best2 l 0 0 fun e => if e = 0 then some [] else .none :=
  ⟨fun e he => ⟨[], by rw [if_pos (by omega)], by rw [show e = 0 by omega]; exact best_zero l⟩, by rw [if_neg (by omega)]; exact cand_zero l 1, fun e he => if_neg (by omega)⟩
theorem best2_next {l : List Nat} {i : Nat} {f : Nat → Option (List Int)} (b : Best2 l i (i + 1) f) : Best2 l (i + 1) 0 f := by
  refine ⟨fun e he => ?_, by rw [b.none (i + 1 + 1) (by omega)]; exact cand_zero l _, fun e he => b.none e (by omega)⟩
  by_cases q : e = i + 1
  · subst q
    obtain ⟨s0, _, h0⟩ := b.done i (Nat.le_refl _)
    exact cand_best b.here (Nat.succ_pos i) h0.1
  · exact b.done e (by omega)
theorem best2_skip {l : List Nat} {i j : Nat} {f : Nat → Option (List Int)} (b : Best2 l i j f) (h : ¬ pal (seg l j (i + 1)) = true) : Best2 l i (j + 1) f :=
  ⟨b.done, cand_skip b.here h, b.none⟩
theorem best2_keep {l : List Nat} {i j : Nat} {f : Nat → Option (List Int)} {s s' : List Int} (b : Best2 l i j f) (hs : f (i + 1) = some s) (hb : Best l s' j) (h : kl (s' ++ [((i + 1 : Nat) : Int) - (j : Int)]) s = false) : Best2 l i (j + 1) f := by
  refine ⟨b.done, ?_, b.none⟩
  have c := b.here
  rw [hs] at c ⊢
  exact cand_keep c hb h
theorem best2_take {l : List Nat} {i j : Nat} {f : Nat → Option (List Int)} {s' : List Int} (b : Best2 l i j f) (hb : Best l s' j) (hj : j < i + 1) (hi : i + 1 ≤ l.length) (hp : pal (seg l j (i + 1)) = true)
    (h : ∀ s, f (i + 1) = some s → kl (s' ++ [((i + 1 : Nat) : Int) - (j : Int)]) s = true) : Best2 l i (j + 1) fun k => if k = i + 1 then some (s' ++ [((i + 1 : Nat) : Int) - (j : Int)]) else f k := by
  refine ⟨fun e he => ?_, ?_, fun e he => ?_⟩
  · rw [if_neg (by omega)]
    exact b.done e he
  · rw [if_pos rfl]
    exact cand_take b.here hb hj hi hp h
  · rw [if_neg (by omega)]
    exact b.none e he
def spFew : Sp := fun vs H Q _ => ∃ l, vs = [.str (S l)] ∧ Wd l ∧ ∀ H' p s, Same H H' → H' p = some (.tup (vS (pcs l 0 s))) → Best l s l.length → Q (.ref p) H'
theorem ok_few {f fN fW : Addr} {fd fdN fdW : FuncData} (F : FnP K "fewest_mirrors" 21 f fd) (FN : FnP K "need_word" 12 fN fdN) (FW : FunD K "is_word" "is_word" (defArgs (top 11)) (defBody (top 11)) (defScope (top 11)) [.int 200] [] fW fdW)
    (gN : mg "need_word" = some (.ref fN)) (gW : mg "is_word" = some (.ref fW)) (G : Glob mg) : FnOk P w K mg base CX0 3 f fd ["word"] spFew := by
  have GN : FnOk P w K mg base CX0 2 fN fdN ["value"] spNeedWord := ok_need_word FN FW gW G
  have bN : Binds K fdN ["value"] [] := FN.bindsN fun _ _ _ _ _ _ us hl => match us, hl with | [_], _ => rfl
  refine F.ok sc21 (fun vs H Q E h => ?_) (fun cdv A outer s H vs Q E hr h => ?_)
  · obtain ⟨l, rfl, _⟩ := h
    rfl
  · obtain ⟨l, rfl, hw, q⟩ := h
    have hl : (S l).length ≤ sizeLine := by rw [S_len]; exact hw.line
    have hn := hw.1
    have ln := line2000
    refine ⟨_, PSs.nox (pss_cons (ps_expr (pe_call GN hr (by rfl) gN FN.kp bN .nil pass0 (pa_cons (pv 0) pa_nil)))
      (pss_cons (ps_set (i := 1) sc21.nd rfl (.inl rfl) (pe_op op_cat (pe_lst (pa_cons (pe_tup pa_nil) pa_nil))
        (pe_lc (own := [("sign", 9)]) (g := gName 9) (by rfl) sc21.nd (pi_str (pv 0)) (blkOk_by (own := [("sign", 9)]) (N := ["word", "best", "end", "begin", "part", "told", "found", "at", "size", "sign"]) (sc := defScope (top 21)) (by decide +kernel))
          (fun _ _ _ _ _ => pg_name (i := 9) sc21.nd rfl (Or.inl rfl)) (fun _ _ _ _ _ => pts_nil) (fun _ _ _ _ _ => pe_non))))
      (pss_cons (ps_for PassesOwn.never rfl (pi_range2 (by rfl) G.range (pa_cons pe_int (pa_cons (pe_op op_add (pe_callB call_len_str (by rfl) G.len PySem.boot_len (pa_cons (pv 0) pa_nil)) pe_int) pa_nil))) (pg_name (i := 2) sc21.nd rfl (.inl rfl))
        (pss_one (ps_for PassesOwn.never rfl (pi_range1 (by rfl) G.range (pa_cons (pv 2) pa_nil)) (pg_name (i := 3) sc21.nd rfl (.inl rfl))
          (pss_cons (ps_set (i := 4) sc21.nd rfl (.inl rfl) (pe_slice sl_str (pv 0) (po_some (pv 3)) (po_some (pv 2))))
          (pss_one (ps_if (pt_cmpR op_eq (pv 4) (pe_revS (pv 4)) (nomark _))
            (pss_cons (ps_set (i := 5) sc21.nd rfl (.inl rfl) (pe_tup (StX.pa_star (pe_ix ix_list (pv 1) (pv 3) (fun _ _ => rfl)) (pa_cons (pe_op op_sub (pv 2) (pv 3)) pa_nil))))
            (pss_one (ps_if (PW.pt (pw_or (pt_cmp (pc_isN (pe_ix ix_list (pv 1) (pv 2) (fun _ _ => rfl)))) (pw_or1 (pt_cmpR (op_ltP hr.units)
                (pe_tup (pa_cons (pe_callB call_len_seq (by rfl) G.len PySem.boot_len (pa_cons (pv 5) pa_nil)) (pa_cons (pv 5) pa_nil)))
                (pe_tup (pa_cons (pe_callB call_len_seq (by rfl) G.len PySem.boot_len (pa_cons (pe_ix ix_list (pv 1) (pv 2) (fun _ _ => rfl)) pa_nil)) (pa_cons (pe_ix ix_list (pv 1) (pv 2) (fun _ _ => rfl)) pa_nil))) (nomark _)))))
              (pss_one (ps_asg (pv 5) (pg_sub (pv 1) (pv 2) set_list))) pss_nil))) pss_nil))))))
      (pss_cons (ps_par (i := 6) (j := 7) (by rfl) sc21.nd rfl rfl (by decide) rfl rfl (pa_cons (pe_lst pa_nil) (pa_cons pe_int pa_nil)) (by rfl))
      (pss_cons (ps_for PassesOwn.never rfl (pi_tup (pe_ix ix_list (pv 1) (pe_un un_neg pe_int) (fun _ _ => rfl))) (pg_name (i := 8) sc21.nd rfl (.inl rfl))
        (pss_cons (ps_expr (pe_bm PySem.F.plainAttrs_list PySem.F.slot_list_append PySem.F.type_list_append mt_append (pv 6) (pa_cons (pe_slice sl_str (pv 0) (po_some (pv 7)) (po_some (pe_op op_add (pv 7) (pv 8)))) pa_nil)))
        (pss_one (ps_aug (i := 7) sc21.nd rfl (.inl rfl) (pv 8) ip_add))))
      (pss_one (ps_ret (pe_callTy call_tuple_of (by rfl) G.tuple bTuple (pa_cons (pv 6) pa_nil))))))))), ?_⟩
    refine ⟨.str (S l), rfl, l, rfl, hw, fun H1 sm1 => ?_⟩
    -- best = [()] + [None for sign in word]
    refine ⟨by show 0 ≤ sizeLine; omega, fun t0 ht0 => ⟨by show 1 ≤ sizeLine; omega, fun d0 hd0 => ?_⟩⟩
    have smA : Same H (upd H1 t0 (.tup [])) := same_set sm1 (sm1.free ht0)
    have smB : Same H (upd (upd H1 t0 (.tup [])) d0 (.lst [.ref t0])) := same_set smA (smA.free hd0)
    have nt : t0 ≠ d0 := fun z => by rw [← z, upd_same] at hd0; cases hd0
    refine ⟨.str (S l), rfl, S l, rfl, fun D hD => ?_⟩
    have hHD : H D = none := smB.free hD
    refine lc_it (walk_str (z := S l)) (fun i H' => Same (upd (upd H1 t0 (.tup [])) d0 (.lst [.ref t0])) H' ∧ H' D = some (.lst (List.replicate i .non))) ⟨same_upd hD, upd_same⟩ (fun _ _ _ _ => True.intro) (fun i x H2 H3 hi hP hY => ?_) (fun H2 hP => ?_)
    · obtain ⟨e, c, hc, rfl⟩ := hY
      subst e
      have hsz : (S l).cps.size = l.length := S_len l
      refine ⟨rfl, _, hP.2, by rw [List.length_replicate]; omega, same_set hP.1 hD, ?_⟩
      rw [upd_same, List.replicate_succ']
    · have e0 : H2 d0 = some (.lst [.ref t0]) := hP.1 _ _ upd_same
      have et : H2 t0 = some (.tup []) := hP.1 _ _ (by rw [upd_ne nt, upd_same])
      have hsz : (S l).cps.size = l.length := S_len l
      refine ⟨d0, D, _, _, rfl, rfl, e0, hP.2, by rw [List.length_replicate]; show 1 + _ ≤ _; omega, fun B hB => ?_⟩
      have smC : Same H H2 := smB.trans hP.1
      have hHB : H B = none := smC.free hB
      -- the loops
      rw [hsz]
      have arr0 : Arr K (upd H2 B (.lst ([V.ref t0] ++ List.replicate l.length V.non))) l.length ([V.ref t0] ++ List.replicate l.length V.non) (fun e => if e = 0 then some [] else none) := by
        refine ⟨by simp, fun e he => ?_⟩
        cases e with
        | zero => exact ⟨.ref t0, rfl, t0, rfl, .inl (.inl (by rw [upd_ne (ne_of_none et hB)]; exact et))⟩
        | succ e => exact ⟨.non, by show (List.replicate l.length V.non)[e]? = some .non; rw [List.getElem?_replicate, if_pos (by omega)], rfl⟩
      refine ⟨.str (S l), rfl, S l, rfl, hl, (S l).length, 1, rfl, rfl, 1, (S l).length + 1, rfl, ⟨by omega, by omega, by omega, by rw [S_len]; omega⟩, ?_⟩
      rw [S_len, show ((l.length : Int) + 1 - 1).toNat = l.length by omega]
      refine for_it (walk_range (lo := 1) (n := l.length)) (fun i σ H' => Same H H' ∧ ∃ xs f y2 y3 y4 y5, H' B = some (.lst xs) ∧ Arr K H' l.length xs f ∧ Best2 l i 0 f ∧ σ = [some (.str (S l)), some (.ref B), y2, y3, y4, y5, none, none, none, none])
        ⟨same_set smC hHB, _, _, none, none, none, none, upd_same, arr0, best2_start l, rfl⟩ (fun _ _ _ _ _ => True.intro) (fun i x σ H3 H4 hi hP hY => ?_) (fun σ H3 hP => ?_)
      · obtain ⟨e, rfl⟩ := hY
        subst e
        obtain ⟨sm, xs, f, y2, y3, y4, y5, hB, arr, b2, rfl⟩ := hP
        refine ⟨_, rfl, _, rfl, by omega, by omega, ?_⟩
        rw [show (1 + ((i : Nat) : Int)).toNat = i + 1 by omega]
        refine for_it (walk_range (lo := 0) (n := i + 1)) (fun j σ H' => Same H H' ∧ ∃ xs f y3 y4 y5, H' B = some (.lst xs) ∧ Arr K H' l.length xs f ∧ Best2 l i j f ∧ σ = [some (.str (S l)), some (.ref B), some (.int ((i + 1 : Nat) : Int)), y3, y4, y5, none, none, none, none])
          ⟨sm, xs, f, y3, y4, y5, hB, arr, b2, by rw [show ((i + 1 : Nat) : Int) = 1 + ((i : Nat) : Int) by omega] <;> rfl⟩ (fun _ _ _ _ _ => True.intro) (fun j x σ H3 H4 hj hP hY => ?_) (fun σ H3 hP => ?_)
        · obtain ⟨e, ex⟩ := hY
          subst e
          obtain ⟨sm, xs, f, y3, y4, y5, hB, arr, b2, rfl⟩ := hP
          have ej : 0 + ((j : Nat) : Int) = ((j : Nat) : Int) := by omega
          have ex2 : x = V.int ((j : Nat) : Int) := ex.trans (congrArg V.int ej)
          subst ex2
          refine ⟨.str (S l), rfl, .int ((j : Nat) : Int), rfl, _, rfl, .int ((i + 1 : Nat) : Int), rfl, _, rfl, S l, rfl, hl, ?_⟩
          rw [cut_seg]
          have hsl : (seg l j (i + 1)).length ≤ sizeLine := Nat.le_trans (by rw [seg_len]; omega) hw.line
          refine ⟨.str (S (seg l j (i + 1))), rfl, .str (S (seg l j (i + 1))), rfl, seg l j (i + 1), rfl, hsl, rfl, _, rfl, ?_⟩
          rw [dec_pal]
          by_cases hp : pal (seg l j (i + 1)) = true
          · rw [hp]
            refine iteT ?_
            obtain ⟨s', es', hbest⟩ := b2.done j (by omega)
            obtain ⟨xj, hxj, bj⟩ := arr.2 j (by omega)
            rw [es'] at bj
            obtain ⟨tj, rfl, hTj⟩ := bj
            have hLB : SqL K H4 B xs := .inl (.inl hB)
            refine ⟨.ref B, rfl, .int ((j : Nat) : Int), rfl, B, xs, _, _, rfl, rfl, hLB, atI_nat hxj, tj, _, rfl, .inl hTj, _, rfl, _, rfl, _, _, rfl, rfl, ?_, fun T hT => ?_⟩
            · have := hbest.1.len
              rw [List.length_append, List.length_map]
              show s'.length + 1 ≤ sizeLine
              omega
            · have ec : (s'.map V.int) ++ [V.int (((i + 1 : Nat) : Int) - ((j : Nat) : Int))] = (s' ++ [((i + 1 : Nat) : Int) - ((j : Nat) : Int)]).map V.int := by rw [List.map_append] <;> rfl
              dsimp only
              rw [ec]
              have hi1 : i + 1 ≤ l.length := hi
              generalize hc : s' ++ [((i + 1 : Nat) : Int) - ((j : Nat) : Int)] = c
              have nTB : B ≠ T := ne_of_none hB hT
              have smT : Same H4 (upd H4 T (.tup (c.map V.int))) := same_upd hT
              have hB4 : (upd H4 T (.tup (c.map V.int))) B = some (.lst xs) := smT _ _ hB
              have hTT : (upd H4 T (.tup (c.map V.int))) T = some (.tup (c.map V.int)) := upd_same
              generalize upd H4 T (.tup (c.map V.int)) = H5 at smT hB4 hTT ⊢
              have arr5 := arr.same smT
              have hLB5 : SqL K H5 B xs := .inl (.inl hB4)
              obtain ⟨xe, hxe, be⟩ := arr5.2 (i + 1) hi1
              have ixe : ixN xs.length ((i + 1 : Nat) : Int) = some (i + 1) := ixN_at (by rw [arr5.1]; omega)
              have store : ∀ H6, Same H5 H6 → (∀ s, f (i + 1) = some s → kl c s = true) → Same H (upd H6 B (.lst (xs.set (i + 1) (.ref T)))) ∧ ∃ xs2 f2, (upd H6 B (.lst (xs.set (i + 1) (.ref T)))) B = some (.lst xs2) ∧ Arr K (upd H6 B (.lst (xs.set (i + 1) (.ref T)))) l.length xs2 f2 ∧ Best2 l i (j + 1) f2 := by
                intro H6 sm6 hk
                have arr6 := arr5.same sm6
                have hB6 : H6 B = some (.lst xs) := sm6 _ _ hB4
                refine ⟨fun b o e => ?_, _, _, upd_same, arr6.put (x := .ref T) (s := c) hB6 ⟨T, rfl, .inl (.inl (sm6 _ _ hTT))⟩ hi1, ?_⟩
                · rw [upd_ne (ne_of_none e hHB)]
                  exact sm6 _ _ (smT _ _ (sm _ _ e))
                · have b3 := best2_take b2 hbest hj hi1 hp (by rw [hc]; exact hk)
                  rw [hc] at b3
                  exact b3
              refine ⟨.ref B, rfl, .int ((i + 1 : Nat) : Int), rfl, B, xs, _, _, rfl, rfl, hLB5, atI_nat hxe, _, rfl, ?_⟩
              cases hfe : f (i + 1) with
              | none =>
                rw [hfe] at be
                have be : xe = .non := be
                subst be
                refine iteT ?_
                obtain ⟨g1, xs2, f2, g2, g3, g4⟩ := store H5 (Same.refl _) (fun s es => by rw [hfe] at es; cases es)
                exact ⟨.ref T, rfl, .ref B, rfl, .int ((i + 1 : Nat) : Int), rfl, B, xs, _, i + 1, rfl, rfl, hB4, ixe, g1, xs2, f2, _, _, _, g2, g3, g4, rfl⟩
              | some sc =>
                rw [hfe] at be
                obtain ⟨t2, rfl, hT2⟩ := be
                refine iteF ?_
                refine ⟨.ref T, rfl, T, _, rfl, .inr (.inl (.inl hTT)), .ref T, rfl, by show 2 ≤ sizeLine; omega, fun p1 hp1 => ?_⟩
                have sm7 : Same H5 (upd H5 p1 (.tup [V.int ((c.map V.int).length : Nat), V.ref T])) := same_upd hp1
                have hT7 := sm7 _ _ hTT
                have hp7 : (upd H5 p1 (.tup [V.int ((c.map V.int).length : Nat), V.ref T])) p1 = some (.tup [V.int ((c.map V.int).length : Nat), V.ref T]) := upd_same
                show tTup _ _ (upd H5 p1 (.tup [V.int ((c.map V.int).length : Nat), V.ref T])) _
                generalize upd H5 p1 (.tup [V.int ((c.map V.int).length : Nat), V.ref T]) = H7 at sm7 hT7 hp7 ⊢
                have hLB7 : SqL K H7 B xs := sm7.seq hLB5
                have hT27 : SqT K H7 t2 (sc.map V.int) := Same.seqT sm7 hT2
                refine ⟨.ref B, rfl, .int ((i + 1 : Nat) : Int), rfl, B, xs, _, _, rfl, rfl, hLB7, atI_nat hxe, t2, _, rfl, .inr hT27, .ref B, rfl, .int ((i + 1 : Nat) : Int), rfl, B, xs, _, _, rfl, rfl, hLB7, atI_nat hxe, by show 2 ≤ sizeLine; omega, fun p2 hp2 => ?_⟩
                have sm8 : Same H7 (upd H7 p2 (.tup [V.int ((sc.map V.int).length : Nat), V.ref t2])) := same_upd hp2
                have hp8 : (upd H7 p2 (.tup [V.int ((sc.map V.int).length : Nat), V.ref t2])) p2 = some (.tup [V.int ((sc.map V.int).length : Nat), V.ref t2]) := upd_same
                show rLtP K _ _ (upd H7 p2 (.tup [V.int ((sc.map V.int).length : Nat), V.ref t2])) _
                generalize upd H7 p2 (.tup [V.int ((sc.map V.int).length : Nat), V.ref t2]) = H8 at sm8 hp8 ⊢
                refine ⟨p1, p2, _, _, .ref T, .ref t2, c, sc, rfl, rfl, .inl (.inl (sm8 _ _ hp7)), ⟨T, rfl, .inl (.inl (sm8 _ _ hT7))⟩, .inl (.inl hp8), ⟨t2, rfl, Same.seqT sm8 hT27⟩, _, rfl, ?_⟩
                rw [List.length_map, List.length_map, kl_is]
                have smA8 : Same H5 H8 := sm7.trans sm8
                by_cases hk : kl c sc = true
                · rw [hk]
                  refine iteT ?_
                  obtain ⟨g1, xs2, f2, g2, g3, g4⟩ := store H8 smA8 (fun s es => by rw [hfe] at es; cases es; exact hk)
                  exact ⟨.ref T, rfl, .ref B, rfl, .int ((i + 1 : Nat) : Int), rfl, B, xs, _, i + 1, rfl, rfl, smA8 _ _ hB4, ixe, g1, xs2, f2, _, _, _, g2, g3, g4, rfl⟩
                · have hk2 : kl c sc = false := by simpa using hk
                  rw [hk2]
                  exact iteF ⟨sm.trans (smT.trans smA8), xs, f, _, _, _, smA8 _ _ hB4, arr5.same smA8, best2_keep b2 hfe hbest (by rw [hc]; exact hk2), rfl⟩
          · rw [show pal (seg l j (i + 1)) = false by simpa using hp]
            exact iteF ⟨sm, xs, f, _, _, _, hB, arr, best2_skip b2 hp, rfl⟩
        · obtain ⟨sm, xs, f, y3, y4, y5, hB, arr, b2, rfl⟩ := hP
          exact ⟨sm, xs, f, _, _, _, _, hB, arr, best2_next b2, rfl⟩
      · obtain ⟨sm, xs, f, y2, y3, y4, y5, hB, arr, b2, rfl⟩ := hP
        obtain ⟨s, es, hs⟩ := b2.done l.length (Nat.le_refl _)
        obtain ⟨x, hx, bx⟩ := arr.2 l.length (Nat.le_refl _)
        rw [es] at bx
        obtain ⟨t, rfl, hT⟩ := bx
        have hat : atI xs (-1) = some (.ref t) := by
          have e : ixN xs.length (-1) = some l.length := by
            unfold ixN
            rw [if_neg (by decide), if_pos (by have := arr.1; omega), arr.1]
            exact congrArg some (by omega)
          unfold atI
          rw [e]
          exact hx
        obtain ⟨p1, p2, p3, p4⟩ := hs.1.all
        refine ⟨by show 0 ≤ sizeLine; omega, fun L hL => ⟨.ref L, .int 0, rfl, ?_⟩⟩
        have smL : Same H3 (upd H3 L (.lst [])) := same_upd hL
        refine ⟨.ref B, rfl, 1, rfl, B, xs, _, _, rfl, rfl, .inl (.inl (smL _ _ hB)), hat, t, rfl, ⟨_, Same.seqT smL hT⟩, ?_⟩
        refine for_it (walk_tup (xs := s.map V.int)) (fun m σ H' => Same H3 H' ∧ H' L = some (.lst (vS (pcs l 0 (s.take m)))) ∧ ∃ y8, σ = [some (.str (S l)), some (.ref B), y2, y3, y4, y5, some (.ref L), some (.int ((tot (s.take m) : Nat) : Int)), y8, none])
          ⟨smL, by rw [upd_same] <;> rfl, none, rfl⟩ (fun m σ H' _ hP => Same.seqT hP.1 hT) (fun m x σ H4 H5 hm hP hY => ?_) (fun σ H4 hP => ?_)
        · obtain ⟨e, hxm⟩ := hY
          subst e
          obtain ⟨sm4, hL4, y8, rfl⟩ := hP
          rw [List.length_map] at hm
          obtain ⟨z, hz⟩ : ∃ z, s[m]? = some z := ⟨_, List.getElem?_eq_getElem hm⟩
          have exz : x = V.int z := by
            rw [List.getElem?_map, hz] at hxm
            exact (Option.some.inj hxm).symm
          subst exz
          have hzp : 0 < z := p2 z (List.mem_of_getElem? hz)
          have ez : ((tot (s.take m) : Nat) : Int) + z = ((tot (s.take m) + z.toNat : Nat) : Int) := by omega
          have etk : s.take (m + 1) = s.take m ++ [z] := take_more hz
          have epc : pcs l 0 (s.take (m + 1)) = pcs l 0 (s.take m) ++ [seg l (tot (s.take m)) (tot (s.take m) + z.toNat)] := by
            rw [etk, pcs_app, Nat.zero_add] <;> rfl
          have eto : tot (s.take (m + 1)) = tot (s.take m) + z.toNat := by
            rw [etk, tot_app]
            show tot (s.take m) + (z.toNat + 0) = _
            omega
          refine ⟨.ref L, rfl, .inl ⟨rfl, _, .inl (.inl hL4)⟩, .str (S l), rfl, .int ((tot (s.take m) : Nat) : Int), rfl, _, rfl, .int ((tot (s.take m) : Nat) : Int), rfl, .int z, rfl, _, z, rfl, rfl, _, rfl, S l, rfl, hl, ?_⟩
          rw [ez, cut_seg]
          have hpl : (pcs l 0 (s.take m)).length ≤ s.length := by
            have e := congrArg List.length p3
            rw [List.length_map] at e
            have e2 : pcs l 0 s = pcs l 0 (s.take m) ++ pcs l (0 + tot (s.take m)) (s.drop m) := by
              rw [← pcs_app, List.take_append_drop]
            rw [e2, List.length_append] at e
            omega
          have hsl := hs.1.len
          refine ⟨L, _, _, rfl, rfl, hL4, by rw [vS_len]; omega, ?_⟩
          refine ⟨_, rfl, .int z, rfl, _, z, rfl, rfl, ?_, ?_, ?_⟩
          · intro b o e
            rw [upd_ne (ne_of_none e hL)]
            exact sm4 _ _ e
          · rw [upd_same, epc, vS_app] <;> rfl
          · refine ⟨some (.int z), ?_⟩
            rw [eto, ← ez] <;> rfl
        · obtain ⟨sm4, hL4, y8, rfl⟩ := hP
          rw [List.length_map, List.take_length] at hL4
          refine ⟨.ref L, rfl, L, _, rfl, .inl ⟨.inl (.inl hL4), fun p hp => ?_⟩⟩
          exact q _ p s (same_set (sm.trans sm4) ((sm.trans sm4).free hp)) upd_same hs
end
end Aw
/-! The law's helpers: _law_taken, _law_word. -/
namespace Aw
open PySem PySem.Spec PyProof.Rows L2
/-- all but the object at r stays -/
def But (r : Addr) (H H' : Hp) : Prop := ∀ b o, b ≠ r → H b = some o → H' b = some o
theorem But.refl (r : Addr) (H : Hp) : But r H H := fun _ _ _ e => e
theorem But.trans {r : Addr} {H H1 H2 : Hp} (a : But r H H1) (b : But r H1 H2) : But r H H2 := fun c o n e => b c o n (a c o n e)
theorem But.of {r : Addr} {H H' : Hp} (e : Same H H') : But r H H' := fun b o _ h => e b o h
/-- the row of draws -/
def RowAt (K : PySem.W.Frag) (H : Hp) (r scr : Addr) (ns : List Int) : Prop := ∃ (i st rest : Int), H r = some (.lst [.ref scr, .int i, .int st, .int rest]) ∧ SqL K H scr (ns.map V.int) ∧ 0 ≤ i ∧ 0 ≤ st ∧ st < 2147483647
theorem seqL_row {K : PySem.W.Frag} {H : Hp} {r scr : Addr} {ns : List Int} {xs : List V} {o : HO} (h : SqL K H scr (ns.map V.int)) (hr : H r = some (.lst (.ref scr :: xs))) : SqL K (upd H r o) scr (ns.map V.int) := by
  rcases h with (h | ⟨u, h⟩) | h
  · refine .inl (.inl ?_)
    rw [upd_ne (fun z => ?_)]
    · exact h
    · rw [z, hr] at h
      cases ns with
      | nil => cases h
      | cons n ns => cases h
  · refine .inl (.inr ⟨u, ?_⟩)
    rw [upd_ne (fun z => by rw [z, hr] at h; cases h)]
    exact h
  · exact .inr h
/-- the script stands apart from D -/
def Away (K : PySem.W.Frag) (scr : Addr) (ns : List Int) (D : Addr) : Prop := scr ≠ D ∨ ∀ H : Hp, SqL K H scr (ns.map V.int)
theorem away_of {K : PySem.W.Frag} {H : Hp} {scr D : Addr} {ns : List Int} (h : SqL K H scr (ns.map V.int)) (hD : H D = none) : Away K scr ns D := by
  rcases h with (h | ⟨u, h⟩) | h
  · exact .inl (ne_of_none h hD)
  · exact .inl (ne_of_none h hD)
  · exact .inr fun _ => .inr h
theorem RowAt.away {K : PySem.W.Frag} {H : Hp} {r scr D : Addr} {ns : List Int} (h : RowAt K H r scr ns) (hD : H D = none) : Away K scr ns D ∧ r ≠ D := by
  obtain ⟨i, st, rest, h1, h2, _⟩ := h
  exact ⟨away_of h2 hD, ne_of_none h1 hD⟩
theorem RowAt.same {K : PySem.W.Frag} {H H' : Hp} {r scr : Addr} {ns : List Int} (h : RowAt K H r scr ns) (e : Same H H') : RowAt K H' r scr ns := by
  obtain ⟨i, st, rest, h1, h2, h3⟩ := h
  exact ⟨i, st, rest, e _ _ h1, e.seq h2, h3⟩
theorem RowAt.set {K : PySem.W.Frag} {H : Hp} {r scr D : Addr} {ns : List Int} {o : HO} (h : RowAt K H r scr ns) (a : Away K scr ns D ∧ r ≠ D) : RowAt K (upd H D o) r scr ns := by
  obtain ⟨i, st, rest, h1, h2, h3⟩ := h
  refine ⟨i, st, rest, by rw [upd_ne a.2]; exact h1, ?_, h3⟩
  rcases a.1 with n | k
  · rcases h2 with (h2 | ⟨u, h2⟩) | h2
    · exact .inl (.inl (by rw [upd_ne n]; exact h2))
    · exact .inl (.inr ⟨u, by rw [upd_ne n]; exact h2⟩)
    · exact .inr h2
  · exact k _
section
variable {P : Program} {w : World} {K : PySem.W.Frag} {mg : Str → Option Value} {base : Heap}
theorem sc25 : FnScope ["_law_row", "_law_many", "_law_found", "_law_cell"] ["_law_row", "_law_many"] (defScope (top 25)) := ⟨rfl, rfl, rfl, by decide +kernel, rfl, by decide +kernel, by decide +kernel⟩
def spTaken (K : PySem.W.Frag) : Sp := fun vs H Q _ => ∃ (r scr : Addr) (m : Int) (ns : List Int), vs = [.ref r, .int m] ∧ RowAt K H r scr ns ∧ 1 ≤ m ∧ m ≤ 1000 ∧ ∀ H' v, But r H H' → (∀ b, H b = none → H' b = none) → RowAt K H' r scr ns → 0 ≤ v → v < m → Q (.int v) H'
theorem ok_taken {f : Addr} {fd : FuncData} (F : FnP K "_law_taken" 25 f fd) (G : Glob mg) : FnOk P w K mg base CX0 1 f fd ["_law_row", "_law_many"] (spTaken K) := by
  refine F.ok sc25 (fun vs H Q E h => ?_) (fun cdv A outer s H vs Q E hr h => ?_)
  · obtain ⟨r, scr, m, ns, rfl, _⟩ := h
    rfl
  · obtain ⟨r, scr, m, ns, rfl, hrow, m1, m2, q⟩ := h
    refine ⟨_, PSs.nox (pss_cons (ps_if (pt_cmpR op_gt (pe_ix ix_list (pv 0) pe_int (fun _ _ => rfl)) pe_int (nomark _))
        (pss_cons (ps_set (i := 2) sc25.nd rfl (.inl rfl) (pe_op op_mod (pe_callTy call_int1 (by rfl) G.int bInt (pa_cons (pe_ix ix_list (pv 0) pe_int (fun _ _ => rfl)) pa_nil)) (pv 1)))
        (pss_cons (ps_asg (pe_op op_fdiv (pe_ix ix_list (pv 0) pe_int (fun _ _ => rfl)) (pv 1)) (pg_sub (pv 0) pe_int set_list))
        (pss_one (ps_ret (pv 2))))) pss_nil)
      (pss_cons (ps_asg (pe_op op_add (pe_ix ix_list (pv 0) pe_int (fun _ _ => rfl)) pe_int) (pg_sub (pv 0) pe_int set_list))
      (pss_cons (ps_if (pt_cmpR op_gt (pe_ix ix_list (pv 0) pe_int (fun _ _ => rfl)) (pe_callB call_len_seq (by rfl) G.len PySem.boot_len (pa_cons (pe_ix ix_list (pv 0) pe_int (fun _ _ => rfl)) pa_nil)) (nomark _))
        (pss_cons (ps_asg (pe_op op_mod (pe_callTy call_int1 (by rfl) G.int bInt (pa_cons (pe_op op_add (pe_op op_mul (pe_ix ix_list (pv 0) pe_int (fun _ _ => rfl)) pe_int) pe_int) pa_nil)) pe_int) (pg_sub (pv 0) pe_int set_list))
        (pss_one (ps_ret (pe_op op_mod (pe_callTy call_int1 (by rfl) G.int bInt (pa_cons (pe_op op_fdiv (pe_ix ix_list (pv 0) pe_int (fun _ _ => rfl)) pe_int) pa_nil)) (pv 1))))) pss_nil)
      (pss_cons (ps_set (i := 3) sc25.nd rfl (.inl rfl) (pe_ix ix_list (pe_ix ix_list (pv 0) pe_int (fun _ _ => rfl)) (pe_op op_sub (pe_ix ix_list (pv 0) pe_int (fun _ _ => rfl)) pe_int) (fun _ _ => rfl)))
      (pss_cons (ps_asg (pe_op op_mod (pe_callTy call_int1 (by rfl) G.int bInt (pa_cons (pe_op op_add (pe_op op_add (pe_op op_mul (pe_ix ix_list (pv 0) pe_int (fun _ _ => rfl)) pe_int) (pv 3)) pe_int) pa_nil)) pe_int) (pg_sub (pv 0) pe_int set_list))
      (pss_cons (ps_if (pt_cmpR op_ge (pv 3) (pe_op op_pow pe_int pe_int) (nomark _))
        (pss_one (ps_asg (pe_op op_fdiv (pv 3) (pv 1)) (pg_sub (pv 0) pe_int set_list))) pss_nil)
      (pss_one (ps_ret (pe_op op_mod (pe_callTy call_int1 (by rfl) G.int bInt (pa_cons (pv 3) pa_nil)) (pv 1)))))))))), ?_⟩
    obtain ⟨i, st, rest, h1, h2, h3, h4, h5⟩ := hrow
    have vm : ∀ x : Int, 0 ≤ x % m ∧ x % m < m := fun x => ⟨Int.emod_nonneg x (by omega), Int.emod_lt_of_pos x (by omega)⟩
    have vk : ∀ x : Int, 0 ≤ x % 2147483647 ∧ x % 2147483647 < 2147483647 := fun x => ⟨Int.emod_nonneg x (by omega), Int.emod_lt_of_pos x (by omega)⟩
    have fin : ∀ (H1 : Hp) (a b c : Int), H1 r = some (.lst [.ref scr, .int a, .int b, .int c]) → (∀ z, z ≠ r → H1 z = H z) → 0 ≤ a → 0 ≤ b → b < 2147483647 → ∀ v, 0 ≤ v → v < m → Q (.int v) H1 := by
      intro H1 a b c e1 e2 a0 b0 b1 v v0 v1
      have hb : But r H H1 := fun z o n e => by rw [e2 z n]; exact e
      refine q H1 v hb (fun z hz => ?_) ⟨a, b, c, e1, ?_, a0, b0, b1⟩ v0 v1
      · by_cases n : z = r
        · rw [n, h1] at hz
          cases hz
        · rw [e2 z n]
          exact hz
      · have h6 := seqL_row (o := .lst [.ref scr, .int a, .int b, .int c]) h2 h1
        have e3 : H1 = upd H r (.lst [.ref scr, .int a, .int b, .int c]) := by
          funext z
          by_cases n : z = r
          · rw [n, upd_same]
            exact e1
          · rw [upd_ne n]
            exact e2 z n
        rw [e3]
        exact h6
    have sL : ∀ {H1 : Hp} {a b c : Int}, H1 r = some (.lst [.ref scr, .int a, .int b, .int c]) → SqL K H1 r [.ref scr, .int a, .int b, .int c] := fun e => .inl (.inl e)
    -- if row[3] > 0
    refine ⟨.ref r, rfl, r, _, 3, .int rest, rfl, rfl, sL h1, rfl, rest, 0, rfl, rfl, _, rfl, ?_⟩
    by_cases c1 : 0 < rest
    · rw [decide_eq_true c1]
      refine iteT ?_
      refine ⟨.ref r, rfl, r, _, 3, .int rest, rfl, rfl, sL h1, rfl, .inl ⟨rest, rfl, .int m, rfl, rest, m, rfl, rfl, by show 0 < m; omega, ?_⟩⟩
      refine ⟨.ref r, rfl, r, _, 3, .int rest, rfl, rfl, sL h1, rfl, .int m, rfl, rest, m, rfl, rfl, ⟨by omega, by omega⟩, .ref r, rfl, r, _, 3, 3, rfl, rfl, h1, rfl, ?_⟩
      refine ⟨_, rfl, ?_⟩
      exact fin _ i st (rest / m) upd_same (fun z n => upd_ne n) h3 h4 h5 _ (vm rest).1 (vm rest).2
    · rw [decide_eq_false c1]
      refine iteF ?_
      -- row[1] = row[1] + 1
      refine ⟨.ref r, rfl, r, _, 1, .int i, rfl, rfl, sL h1, rfl, i, 1, rfl, rfl, .ref r, rfl, r, _, 1, 1, rfl, rfl, h1, rfl, ?_⟩
      have g1 : (upd H r (.lst [.ref scr, .int (i + 1), .int st, .int rest])) r = some (.lst [.ref scr, .int (i + 1), .int st, .int rest]) := upd_same
      have n1 : ∀ z, z ≠ r → (upd H r (.lst [.ref scr, .int (i + 1), .int st, .int rest])) z = H z := fun z n => upd_ne n
      have s1 : SqL K (upd H r (.lst [.ref scr, .int (i + 1), .int st, .int rest])) scr (ns.map V.int) := seqL_row h2 h1
      show tSeq _ _ _ _ (upd H r (.lst [.ref scr, .int (i + 1), .int st, .int rest]))
      generalize upd H r (.lst [.ref scr, .int (i + 1), .int st, .int rest]) = H1 at g1 n1 s1 ⊢
      refine ⟨.ref r, rfl, r, _, 1, .int (i + 1), rfl, rfl, sL g1, rfl, .ref r, rfl, r, _, 0, .ref scr, rfl, rfl, sL g1, rfl, scr, _, rfl, .inl s1, i + 1, _, rfl, rfl, _, rfl, ?_⟩
      rw [List.length_map]
      by_cases c2 : (ns.length : Int) < i + 1
      · rw [decide_eq_true c2]
        refine iteT ?_
        refine ⟨.ref r, rfl, r, _, 2, .int st, rfl, rfl, sL g1, rfl, st, 48271, rfl, rfl, .inl ⟨by omega, by omega⟩, st * 48271, 11, rfl, rfl, .inl ⟨st * 48271 + 11, rfl, st * 48271 + 11, 2147483647, rfl, rfl, by show (0 : Int) < 2147483647; decide, .ref r, rfl, r, _, 2, 2, rfl, rfl, g1, rfl, ?_⟩⟩
        have k := vk (st * 48271 + 11)
        dsimp only [List.set]
        generalize (st * 48271 + 11) % 2147483647 = st2 at k ⊢
        have g2 : (upd H1 r (.lst [.ref scr, .int (i + 1), .int st2, .int rest])) r = some (.lst [.ref scr, .int (i + 1), .int st2, .int rest]) := upd_same
        refine ⟨.ref r, rfl, r, _, 2, .int st2, rfl, rfl, sL g2, rfl, st2, 7, rfl, rfl, ⟨by decide, by decide⟩, .inl ⟨st2 / 7, rfl, .int m, rfl, st2 / 7, m, rfl, rfl, by show 0 < m; omega, ?_⟩⟩
        exact fin _ (i + 1) st2 rest g2 (fun z n => by rw [upd_ne n]; exact n1 z n) (by omega) k.1 k.2 _ (vm _).1 (vm _).2
      · rw [decide_eq_false c2]
        refine iteF ?_
        obtain ⟨cell, hc⟩ : ∃ cell, ns[i.toNat]? = some cell := ⟨_, List.getElem?_eq_getElem (by omega)⟩
        have hat : atI (ns.map V.int) (i + 1 - 1) = some (.int cell) := by
          rw [show i + 1 - 1 = ((i.toNat : Nat) : Int) by omega]
          exact atI_nat (by rw [List.getElem?_map, hc] <;> rfl)
        refine ⟨.ref r, rfl, r, _, 0, .ref scr, rfl, rfl, sL g1, rfl, .ref r, rfl, r, _, 1, .int (i + 1), rfl, rfl, sL g1, rfl, i + 1, 1, rfl, rfl, scr, _, _, _, rfl, rfl, s1, hat, ?_⟩
        refine ⟨.ref r, rfl, r, _, 2, .int st, rfl, rfl, sL g1, rfl, st, 48271, rfl, rfl, .inl ⟨by omega, by omega⟩, .int cell, rfl, st * 48271, cell, rfl, rfl, st * 48271 + cell, 11, rfl, rfl, .inl ⟨st * 48271 + cell + 11, rfl, st * 48271 + cell + 11, 2147483647, rfl, rfl, by show (0 : Int) < 2147483647; decide, .ref r, rfl, r, _, 2, 2, rfl, rfl, g1, rfl, ?_⟩⟩
        have k := vk (st * 48271 + cell + 11)
        show tSeq _ _ _ _ (upd H1 r (.lst [.ref scr, .int (i + 1), .int ((st * 48271 + cell + 11) % 2147483647), .int rest]))
        generalize (st * 48271 + cell + 11) % 2147483647 = st2 at k ⊢
        have g2 : (upd H1 r (.lst [.ref scr, .int (i + 1), .int st2, .int rest])) r = some (.lst [.ref scr, .int (i + 1), .int st2, .int rest]) := upd_same
        have n2 : ∀ z, z ≠ r → (upd H1 r (.lst [.ref scr, .int (i + 1), .int st2, .int rest])) z = H z := fun z n => by rw [upd_ne n]; exact n1 z n
        generalize upd H1 r (.lst [.ref scr, .int (i + 1), .int st2, .int rest]) = H2 at g2 n2 ⊢
        refine ⟨.int cell, rfl, 10, 18, rfl, rfl, ⟨by decide, by decide, by decide⟩, cell, _, rfl, rfl, _, rfl, ?_⟩
        by_cases c3 : (10 : Int) ^ (18 : Int).toNat ≤ cell
        · rw [decide_eq_true c3]
          refine iteT ⟨.int cell, rfl, .int m, rfl, cell, m, rfl, rfl, ⟨by omega, by omega⟩, .ref r, rfl, r, _, 3, 3, rfl, rfl, g2, rfl, ?_⟩
          refine ⟨.int cell, rfl, .inl ⟨cell, rfl, .int m, rfl, cell, m, rfl, rfl, by show 0 < m; omega, ?_⟩⟩
          exact fin _ (i + 1) st2 (cell / m) upd_same (fun z n => by rw [upd_ne n]; exact n2 z n) (by omega) k.1 k.2 _ (vm _).1 (vm _).2
        · rw [decide_eq_false c3]
          refine iteF ⟨.int cell, rfl, .inl ⟨cell, rfl, .int m, rfl, cell, m, rfl, rfl, by show 0 < m; omega, ?_⟩⟩
          exact fin _ (i + 1) st2 rest g2 n2 (by omega) k.1 k.2 _ (vm _).1 (vm _).2
end
end Aw
/-! The law's helpers: _law_word, _law_all, _law_parts. -/
namespace Aw
open PySem PySem.Spec PyProof.Rows L2
theorem joinL_nil : ∀ ps : List (List Nat), TL.joinL [] ps = ps.flatten
  | [] => rfl
  | [p] => by
    show p = p ++ []
    rw [List.append_nil]
  | p :: q :: r => by
    show p ++ ([] ++ TL.joinL [] (q :: r)) = p ++ (q :: r).flatten
    rw [joinL_nil (q :: r), List.nil_append]
theorem join_words (ps : List (List Nat)) : Txt.join (Str.ofString "") (ps.map S) = S ps.flatten := by
  refine TL.ext_tl ?_
  rw [TL.join_eq, TL.tl_join, List.map_map, show TL.tl (Str.ofString "") = [] by decide +kernel, joinL_nil]
  show (ps.map (TL.tl ∘ S)).flatten = (S ps.flatten).cps.toList
  rw [S_list, show ps.map (TL.tl ∘ S) = ps from by
    rw [show (TL.tl ∘ S) = id from funext fun l => S_list l, List.map_id]]
theorem vS_strs (ps : List (List Nat)) : vS ps = (ps.map S).map V.str := by
  unfold vS
  rw [List.map_map]
  rfl
abbrev ABF : Str := "abcdef"
theorem abf_is : ABF = S (letters 6) := by decide +kernel
theorem line_abf : ABF.length ≤ sizeLine := by
  rw [sizeLine_eq]
  decide +kernel
theorem abf_cut {sz : Nat} (h : sz ≤ 6) : cutS ABF none (some (sz : Int)) = S (letters sz) := by
  rw [abf_is, cut_take]
  refine congrArg S ?_
  unfold letters
  rw [List.take_take, Nat.min_eq_left h]
theorem But.put {r : Addr} {H H1 : Hp} {p : Addr} {o : HO} (e : But r H H1) (h : H1 p = none) : But r H (upd H1 p o) := fun b x n q => by
  have e1 := e b x n q
  rw [upd_ne (ne_of_none e1 h)]
  exact e1
section
variable {P : Program} {w : World} {K : PySem.W.Frag} {mg : Str → Option Value} {base : Heap}
theorem sc27 : FnScope ["_law_row", "_law_size", "_law_least", "_law_most", "_law_at"] ["_law_row", "_law_size", "_law_least", "_law_most"] (defScope (top 27)) := ⟨rfl, rfl, rfl, by decide +kernel, rfl, by decide +kernel, by decide +kernel⟩
def spWord (K : PySem.W.Frag) : Sp := fun vs H Q _ => ∃ (r scr : Addr) (sz : Nat) (ns : List Int), vs = [.ref r, .int (sz : Int), .int 0, .int 10] ∧ RowAt K H r scr ns ∧ 1 ≤ sz ∧ sz ≤ 6 ∧ ∀ H' l, But r H H' → RowAt K H' r scr ns → l.length ≤ 10 → (∀ c ∈ l, 97 ≤ c ∧ c ≤ 122) → Q (.str (S l)) H'
theorem ok_word {f fT : Addr} {fd fdT : FuncData} (F : FnP K "_law_word" 27 f fd) (FT : FnP K "_law_taken" 25 fT fdT) (gT : mg "_law_taken" = some (.ref fT)) (G : Glob mg) : FnOk P w K mg base CX0 2 f fd ["_law_row", "_law_size", "_law_least", "_law_most"] (spWord K) := by
  have GT : FnOk P w K mg base CX0 1 fT fdT ["_law_row", "_law_many"] (spTaken K) := ok_taken FT G
  have bT : Binds K fdT ["_law_row", "_law_many"] [] := FT.bindsN fun _ _ _ _ _ _ us hl => match us, hl with | [_, _], _ => rfl
  refine F.ok sc27 (fun vs H Q E h => ?_) (fun cdv A outer s H vs Q E hr h => ?_)
  · obtain ⟨r, scr, sz, ns, rfl, _⟩ := h
    rfl
  · obtain ⟨r, scr, sz, ns, rfl, hrow, s1, s6, q⟩ := h
    refine ⟨_, PSs.nox (pss_one (ps_ret (pe_join pe_str (pe_lc (own := [("_law_at", 4)]) (g := gName 4) (by rfl) sc27.nd
      (pi_range1 (by rfl) G.range (pa_cons (pe_op op_add (pv 2) (pe_call GT hr (by rfl) gT FT.kp bT .nil pass0 (pa_cons (pv 0) (pa_cons (pe_op op_add (pe_op op_sub (pv 3) (pv 2)) pe_int) pa_nil)))) pa_nil))
      (blkOk_by (own := [("_law_at", 4)]) (N := ["_law_row", "_law_size", "_law_least", "_law_most", "_law_at"]) (sc := defScope (top 27)) (by decide +kernel))
      (fun _ _ _ _ _ => pg_name (i := 4) sc27.nd rfl (Or.inl rfl)) (fun _ _ _ _ _ => pts_nil)
      (fun _ _ _ _ _ => pe_ix ix_str pe_str (pe_call GT hr (by rfl) gT FT.kp bT .nil pass0 (pa_cons (pv 0) (pa_cons (pv 1) pa_nil))) (fun _ _ => rfl)))))), ?_⟩
    refine ⟨⟨_, rfl⟩, .int 0, rfl, .ref r, rfl, .int 10, rfl, .int 0, rfl, 10, 0, rfl, rfl, 10, 1, rfl, rfl, r, scr, 11, ns, rfl, hrow, by decide, by decide, fun H1 v b1 fr1 row1 v0 v1 => ?_⟩
    refine ⟨0, v, rfl, rfl, 0 + v, rfl, by omega, by omega, fun D hD => ?_⟩
    have aw := row1.away hD
    refine lc_it (walk_range (lo := 0) (n := (0 + v).toNat)) (fun i H' => But r H H' ∧ RowAt K H' r scr ns ∧ ∃ l : List Nat, l.length = i ∧ (∀ c ∈ l, 97 ≤ c ∧ c ≤ 122) ∧ H' D = some (.lst (vS (l.map fun c => [c]))))
      ⟨b1.put hD, row1.set aw, [], rfl, fun c hc => absurd hc (by simp), upd_same⟩ (fun _ _ _ _ => True.intro) (fun i x H2 H3 hi hP hY => ?_) (fun H2 hP => ?_)
    · obtain ⟨e, rfl⟩ := hY
      subst e
      obtain ⟨bi, rowi, l, hl, hlc, hd⟩ := hP
      refine ⟨rfl, .ref r, rfl, .int sz, rfl, r, scr, sz, ns, rfl, rowi, by omega, by omega, fun H4 u b4 fr4 row4 u0 u1 => ?_⟩
      have hd4 := b4 _ _ (Ne.symm aw.2) hd
      have hu : u.toNat < (letters 6).length := by show u.toNat < 6; omega
      obtain ⟨c, hc⟩ : ∃ c, (letters 6)[u.toNat]? = some c := ⟨_, List.getElem?_eq_getElem hu⟩
      have hat : atI ABF.cps.toList u = some c := by
        rw [abf_is, S_list, show u = ((u.toNat : Nat) : Int) by omega]
        exact atI_nat hc
      refine ⟨ABF, u, c, rfl, rfl, line_abf, hat, _, hd4, ?_, ?_⟩
      · rw [vS_len, List.length_map, hl]
        have := line2000
        omega
      · refine ⟨fun z o n e => ?_, row4.set aw, l ++ [c], by simp [hl], fun d hd => ?_, ?_⟩
        · by_cases zD : z = D
          · exfalso
            subst zD
            have e1 := b1 _ _ n e
            rw [hD] at e1
            cases e1
          · rw [upd_ne zD]
            exact b4 _ _ n (bi _ _ n e)
        · rcases List.mem_append.mp hd with hd | hd
          · exact hlc d hd
          · rw [List.mem_singleton.mp hd]
            exact letters_mem (List.mem_of_getElem? hc)
        · rw [upd_same, List.map_append, vS_app] <;> rfl
    · obtain ⟨bi, rowi, l, hl, hlc, hd⟩ := hP
      have hlen : l.length ≤ 10 := by omega
      have hsum : (((l.map fun c => [c]).map S).map (·.length)).sum = l.length := by
        clear hd hl hlc hlen
        induction l with
        | nil => rfl
        | cons c l ih =>
          show (S [c]).length + (((l.map fun c => [c]).map S).map (·.length)).sum = l.length + 1
          rw [ih, S_len]
          show 1 + l.length = l.length + 1
          omega
      have hfl : (l.map fun c => [c]).flatten = l := by
        clear hd hl hlc hlen hsum
        induction l with
        | nil => rfl
        | cons c l ih =>
          show [c] ++ (l.map fun c => [c]).flatten = c :: l
          rw [ih]
          rfl
      refine ⟨Str.ofString "", D, (l.map fun c => [c]).map S, rfl, rfl, .inl (.inl (.inl (by rw [hd, vS_strs]))), ?_, ?_⟩
      · rw [hsum, List.length_map, List.length_map, show (Str.ofString "").length = 0 by decide +kernel]
        omega
      · rw [join_words, hfl]
        exact q H2 l bi rowi hlen hlc
end
end Aw
/-! The law's helpers: _law_all, _law_parts. -/
namespace Aw
open PySem PySem.Spec PyProof.Rows L2
theorem allL_len {sz : Nat} (h : sz ≤ 6) : ∀ k, (allL sz k).length = sz ^ k
  | 0 => rfl
  | k + 1 => by
    show ((allL sz k).flatMap fun w => (letters sz).map fun c => w ++ [c]).length = _
    rw [List.length_flatMap]
    have e : ((allL sz k).map fun w => ((letters sz).map fun c => w ++ [c]).length) = (allL sz k).map fun _ => sz := by
      refine List.map_congr_left fun w _ => ?_
      rw [List.length_map, letters_len h]
    rw [e, Nat.pow_succ, ← allL_len h k]
    generalize allL sz k = l
    induction l with
    | nil => simp
    | cons a l ih =>
      simp only [List.map_cons, List.sum_cons, List.length_cons]
      rw [ih, Nat.succ_mul]
      omega
theorem allL_words (sz : Nat) : ∀ k, ∀ w ∈ allL sz k, w.length = k ∧ ∀ c ∈ w, 97 ≤ c ∧ c ≤ 122
  | 0, w, h => by
    rw [List.mem_singleton.mp h]
    exact ⟨rfl, fun c hc => absurd hc (by simp)⟩
  | k + 1, w, h => by
    obtain ⟨v, hv, hm⟩ := List.mem_flatMap.mp (show w ∈ (allL sz k).flatMap _ from h)
    obtain ⟨c, hc, rfl⟩ := List.mem_map.mp hm
    obtain ⟨h1, h2⟩ := allL_words sz k v hv
    refine ⟨by simp [h1], fun d hd => ?_⟩
    rcases List.mem_append.mp hd with hd | hd
    · exact h2 d hd
    · rw [List.mem_singleton.mp hd]
      exact letters_mem hc
/-- the parts of a word that the two loops put into the dict -/
def parE (l : List Nat) (b : Nat) (ks : List (List Nat)) : Nat → List (List Nat)
  | 0 => ks
  | m + 1 => insK (parE l b ks m) (seg l b (b + m))
def parB (l : List Nat) : Nat → List (List Nat)
  | 0 => []
  | b + 1 => parE l b (parB l b) (l.length + 1 - b)
theorem mem_ins {ks : List (List Nat)} {p y : List Nat} : y ∈ insK ks p ↔ y ∈ ks ∨ y = p := by
  unfold insK
  split
  · constructor
    · exact fun h => .inl h
    · rintro (h | rfl)
      · exact h
      · assumption
  · rw [List.mem_append, List.mem_singleton]
theorem mem_parE {l : List Nat} {b : Nat} {ks : List (List Nat)} {y : List Nat} : ∀ {m : Nat}, y ∈ parE l b ks m ↔ y ∈ ks ∨ ∃ d, d < m ∧ y = seg l b (b + d)
  | 0 => ⟨.inl, fun h => h.elim id fun ⟨_, h, _⟩ => absurd h (Nat.not_lt_zero _)⟩
  | m + 1 => by
    show y ∈ insK (parE l b ks m) (seg l b (b + m)) ↔ _
    rw [mem_ins, mem_parE]
    constructor
    · rintro ((h | ⟨d, h1, h2⟩) | h)
      · exact .inl h
      · exact .inr ⟨d, by omega, h2⟩
      · exact .inr ⟨m, by omega, h⟩
    · rintro (h | ⟨d, h1, h2⟩)
      · exact .inl (.inl h)
      · by_cases e : d = m
        · subst e
          exact .inr h2
        · exact .inl (.inr ⟨d, by omega, h2⟩)
theorem mem_parB {l y : List Nat} : ∀ {n : Nat}, y ∈ parB l n ↔ ∃ b d, b < n ∧ d < l.length + 1 - b ∧ y = seg l b (b + d)
  | 0 => ⟨fun h => absurd h (by simp [parB]), fun ⟨_, _, h, _⟩ => absurd h (Nat.not_lt_zero _)⟩
  | n + 1 => by
    show y ∈ parE l n (parB l n) (l.length + 1 - n) ↔ _
    rw [mem_parE, mem_parB]
    constructor
    · rintro (⟨b, d, h1, h2, h3⟩ | ⟨d, h1, h2⟩)
      · exact ⟨b, d, by omega, h2, h3⟩
      · exact ⟨n, d, by omega, h1, h2⟩
    · rintro ⟨b, d, h1, h2, h3⟩
      by_cases e : b = n
      · subst e
        exact .inr ⟨d, h2, h3⟩
      · exact .inl ⟨b, d, by omega, h2, h3⟩
theorem parE_len (l : List Nat) (b : Nat) (ks : List (List Nat)) : ∀ m, (parE l b ks m).length ≤ ks.length + m
  | 0 => Nat.le_refl _
  | m + 1 => by
    have ih := parE_len l b ks m
    have := ins_len (parE l b ks m) (seg l b (b + m))
    show (insK (parE l b ks m) (seg l b (b + m))).length ≤ _
    omega
theorem parB_len (l : List Nat) : ∀ b, (parB l b).length ≤ b * (l.length + 1)
  | 0 => Nat.zero_le _
  | b + 1 => by
    have ih := parB_len l b
    have h := parE_len l b (parB l b) (l.length + 1 - b)
    show (parE l b (parB l b) (l.length + 1 - b)).length ≤ _
    rw [Nat.succ_mul]
    omega
/-- no long palindrome among the parts -/
theorem long_parts {l : List Nat} {least : Nat} : ((parB l (l.length + 1)).filter fun y => decide (least ≤ y.length) && pal y) = [] ↔ hasLong least l = false := by
  rw [List.filter_eq_nil_iff]
  unfold hasLong
  rw [List.any_eq_false]
  constructor
  · intro h b hb
    have hb := List.mem_range.mp hb
    simp only [List.any_eq_true, List.mem_range, not_exists, not_and]
    intro d hd hq
    rw [Bool.and_eq_true, decide_eq_true_eq] at hq
    refine h (seg l b (b + d)) (mem_parB.mpr ⟨b, d, hb, by omega, rfl⟩) ?_
    rw [Bool.and_eq_true, decide_eq_true_eq, seg_len]
    exact ⟨by omega, hq.2⟩
  · intro h y hy hq
    obtain ⟨b, d, h1, h2, rfl⟩ := mem_parB.mp hy
    have h3 := h b (List.mem_range.mpr h1)
    simp only [List.any_eq_true, List.mem_range, not_exists, not_and] at h3
    rw [Bool.and_eq_true, decide_eq_true_eq, seg_len] at hq
    exact h3 d (by omega) (by rw [Bool.and_eq_true, decide_eq_true_eq]; exact ⟨by omega, hq.2⟩)
section
variable {P : Program} {w : World} {K : PySem.W.Frag} {mg : Str → Option Value} {base : Heap}
theorem sc28 : FnScope ["_law_size", "_law_length", "_law_found", "_law_turn", "_law_longer", "_law_word_here", "_law_sign"] ["_law_size", "_law_length"] (defScope (top 28)) := ⟨rfl, rfl, rfl, by decide +kernel, rfl, by decide +kernel, by decide +kernel⟩
def spAll : Sp := fun vs H Q _ => ∃ (sz n : Nat), vs = [.int (sz : Int), .int (n : Int)] ∧ 1 ≤ sz ∧ sz ≤ 6 ∧ n ≤ 40 ∧ sz ^ n ≤ 2000 ∧ ∀ H' D, Same H H' → H D = none → H' D = some (.lst (vS (allL sz n))) → Q (.ref D) H'
theorem ok_all {f : Addr} {fd : FuncData} (F : FnP K "_law_all" 28 f fd) (G : Glob mg) : FnOk P w K mg base CX0 1 f fd ["_law_size", "_law_length"] spAll := by
  refine F.ok sc28 (fun vs H Q E h => ?_) (fun cdv A outer s H vs Q E hr h => ?_)
  · obtain ⟨sz, n, rfl, _⟩ := h
    rfl
  · obtain ⟨sz, n, rfl, h1, h6, h40, hp, q⟩ := h
    refine ⟨_, PSs.nox (pss_cons (ps_set (i := 2) sc28.nd rfl (.inl rfl) (pe_lst (pa_cons pe_str pa_nil)))
      (pss_cons (ps_for PassesOwn.never rfl (pi_range1 (by rfl) G.range (pa_cons (pv 1) pa_nil)) (pg_name (i := 3) sc28.nd rfl (.inl rfl))
        (pss_cons (ps_set (i := 4) sc28.nd rfl (.inl rfl) (pe_lst pa_nil))
        (pss_cons (ps_for PassesOwn.never rfl (pi_list (pv 2)) (pg_name (i := 5) sc28.nd rfl (.inr rfl))
          (pss_one (ps_set (i := 4) sc28.nd rfl (.inl rfl) (pe_op op_cat (pv 4)
            (pe_lc (own := [("_law_sign", 6)]) (g := gName 6) (by rfl) sc28.nd (pi_str (pe_slice sl_str pe_str po_none (po_some (pv 0))))
              (blkOk_by (own := [("_law_sign", 6)]) (N := ["_law_size", "_law_length", "_law_found", "_law_turn", "_law_longer", "_law_word_here", "_law_sign"]) (sc := defScope (top 28)) (by decide +kernel))
              (fun _ _ _ _ _ => pg_name (i := 6) sc28.nd rfl (Or.inl rfl)) (fun _ _ _ _ _ => pts_nil) (fun _ _ _ _ _ => pe_op op_add_str (pv 5) (pv 6)))))))
        (pss_one (ps_set (i := 2) sc28.nd rfl (.inl rfl) (pv 4))))))
      (pss_one (ps_ret (pv 2))))), ?_⟩
    have ln := line2000
    have line : 2000 * 6 < sizeLine := by rw [sizeLine_eq]; decide
    refine ⟨by show 1 ≤ sizeLine; omega, fun D0 hD0 => ?_⟩
    refine ⟨.int n, rfl, n, rfl, by omega, by omega, ?_⟩
    refine for_it (walk_range (lo := 0) (n := (n : Int).toNat)) (fun i σ H' => Same H H' ∧ ∃ D y3 y4 y5, H D = none ∧ H' D = some (.lst (vS (allL sz i))) ∧ σ = [some (.int sz), some (.int n), some (.ref D), y3, y4, y5, none])
      ⟨same_upd hD0, D0, none, none, none, hD0, by rw [upd_same] <;> rfl, rfl⟩ (fun _ _ _ _ _ => True.intro) (fun i x σ H1 H2 hi hP hY => ?_) (fun σ H' hP => ?_)
    · obtain ⟨e, rfl⟩ := hY
      subst e
      obtain ⟨sm, D, y3, y4, y5, hD, hd, rfl⟩ := hP
      have hi : i < n := by omega
      have hpi : sz ^ (i + 1) ≤ 2000 := Nat.le_trans (pow_mono h1 hi) hp
      have hw := allL_words sz i
      refine ⟨by show 0 ≤ sizeLine; omega, fun L0 hL0 => ?_⟩
      have smL : Same H2 (upd H2 L0 (.lst [])) := same_upd hL0
      refine ⟨.ref D, rfl, D, rfl, ⟨_, .inl (.inl (smL _ _ hd))⟩, ?_⟩
      refine for_it (walk_list (xs := vS (allL sz i))) (fun j σ H' => Same H2 H' ∧ ∃ L y5, H2 L = none ∧ H' L = some (.lst (vS (((allL sz i).take j).flatMap fun w => (letters sz).map fun c => w ++ [c]))) ∧ σ = [some (.int sz), some (.int n), some (.ref D), some (.int (0 + ((i : Nat) : Int))), some (.ref L), y5, none])
        ⟨smL, L0, y5, hL0, by rw [upd_same] <;> rfl, rfl⟩ (fun j σ H' _ hP => .inl (.inl (hP.1 _ _ hd))) (fun j x σ H3 H4 hj hP hY => ?_) (fun σ H' hP => ?_)
      · obtain ⟨e, hx⟩ := hY
        subst e
        obtain ⟨sm3, L, y5, hL, hl, rfl⟩ := hP
        rw [vS_get] at hx
        obtain ⟨wd, hwd⟩ : ∃ wd, (allL sz i)[j]? = some wd := by
          cases e : (allL sz i)[j]? with
          | none => rw [e] at hx; cases hx
          | some wd => exact ⟨wd, rfl⟩
        rw [hwd] at hx
        have ex : x = V.str (S wd) := (Option.some.inj hx).symm
        subst ex
        have hwl := (hw wd (List.mem_of_getElem? hwd)).1
        have hls := letters_len h6
        refine ⟨.ref L, rfl, .int sz, rfl, sz, rfl, ABF, rfl, line_abf, S (letters sz), by rw [abf_cut h6], fun C hC => ?_⟩
        have hsz : (S (letters sz)).cps.size = sz := (S_len (letters sz)).trans hls
        refine lc_it (walk_str (z := S (letters sz))) (fun k H' => Same H4 H' ∧ H' C = some (.lst (vS (((letters sz).take k).map fun c => wd ++ [c])))) ⟨same_upd hC, by rw [upd_same] <;> rfl⟩ (fun _ _ _ _ => True.intro) (fun k x H5 H6 hk hP hY => ?_) (fun H5 hP => ?_)
        · obtain ⟨e, c, hc, rfl⟩ := hY
          subst e
          have hc2 : (letters sz)[k]? = some c := by
            have h2 : (S (letters sz)).cps.toList[k]? = some c := by rw [Array.getElem?_toList]; exact hc
            rw [S_list] at h2
            exact h2
          refine ⟨rfl, .str (S wd), rfl, .str (S [c]), rfl, S wd, S [c], rfl, rfl, by rw [S_len, S_len]; show wd.length + 1 ≤ _; omega, _, hP.2, ?_, same_set hP.1 hC, ?_⟩
          · rw [vS_len, List.length_map, List.length_take]
            omega
          · rw [upd_same, S_app, take_more hc2, List.map_append, vS_app] <;> rfl
        · obtain ⟨sm5, hc5⟩ := hP
          rw [hsz, List.take_of_length_le (Nat.le_of_eq hls)] at hc5
          have ef : ((allL sz i).take (j + 1)).flatMap (fun w => (letters sz).map fun c => w ++ [c]) = (((allL sz i).take j).flatMap fun w => (letters sz).map fun c => w ++ [c]) ++ (letters sz).map fun c => wd ++ [c] := by
            rw [take_more hwd, List.flatMap_append]
            simp
          have hlen : (((allL sz i).take (j + 1)).flatMap fun w => (letters sz).map fun c => w ++ [c]).length ≤ 2000 := by
            have e1 : (((allL sz i).take (j + 1)).flatMap fun w => (letters sz).map fun c => w ++ [c]) ++ (((allL sz i).drop (j + 1)).flatMap fun w => (letters sz).map fun c => w ++ [c]) = allL sz (i + 1) := by
              rw [← List.flatMap_append, List.take_append_drop] <;> rfl
            have e2 := congrArg List.length e1
            rw [List.length_append, allL_len h6] at e2
            omega
          refine ⟨L, C, _, _, rfl, rfl, sm5 _ _ hl, hc5, ?_, fun L2 hL2 => ?_⟩
          · rw [← List.length_append, ← vS_app, ← ef, vS_len]
            omega
          · refine ⟨same_set (sm3.trans sm5) ((sm3.trans sm5).free hL2), L2, _, (sm3.trans sm5).free hL2, ?_, rfl⟩
            rw [upd_same, ← vS_app, ← ef]
      · obtain ⟨sm3, L, y5, hL, hl, rfl⟩ := hP
        rw [vS_len, List.take_length] at hl
        exact ⟨.ref L, rfl, sm.trans sm3, L, _, _, _, sm.free hL, hl, rfl⟩
    · obtain ⟨sm, D, y3, y4, y5, hD, hd, rfl⟩ := hP
      refine ⟨.ref D, rfl, q H' D sm hD ?_⟩
      rw [hd, show (n : Int).toNat = n by omega]
theorem sc29 : FnScope ["_law_word_here", "_law_found", "_law_begin", "_law_end"] ["_law_word_here"] (defScope (top 29)) := ⟨rfl, rfl, rfl, by decide +kernel, rfl, by decide +kernel, by decide +kernel⟩
def spParts : Sp := fun vs H Q _ => ∃ l, vs = [.str (S l)] ∧ l.length ≤ 40 ∧ ∀ H' p, Same H H' → H p = none → H' p = some (.lst (vS (parB l (l.length + 1)))) → Q (.ref p) H'
theorem ok_parts {f : Addr} {fd : FuncData} (F : FnP K "_law_parts" 29 f fd) (G : Glob mg) : FnOk P w K mg base CX0 1 f fd ["_law_word_here"] spParts := by
  refine F.ok sc29 (fun vs H Q E h => ?_) (fun cdv A outer s H vs Q E hr h => ?_)
  · obtain ⟨l, rfl, _⟩ := h
    rfl
  · obtain ⟨l, rfl, h40, q⟩ := h
    have ln := line2000
    have hl : (S l).length ≤ sizeLine := by rw [S_len]; omega
    refine ⟨_, PSs.nox (pss_cons (ps_set (i := 1) sc29.nd rfl (.inl rfl) pe_dnewK)
      (pss_cons (ps_for PassesOwn.never rfl (pi_range1 (by rfl) G.range (pa_cons (pe_op op_add (pe_callB call_len_str (by rfl) G.len PySem.boot_len (pa_cons (pv 0) pa_nil)) pe_int) pa_nil)) (pg_name (i := 2) sc29.nd rfl (.inl rfl))
        (pss_one (ps_for PassesOwn.never rfl (pi_range2 (by rfl) G.range (pa_cons (pv 2) (pa_cons (pe_op op_add (pe_callB call_len_str (by rfl) G.len PySem.boot_len (pa_cons (pv 0) pa_nil)) pe_int) pa_nil))) (pg_name (i := 3) sc29.nd rfl (.inl rfl))
          (pss_one (ps_dput (hu_of hr) (pv 1) (pe_slice sl_str (pv 0) (po_some (pv 2)) (po_some (pv 3))) pe_bl rfl)))))
      (pss_one (ps_ret (pe_callTy (call_list_dK rfl) (by rfl) G.list bList (pa_cons (pv 1) pa_nil)))))), ?_⟩
    refine fun o ho => ?_
    refine ⟨.str (S l), rfl, S l, rfl, hl, (S l).length, 1, rfl, rfl, (S l).length + 1, rfl, by omega, by rw [S_len]; omega, ?_⟩
    rw [S_len]
    refine for_it (walk_range (lo := 0) (n := ((l.length : Int) + 1).toNat)) (fun i σ H' => Same H H' ∧ H' o = some (.dK (kk (parB l i))) ∧ ∃ y2 y3, σ = [some (.str (S l)), some (.ref o), y2, y3])
      ⟨same_upd ho, upd_same, none, none, rfl⟩ (fun _ _ _ _ _ => True.intro) (fun i x σ H1 H2 hi hP hY => ?_) (fun σ H' hP => ?_)
    · obtain ⟨e, ex⟩ := hY
      subst e
      obtain ⟨sm, hd, y2, y3, rfl⟩ := hP
      have hi : i < l.length + 1 := by omega
      have ex2 : x = V.int ((i : Nat) : Int) := ex.trans (congrArg V.int (by omega))
      subst ex2
      refine ⟨.int ((i : Nat) : Int), rfl, .str (S l), rfl, S l, rfl, hl, (S l).length, 1, rfl, rfl, (i : Nat), (S l).length + 1, rfl, ⟨by omega, by omega, by rw [S_len]; omega, by rw [S_len]; omega⟩, ?_⟩
      rw [S_len, show ((l.length : Int) + 1 - ((i : Nat) : Int)).toNat = l.length + 1 - i by omega]
      refine for_it (walk_range (lo := ((i : Nat) : Int)) (n := l.length + 1 - i)) (fun j σ H' => Same H H' ∧ H' o = some (.dK (kk (parE l i (parB l i) j))) ∧ ∃ y3, σ = [some (.str (S l)), some (.ref o), some (.int (i : Nat)), y3])
        ⟨sm, hd, y3, rfl⟩ (fun _ _ _ _ _ => True.intro) (fun j x σ H3 H4 hj hP hY => ?_) (fun σ H' hP => ?_)
      · obtain ⟨e, rfl⟩ := hY
        subst e
        obtain ⟨sm, hd, y3, rfl⟩ := hP
        have ee : ((i : Nat) : Int) + ((j : Nat) : Int) = ((i + j : Nat) : Int) := by omega
        refine ⟨.ref o, rfl, .str (S l), rfl, .int (i : Nat), rfl, (i : Nat), rfl, .int (((i : Nat) : Int) + ((j : Nat) : Int)), rfl, _, rfl, S l, rfl, hl, ?_⟩
        rw [ee, cut_seg]
        have hlen : (kk (parE l i (parB l i) j)).length < sizeLine := by
          rw [kk_len]
          have h1 := parE_len l i (parB l i) j
          have h2 := parB_len l i
          have h3 : i * (l.length + 1) ≤ 41 * 41 := Nat.mul_le_mul (by omega) (by omega)
          omega
        refine ⟨o, _, rfl, DPut.k (k := Sum.inr (S (seg l i (i + j)))) hd hlen, ?_⟩
        rw [kk_put]
        refine ⟨fun b x q => ?_, upd_same, some (.int ((i + j : Nat) : Int)), ?_⟩
        · rw [upd_ne (ne_of_none q ho)]
          exact sm b x q
        · rw [← ee] <;> rfl
      · obtain ⟨sm, hd, y3, rfl⟩ := hP
        exact ⟨sm, hd, _, _, rfl⟩
    · obtain ⟨sm, hd, y2, y3, rfl⟩ := hP
      rw [show ((l.length : Int) + 1).toNat = l.length + 1 by omega] at hd
      refine ⟨.ref o, rfl, o, _, rfl, hd, fun p hp => ?_⟩
      refine q _ p (same_set sm (sm.free hp)) (sm.free hp) ?_
      rw [upd_same]
      refine congrArg (fun z => some (HO.lst z)) ?_
      unfold kk vS
      rw [List.map_map]
      rfl
end
end Aw
/-! The law's helper _law_alike, of two equal lists of texts. -/
namespace Aw
open PySem PySem.Spec PyProof.Rows L2
theorem ty_list {K : PySem.W.Frag} {H : Hp} {a : Addr} {xs : List V} (h : SqL K H a xs) : TyX K H (.ref a) (.type "list") := by
  rcases h with (h | ⟨o, h⟩) | ⟨ob, its, n, h1, h2, _⟩
  · exact .base (.lst h)
  · exact .base (.frz h)
  · exact .kList h1 h2
theorem kit_sl {K : PySem.W.Frag} {a b c : String} {r s : Bool} (h1 : kitB a b = some r) (h2 : kitB a c = some s) : PySem.W.kitAny K (.type a) [.type b, .type c] = some (r || s) :=
  kitAny_cons (kit_ty h1) (fun e => by subst e; exact kitAny_cons (kit_ty h2) (fun e => by subst e; exact kitAny_nil) (fun e => by subst e; rfl)) (fun e => by subst e; rfl)
section
variable {P : Program} {w : World} {K : PySem.W.Frag} {mg : Str → Option Value} {base : Heap}
theorem sc26 : FnScope ["_law_found", "_law_due", "_law_k"] ["_law_found", "_law_due"] (defScope (top 26)) := ⟨rfl, rfl, rfl, by decide +kernel, rfl, by decide +kernel, by decide +kernel⟩
def spAlS : Sp := fun vs H Q _ => ∃ x : Str, vs = [.str x, .str x] ∧ ∀ H', Same H H' → Q (.bl true) H'
theorem ok_alS {f : Addr} {fd : FuncData} (F : FnP K "_law_alike" 26 f fd) (G : Glob mg) : FnOk P w K mg base CX0 1 f fd ["_law_found", "_law_due"] spAlS := by
  refine F.ok sc26 (fun vs H Q E h => ?_) (fun cdv A outer s H vs Q E hr h => ?_)
  · obtain ⟨x, rfl, _⟩ := h
    rfl
  · obtain ⟨x, rfl, q⟩ := h
    refine ⟨_, PSs.nox (pss_cons (ps_if (pt_val (pe_callB call_isiT (by rfl) G.isinstance bIsi (pa_cons (pv 1) (pa_cons (pe_tup (pa_cons (pe_bltn (v := .ty "tuple") (by rfl) G.tuple bTuple rfl) (pa_cons (pe_bltn (v := .ty "list") (by rfl) G.list bList rfl) pa_nil))) pa_nil)))) pss_never pss_nil)
      (pss_cons (ps_if (PW.pt (pw_or (pt_cmp (pc_isN (pv 1))) (pw_or1 (pt_val (pe_callB call_isi (by rfl) G.isinstance bIsi (pa_cons (pv 1) (pa_cons (pe_bltn (v := .ty "str") (by rfl) G.str bStr rfl) pa_nil)))))))
        (pss_one (ps_ret (pe_and (pe_cmpR op_eq (pv 0) (pv 1) (nomark _)) (pe_one (pe_cmpR op_eq (pe_callB call_isi (by rfl) G.isinstance bIsi (pa_cons (pv 0) (pa_cons (pe_bltn (v := .ty "str") (by rfl) G.str bStr rfl) pa_nil)))
          (pe_callB call_isi (by rfl) G.isinstance bIsi (pa_cons (pv 1) (pa_cons (pe_bltn (v := .ty "str") (by rfl) G.str bStr rfl) pa_nil))) (nomark _)))))) pss_nil)
      (pss_one ps_never))), ?_⟩
    refine ⟨.str x, rfl, by show 2 ≤ sizeLine; rw [sizeLine_eq]; decide, fun T hT => ?_⟩
    refine ⟨.str x, T, [.ty "tuple", .ty "list"], .type "str", [.type "tuple", .type "list"], false || false, rfl, upd_same, .cons (.ty _) (.cons (.ty _) .nil), .base (.str x), kit_sl (by decide +kernel) (by decide +kernel), false, rfl, iteF ?_⟩
    refine ⟨.str x, rfl, _, rfl, ?_⟩
    refine ⟨.str x, rfl, .str x, .ty "str", .type "str", .type "str", true, rfl, .ty _, .base (.str x), kit_ty (by decide +kernel), true, rfl, ?_⟩
    refine ⟨.str x, rfl, .str x, rfl, rfl, true, congrArg V.bl (decide_eq_true rfl), iteT ?_⟩
    refine ⟨.str x, rfl, .str x, .ty "str", .type "str", .type "str", true, rfl, .ty _, .base (.str x), kit_ty (by decide +kernel), .str x, rfl, .str x, .ty "str", .type "str", .type "str", true, rfl, .ty _, .base (.str x), kit_ty (by decide +kernel), rfl, ?_⟩
    exact q _ (same_upd hT)
def spAlL (K : PySem.W.Frag) : Sp := fun vs H Q _ => ∃ (a b : Addr) (ws : List (List Nat)), vs = [.ref a, .ref b] ∧ SqL K H a (vS ws) ∧ SqL K H b (vS ws) ∧ ws.length ≤ 2000 ∧ ∀ H', Same H H' → Q (.bl true) H'
theorem ok_alL {f : Addr} {fd : FuncData} (F : FnP K "_law_alike" 26 f fd) (gA : mg "_law_alike" = some (.ref f)) (G : Glob mg) : FnOk P w K mg base CX0 2 f fd ["_law_found", "_law_due"] (spAlL K) := by
  have GA : FnOk P w K mg base CX0 1 f fd ["_law_found", "_law_due"] spAlS := ok_alS F G
  have bA : Binds K fd ["_law_found", "_law_due"] [] := F.bindsN fun _ _ _ _ _ _ us hl => match us, hl with | [_, _], _ => rfl
  refine F.ok sc26 (fun vs H Q E h => ?_) (fun cdv A outer s H vs Q E hr h => ?_)
  · obtain ⟨a, b, ws, rfl, _⟩ := h
    rfl
  · obtain ⟨a, b, ws, rfl, ha, hb, hn, q⟩ := h
    have ln := line2000
    refine ⟨_, PSs.nox (pss_cons (ps_if (pt_val (pe_callB call_isiT (by rfl) G.isinstance bIsi (pa_cons (pv 1) (pa_cons (pe_tup (pa_cons (pe_bltn (v := .ty "tuple") (by rfl) G.tuple bTuple rfl) (pa_cons (pe_bltn (v := .ty "list") (by rfl) G.list bList rfl) pa_nil))) pa_nil))))
        (pss_cons (ps_if (PW.pt (pw_or (pt_not (pt_val (pe_callB call_isiT (by rfl) G.isinstance bIsi (pa_cons (pv 0) (pa_cons (pe_tup (pa_cons (pe_bltn (v := .ty "tuple") (by rfl) G.tuple bTuple rfl) (pa_cons (pe_bltn (v := .ty "list") (by rfl) G.list bList rfl) pa_nil))) pa_nil)))))
            (pw_or1 (pt_cmpR op_ne (pe_callB call_isi (by rfl) G.isinstance bIsi (pa_cons (pv 0) (pa_cons (pe_bltn (v := .ty "list") (by rfl) G.list bList rfl) pa_nil)))
              (pe_callB call_isi (by rfl) G.isinstance bIsi (pa_cons (pv 1) (pa_cons (pe_bltn (v := .ty "list") (by rfl) G.list bList rfl) pa_nil))) (nomark _))))) pss_never pss_nil)
        (pss_cons (ps_if (pt_cmpR op_ne (pe_callB call_len_seq (by rfl) G.len PySem.boot_len (pa_cons (pv 0) pa_nil)) (pe_callB call_len_seq (by rfl) G.len PySem.boot_len (pa_cons (pv 1) pa_nil)) (nomark _)) pss_never pss_nil)
        (pss_one (ps_ret (pe_cmpR (op_eqD hr.units) (pe_lc (own := [("_law_k", 2)]) (g := gName 2) (by rfl) sc26.nd (pi_range1 (by rfl) G.range (pa_cons (pe_callB call_len_seq (by rfl) G.len PySem.boot_len (pa_cons (pv 1) pa_nil)) pa_nil))
            (blkOk_by (own := [("_law_k", 2)]) (N := ["_law_found", "_law_due", "_law_k"]) (sc := defScope (top 26)) (by decide +kernel)) (fun _ _ _ _ _ => pg_name (i := 2) sc26.nd rfl (Or.inl rfl))
            (fun _ _ _ _ _ => pts_one (pt_not (pt_val (pe_call GA hr (by rfl) gA F.kp bA .nil pass0 (pa_cons (pe_ix (r := rIxL K) ix_list (pv 0) (pv 2) (fun _ _ => rfl)) (pa_cons (pe_ix (r := rIxL K) ix_list (pv 1) (pv 2) (fun _ _ => rfl)) pa_nil))))))
            (fun _ _ _ _ _ => pv 2)) (pe_lst pa_nil) (nomark _)))))) pss_nil)
      pss_never), ?_⟩
    refine ⟨.ref b, rfl, by show 2 ≤ sizeLine; omega, fun T hT => ?_⟩
    have sm1 : Same H (upd H T (.tup [.ty "tuple", .ty "list"])) := same_upd hT
    refine ⟨.ref b, T, [.ty "tuple", .ty "list"], .type "list", [.type "tuple", .type "list"], false || true, rfl, upd_same, .cons (.ty _) (.cons (.ty _) .nil), ty_list (sm1.seq hb), kit_sl (by decide +kernel) (by decide +kernel), true, rfl, iteT ?_⟩
    refine ⟨.ref a, rfl, by show 2 ≤ sizeLine; omega, fun T2 hT2 => ?_⟩
    have sm2 : Same H (upd (upd H T (.tup [.ty "tuple", .ty "list"])) T2 (.tup [.ty "tuple", .ty "list"])) := same_set sm1 (sm1.free hT2)
    have hT3 : (upd (upd H T (.tup [.ty "tuple", .ty "list"])) T2 (.tup [.ty "tuple", .ty "list"])) T2 = some (.tup [.ty "tuple", .ty "list"]) := upd_same
    refine ⟨.ref a, T2, [.ty "tuple", .ty "list"], .type "list", [.type "tuple", .type "list"], false || true, rfl, hT3, .cons (.ty _) (.cons (.ty _) .nil), ty_list (sm2.seq ha), kit_sl (by decide +kernel) (by decide +kernel), true, rfl, ?_⟩
    refine ⟨.ref a, rfl, .ref a, .ty "list", .type "list", .type "list", true, rfl, .ty _, ty_list (sm2.seq ha), kit_ty (by decide +kernel), .ref b, rfl, .ref b, .ty "list", .type "list", .type "list", true, rfl, .ty _, ty_list (sm2.seq hb), kit_ty (by decide +kernel), ?_⟩
    refine ⟨rfl, false, congrArg V.bl (by simp), iteF ?_⟩
    refine ⟨.ref a, rfl, a, _, rfl, .inl (sm2.seq ha), .ref b, rfl, b, _, rfl, .inl (sm2.seq hb), rfl, false, congrArg V.bl (by simp), iteF ?_⟩
    refine ⟨.ref b, rfl, b, _, rfl, .inl (sm2.seq hb), (vS ws).length, rfl, by omega, by rw [vS_len]; omega, fun C hC => ?_⟩
    refine lc_it (walk_range (lo := 0) (n := (((vS ws).length : Nat) : Int).toNat)) (fun k H' => Same (upd (upd H T (.tup [.ty "tuple", .ty "list"])) T2 (.tup [.ty "tuple", .ty "list"])) H' ∧ H' C = some (.lst [])) ⟨same_upd hC, by rw [upd_same] <;> rfl⟩ (fun _ _ _ _ => True.intro) (fun k x H5 H6 hk hP hY => ?_) (fun H5 hP => ?_)
    · obtain ⟨e, rfl⟩ := hY
      subst e
      have sm3 := sm2.trans hP.1
      rw [vS_len] at hk
      have hk : k < ws.length := by omega
      have hat : atI (vS ws) (0 + ((k : Nat) : Int)) = some (.str (S ws[k])) := by
        rw [show (0 : Int) + ((k : Nat) : Int) = ((k : Nat) : Int) by omega]
        exact atI_nat (by rw [vS_get, List.getElem?_eq_getElem hk] <;> rfl)
      refine ⟨rfl, .ref a, rfl, .int (0 + ((k : Nat) : Int)), rfl, a, _, 0 + ((k : Nat) : Int), _, rfl, rfl, sm3.seq ha, hat, ?_⟩
      refine ⟨.ref b, rfl, .int (0 + ((k : Nat) : Int)), rfl, b, _, 0 + ((k : Nat) : Int), _, rfl, rfl, sm3.seq hb, hat, ?_⟩
      refine ⟨S ws[k], rfl, fun H7 sm7 => ⟨true, rfl, ?_⟩⟩
      exact ⟨hP.1.trans sm7, sm7 _ _ hP.2⟩
    · obtain ⟨sm3, hc⟩ := hP
      refine ⟨by show 0 ≤ sizeLine; omega, fun D hD => ?_⟩
      have sm4 := same_set (o := .lst []) (sm2.trans sm3) ((sm2.trans sm3).free hD)
      refine ⟨.list [], .list [], Dp.lst ?_ .nil, Dp.lst ?_ .nil, rfl, rfl, q _ sm4⟩
      · exact .inl (.inl (by rw [upd_ne (ne_of_none hc hD)]; exact hc))
      · exact .inl (.inl upd_same)
end
end Aw
/-! What the law's own lines need: the heap, data compared, the rows. -/
namespace Aw
open PySem PySem.Spec PyProof.Rows L2 LamX
theorem but_upd {H : Hp} {D : Addr} {o : HO} : But D H (upd H D o) := fun b x n e => by
  rw [upd_ne n]
  exact e
theorem tabs_but {T : List (Addr × Str)} {H H' : Hp} {D : Addr} {ys : List V} (h : Tabs T H) (hD : H D = some (.lst ys)) (b : But D H H') : Tabs T H' := fun p hp => by
  obtain ⟨ps, h1, h2, h3⟩ := h p hp
  refine ⟨ps, b _ _ (fun e => by rw [e, hD] at h1; cases h1) h1, h2, fun pos cv hc => ?_⟩
  obtain ⟨c, e1, e2⟩ := h3 pos cv hc
  exact ⟨c, e1, b _ _ (fun e => by rw [e, hD] at e2; cases e2) e2⟩
theorem tabs_put {T : List (Addr × Str)} {H : Hp} {D : Addr} {ys : List V} {o : HO} (h : Tabs T H) (hD : H D = some (.lst ys)) : Tabs T (upd H D o) := tabs_but h hD but_upd
theorem RowAt.extN {K : PySem.W.Frag} {H H' : Hp} {r scr : Addr} {ns : List Int} (h : RowAt K H r scr ns) (e : ExtN H H') : RowAt K H' r scr ns := by
  obtain ⟨i, st, rest, h1, h2, h3⟩ := h
  refine ⟨i, st, rest, e _ _ h1 (fun ps z => by cases z), ?_, h3⟩
  rcases h2 with (h2 | ⟨o, h2⟩) | h2
  · exact .inl (.inl (e _ _ h2 (fun ps z => by cases z)))
  · exact .inl (.inr ⟨o, e _ _ h2 (fun ps z => by cases z)⟩)
  · exact .inr h2
/-- the row of draws and the tables stand -/
structure Lw (K : PySem.W.Frag) (H : Hp) (r scr : Addr) (ns : List Int) (Pt : Addr) : Prop where
  row : RowAt K H r scr ns
  tabs : Tabs (TT1 Pt) H
theorem Lw.same {K : PySem.W.Frag} {H H' : Hp} {r scr Pt : Addr} {ns : List Int} (h : Lw K H r scr ns Pt) (e : Same H H') : Lw K H' r scr ns Pt := ⟨h.row.same e, h.tabs.ext e⟩
theorem Lw.but {K : PySem.W.Frag} {H H' : Hp} {r scr Pt : Addr} {ns : List Int} (h : Lw K H r scr ns Pt) (e : But r H H') (hr : RowAt K H' r scr ns) : Lw K H' r scr ns Pt := by
  obtain ⟨i, st, rest, h1, _⟩ := id h.row
  exact ⟨hr, tabs_but h.tabs h1 e⟩
theorem Lw.put {K : PySem.W.Frag} {H : Hp} {r scr Pt D : Addr} {ns : List Int} {ys : List V} {o : HO} (h : Lw K H r scr ns Pt) (a : Away K scr ns D ∧ r ≠ D) (hD : H D = some (.lst ys)) : Lw K (upd H D o) r scr ns Pt := ⟨h.row.set a, tabs_put h.tabs hD⟩
theorem Lw.new {K : PySem.W.Frag} {H : Hp} {r scr Pt D : Addr} {ns : List Int} {o : HO} (h : Lw K H r scr ns Pt) (hD : H D = none) : Lw K (upd H D o) r scr ns Pt := h.same (same_upd hD)
/-! ### data -/
theorem lay_all : ∀ {ds : List PyData}, (∀ d ∈ ds, PyData.canLay0 d = true) → PyData.canLayAll0 ds = true
  | [], _ => by simp [PyData.canLayAll0]
  | d :: ds, h => by
    have ih := lay_all (ds := ds) fun e he => h e (List.mem_cons_of_mem _ he)
    have h1 := h d List.mem_cons_self
    simp [PyData.canLayAll0, h1, ih]
theorem depth_all {n : Nat} : ∀ {ds : List PyData}, (∀ d ∈ ds, d.depth ≤ n) → PyData.depthAll ds ≤ n
  | [], _ => by simp [PyData.depthAll]
  | d :: ds, h => by
    have ih := depth_all (ds := ds) fun e he => h e (List.mem_cons_of_mem _ he)
    have h1 := h d List.mem_cons_self
    simp only [PyData.depthAll]
    omega
def Fit (n : Nat) (d : PyData) : Prop := PyData.canLay0 d = true ∧ d.depth ≤ n
theorem fit_int {n : Nat} (i : Int) : Fit n (.int i) := ⟨by simp [PyData.canLay0], by simp [PyData.depth]⟩
theorem fit_tup {n : Nat} {ds : List PyData} (h : ∀ d ∈ ds, Fit n d) : Fit (n + 1) (.tuple ds) := by
  refine ⟨?_, ?_⟩
  · simp only [PyData.canLay0]
    exact lay_all fun d hd => (h d hd).1
  · simp only [PyData.depth]
    have := depth_all fun d hd => (h d hd).2
    omega
theorem fit_ints {n : Nat} (s : List Int) : Fit (n + 1) (.tuple (s.map PyData.int)) := fit_tup fun d hd => by
  obtain ⟨i, _, rfl⟩ := List.mem_map.mp hd
  exact fit_int i
theorem fit_str {n : Nat} {w : List Nat} (h : ∀ c ∈ w, c ≤ 122) : Fit n (.str (S w)) := by
  refine ⟨?_, by simp [PyData.depth]⟩
  simp only [PyData.canLay0]
  show (S w).cps.all (· < 0x110000) = true
  rw [show (S w).cps = w.toArray from rfl]
  simp only [List.all_toArray, List.all_eq_true, decide_eq_true_eq]
  intro c hc
  have := h c hc
  omega
theorem shaped_fit {d : PyData} (h : Fit 64 d) : SeqAt.shaped d = true := by
  unfold SeqAt.shaped
  rw [h.1, decide_eq_true h.2]
  rfl
theorem shaped_list {ds : List PyData} (h : ∀ d ∈ ds, Fit 5 d) : SeqAt.shaped (.list ds) = true := by
  refine shaped_fit ⟨?_, ?_⟩
  · simp only [PyData.canLay0]
    exact lay_all fun d hd => (h d hd).1
  · simp only [PyData.depth]
    have := depth_all fun d hd => (h d hd).2
    omega
theorem shaped_ints (s : List Int) : SeqAt.shaped (.tuple (s.map PyData.int)) = true := by
  have h := fit_ints (n := 5) s
  exact shaped_fit ⟨h.1, Nat.le_trans h.2 (by decide)⟩
theorem eqv_nil (ds : List PyData) : PyData.eqv (.list ds) (.list []) = ds.isEmpty := by
  cases ds <;> simp [PyData.eqv, PyData.eqvAll]
theorem eqv_ints : ∀ s : List Int, PyData.eqvAll (s.map PyData.int) (s.map PyData.int) = true
  | [] => by simp [PyData.eqvAll]
  | i :: s => by
    have ih := eqv_ints s
    simp [PyData.eqvAll, PyData.eqv, ih]
section
variable {K : PySem.W.Frag} {H H' : Hp}
theorem dp_strs : ∀ ws : List (List Nat), DpAll K H (vS ws) (ws.map fun w => PyData.str (S w))
  | [] => .nil
  | _ :: ws => .cons (.str _) (dp_strs ws)
theorem dp_ints : ∀ s : List Int, DpAll K H (s.map V.int) (s.map PyData.int)
  | [] => .nil
  | _ :: s => .cons (.int _) (dp_ints s)
theorem paired_imp {α β : Type} {F G : α → β → Prop} : ∀ {xs : List α} {ys : List β}, Paired F xs ys → (∀ x y, F x y → G x y) → Paired G xs ys
  | _, _, .nil, _ => .nil
  | _, _, .cons r t, h => .cons (h _ _ r) (paired_imp t h)
theorem paired_len {α β : Type} {F : α → β → Prop} : ∀ {xs : List α} {ys : List β}, Paired F xs ys → xs.length = ys.length
  | _, _, .nil => rfl
  | _, _, .cons _ t => by
    show _ + 1 = _ + 1
    rw [paired_len t]
theorem paired_at {α β : Type} {F : α → β → Prop} : ∀ {xs : List α} {ys : List β} {i : Nat} {y : β}, Paired F xs ys → ys[i]? = some y → ∃ x, xs[i]? = some x ∧ F x y
  | _, _, _, _, .nil, e => by simp at e
  | _, _, 0, _, .cons r _, e => by
    simp at e
    subst e
    exact ⟨_, rfl, r⟩
  | _, _, i + 1, y, .cons _ t, e => by
    obtain ⟨u, h1, h2⟩ := paired_at (i := i) (y := y) t (by simpa using e)
    exact ⟨u, by simpa using h1, h2⟩
/-- x holds (sizes, at) -/
def RowI (K : PySem.W.Frag) (H : Hp) (x : V) (p : List Int × Nat) : Prop := ∃ a t, x = .ref a ∧ SqT K H a [.ref t, .int (p.2 : Int)] ∧ SqT K H t (p.1.map V.int)
theorem RowI.same {x : V} {p : List Int × Nat} (h : RowI K H x p) (e : Same H H') : RowI K H' x p := by
  obtain ⟨a, t, e1, h1, h2⟩ := h
  exact ⟨a, t, e1, Same.seqT e h1, Same.seqT e h2⟩
theorem RowI.put {x : V} {p : List Int × Nat} {D : Addr} {ys : List V} {o : HO} (h : RowI K H x p) (hD : H D = some (.lst ys)) : RowI K (upd H D o) x p := by
  obtain ⟨a, t, e1, h1, h2⟩ := h
  exact ⟨a, t, e1, seqT_upd h1 hD, seqT_upd h2 hD⟩
def rowD (p : List Int × Nat) : PyData := .tuple [.tuple (p.1.map PyData.int), .int (p.2 : Int)]
theorem dp_rows : ∀ {xs : List V} {ps : List (List Int × Nat)}, Paired (RowI K H) xs ps → DpAll K H xs (ps.map rowD)
  | _, _, .nil => .nil
  | _, _, .cons ⟨_, _, e, h1, h2⟩ t => by
    subst e
    exact .cons (.tup h1 (.cons (.tup h2 (dp_ints _)) (.cons (.int _) .nil))) (dp_rows t)
theorem dp_done : ∀ {xs : List V} {ds : List (List Int)}, Paired (TupI K H) xs ds → DpAll K H xs (ds.map fun d => PyData.tuple (d.map PyData.int))
  | _, _, .nil => .nil
  | _, _, .cons ⟨_, e, h1⟩ t => by
    subst e
    exact .cons (.tup h1 (dp_ints _)) (dp_done t)
theorem shaped_rows (ps : List (List Int × Nat)) : SeqAt.shaped (.list (ps.map rowD)) = true := shaped_list fun d hd => by
  obtain ⟨p, _, rfl⟩ := List.mem_map.mp hd
  refine fit_tup (n := 4) fun e he => ?_
  rcases List.mem_cons.mp he with rfl | he
  · exact fit_ints (n := 3) _
  · rw [List.mem_singleton.mp he]
    exact fit_int _
theorem shaped_done (ds : List (List Int)) : SeqAt.shaped (.list (ds.map fun d => PyData.tuple (d.map PyData.int))) = true := shaped_list fun d hd => by
  obtain ⟨p, _, rfl⟩ := List.mem_map.mp hd
  exact fit_ints (n := 4) _
theorem shaped_strs {ws : List (List Nat)} (h : ∀ w ∈ ws, ∀ c ∈ w, c ≤ 122) : SeqAt.shaped (.list (ws.map fun w => PyData.str (S w))) = true := shaped_list fun d hd => by
  obtain ⟨w, hw, rfl⟩ := List.mem_map.mp hd
  exact fit_str (h w hw)
end
/-! ### the rows, up to a place -/
def endsTo (l : List Nat) (p : List Int × Nat) (m : Nat) : List (List Int × Nat) :=
  ((List.range m).filter fun d => pal (seg l p.2 (p.2 + 1 + d))).map fun d => (p.1 ++ [((p.2 + 1 + d : Nat) : Int) - (p.2 : Int)], p.2 + 1 + d)
theorem endsTo_more (l : List Nat) (p : List Int × Nat) (m : Nat) : endsTo l p (m + 1) = endsTo l p m ++ if pal (seg l p.2 (p.2 + 1 + m)) = true then [(p.1 ++ [((p.2 + 1 + m : Nat) : Int) - (p.2 : Int)], p.2 + 1 + m)] else [] := by
  unfold endsTo
  rw [List.range_succ, List.filter_append, List.map_append]
  congr 1
  by_cases h : pal (seg l p.2 (p.2 + 1 + m)) = true
  · rw [if_pos h, List.filter_cons_of_pos (by exact h)]
    rfl
  · rw [if_neg h, List.filter_cons_of_neg (by exact h)]
    rfl
theorem endsTo_len (l : List Nat) (p : List Int × Nat) (m : Nat) : (endsTo l p m).length ≤ m := by
  unfold endsTo
  rw [List.length_map]
  refine Nat.le_trans (List.length_filter_le ..) ?_
  rw [List.length_range]
  exact Nat.le_refl _
theorem flat_len {l : List Nat} (hl : l.length ≤ 10) (k i : Nat) : (((rowsF l k).take i).flatMap (ends l)).length ≤ 1024 := by
  have h1 := rows_len hl (k + 1)
  have e : ((rowsF l k).take i).flatMap (ends l) ++ ((rowsF l k).drop i).flatMap (ends l) = rowsF l (k + 1) := by
    rw [← List.flatMap_append, List.take_append_drop]
    rfl
  have e2 := congrArg List.length e
  rw [List.length_append] at e2
  omega
theorem len_ok {sz n : Nat} (h1 : 1 ≤ sz) (h3 : sz ≤ 3) (hn : n < lenOf sz) : sz ^ n ≤ 2000 ∧ n ≤ 12 := by
  have h : sz = 1 ∨ sz = 2 ∨ sz = 3 := by omega
  rcases h with rfl | rfl | rfl
  · have hn : n < 12 := hn
    exact ⟨by rw [Nat.one_pow]; decide, by omega⟩
  · have hn : n < 8 := hn
    exact ⟨Nat.le_trans (Nat.pow_le_pow_right (by decide) (show n ≤ 7 by omega)) (by decide), by omega⟩
  · have hn : n < 6 := hn
    exact ⟨Nat.le_trans (Nat.pow_le_pow_right (by decide) (show n ≤ 5 by omega)) (by decide), by omega⟩
theorem len_at {sz : Nat} (h1 : 1 ≤ sz) (h3 : sz ≤ 3) : atI [V.int 12, V.int 8, V.int 6] ((sz : Int) - 1) = some (.int (lenOf sz)) ∧ 1 ≤ lenOf sz ∧ lenOf sz ≤ 12 := by
  have h : sz = 1 ∨ sz = 2 ∨ sz = 3 := by omega
  rcases h with rfl | rfl | rfl <;> exact ⟨rfl, by decide, by decide⟩
end Aw
/-! The law. -/
namespace Aw
open PySem PySem.Spec PyProof.Rows L2 LamX
def Has (K : PySem.W.Frag) (mg : Str → Option Value) (x : Str) (i : Nat) : Prop := ∃ f fd, FnP K x i f fd ∧ mg x = some (.ref f)
/-- the defs that the law reaches -/
structure Fns (K : PySem.W.Frag) (mg : Str → Option Value) (base : Heap) (Pt : Addr) : Prop where
  h9 : Has K mg "is_int" 9
  h10 : Has K mg "is_in" 10
  h11 : ∃ f fd, FunD K "is_word" "is_word" (defArgs (top 11)) (defBody (top 11)) (defScope (top 11)) [.int 200] [] f fd ∧ mg "is_word" = some (.ref f)
  h12 : Has K mg "need_word" 12
  h13 : Has K mg "need_size" 13
  h17 : ∃ f fd, FnP K "distinct_mirrors" 17 f fd ∧ mg "distinct_mirrors" = some (.ref f) ∧ ∀ (c : Addr), fd.code = .ref c → TabB base mg c Pt
  h18 : Has K mg "defect" 18
  h19 : Has K mg "new_mirror" 19
  h20 : Has K mg "rich_words" 20
  h21 : Has K mg "fewest_mirrors" 21
  h22 : Has K mg "mirror_free" 22
  h23 : Has K mg "ends_plain" 23
  h25 : Has K mg "_law_taken" 25
  h26 : Has K mg "_law_alike" 26
  h27 : Has K mg "_law_word" 27
  h28 : Has K mg "_law_all" 28
  h29 : Has K mg "_law_parts" 29
theorem filter_more {α : Type} {f : α → Bool} {l : List α} {i : Nat} {x : α} (h : l[i]? = some x) : (l.take (i + 1)).filter f = (l.take i).filter f ++ if f x = true then [x] else [] := by
  rw [take_more h, List.filter_append]
  congr 1
  by_cases hq : f x = true
  · rw [if_pos hq, List.filter_cons_of_pos hq] <;> rfl
  · rw [if_neg hq, List.filter_cons_of_neg hq] <;> rfl
abbrev N30 : List Str := ["_law_script", "_law_row", "_law_size", "_law_length", "_law_word_here", "_law_least", "_law_due", "_law_rows", "_law_done", "_law_sizes", "_law_at", "_law_later", "_law_end", "_law_found", "_law_part"]
theorem pcs_short (l : List Nat) : ∀ (s : List Int) (a : Nat), ∀ y ∈ pcs l a s, y.length ≤ l.length
  | [], _, y, h => absurd h (by simp [pcs])
  | x :: s, a, y, h => by
    rcases List.mem_cons.mp (show y ∈ seg l a (a + x.toNat) :: pcs l (a + x.toNat) s from h) with h | h
    · rw [h, seg_len]
      omega
    · exact pcs_short l s _ y h
theorem sum_S : ∀ ps : List (List Nat), ((ps.map S).map (·.length)).sum = ps.flatten.length
  | [] => rfl
  | p :: ps => by
    show (S p).length + ((ps.map S).map (·.length)).sum = (p ++ ps.flatten).length
    rw [sum_S ps, S_len, List.length_append]
theorem cat_in {K : PySem.W.Frag} {H : Hp} {a b : Addr} {xs ys : List V} {Q : VK} (ha : SqT K H a xs) (hb : SqT K H b ys) (hz : xs.length + ys.length ≤ sizeLine) (q : ∀ H' u, Same H H' → SqT K H' u (xs ++ ys) → Q (.ref u) H') : rCatA K (.ref a) (.ref b) H Q :=
  ⟨a, b, xs, ys, rfl, rfl, ha, hb, hz, fun e => q H b (Same.refl _) (by rw [e]; exact hb), fun _ e => q H a (Same.refl _) (by rw [e, List.append_nil]; exact ha), fun _ _ p hp => q _ p (same_upd hp) (.inl (.inl upd_same))⟩
def doneI (l : List Nat) : Nat → List (List Int)
  | 0 => []
  | k + 1 => doneF l k
/-- before turn j of the while loop -/
def WI (K : PySem.W.Frag) (r scr : Addr) (ns : List Int) (Pt : Addr) (l : List Nat) (sz n least : Int) (DD : Addr) (j : Nat) (σ : L2.St) (H : Hp) : Prop := ∃ (R E : Addr) (xs ys : List V) (y9 y10 y11 y12 : Option V),
  Lw K H r scr ns Pt ∧ H R = some (.lst xs) ∧ Paired (RowI K H) xs (rowsF l j) ∧ H E = some (.lst ys) ∧ Paired (TupI K H) ys (doneI l j) ∧ (∀ k, k + 1 < j → doneF l k = []) ∧ j ≤ l.length + 1 ∧
  σ = [some (.ref scr), some (.ref r), some (.int sz), some (.int n), some (.str (S l)), some (.int least), some (.ref DD), some (.ref R), some (.ref E), y9, y10, y11, y12, none, none]
section
variable {P : Program} {w : World} {K : PySem.W.Frag} {mg : Str → Option Value} {base : Heap} {Pt : Addr}
theorem sc30 : FnScope N30 ["_law_script"] (defScope (top 30)) := ⟨rfl, rfl, rfl, by decide +kernel, rfl, by decide +kernel, by decide +kernel⟩
def spLaw (K : PySem.W.Frag) (Pt : Addr) : Sp := fun vs H Q _ => ∃ (scr : Addr) (ns : List Int), vs = [.ref scr] ∧ SqL K H scr (ns.map V.int) ∧ Tabs (TT1 Pt) H ∧ ∀ H', Q (.bl true) H'
theorem ok_law {f : Addr} {fd : FuncData} (F : FnP K "law" 30 f fd) (A : Fns K mg base Pt) (G : Glob mg) : FnOk P w K mg base CX0 5 f fd ["_law_script"] (spLaw K Pt) := by
  obtain ⟨_, _, F9, g9⟩ := A.h9
  obtain ⟨_, _, F10, g10⟩ := A.h10
  obtain ⟨_, _, F11, g11⟩ := A.h11
  obtain ⟨_, _, F12, g12⟩ := A.h12
  obtain ⟨_, _, F13, g13⟩ := A.h13
  obtain ⟨_, _, F17, g17, TB⟩ := A.h17
  obtain ⟨f18, fd18, F18, g18⟩ := A.h18
  obtain ⟨_, _, F19, g19⟩ := A.h19
  obtain ⟨f20, fd20, F20, g20⟩ := A.h20
  obtain ⟨f21, fd21, F21, g21⟩ := A.h21
  obtain ⟨f22, fd22, F22, g22⟩ := A.h22
  obtain ⟨_, _, F23, g23⟩ := A.h23
  obtain ⟨f25, fd25, F25, g25⟩ := A.h25
  obtain ⟨f26, fd26, F26, g26⟩ := A.h26
  obtain ⟨f27, fd27, F27, g27⟩ := A.h27
  obtain ⟨f28, fd28, F28, g28⟩ := A.h28
  obtain ⟨f29, fd29, F29, g29⟩ := A.h29
  have G18 : FnOk P w K mg base CX0 3 f18 fd18 ["word"] (spDefect Pt) := ok_defect F18 F12 F11 F17 g12 g11 g17 G TB
  have b18 : Binds K fd18 ["word"] [] := F18.bindsN fun _ _ _ _ _ _ us hl => match us, hl with | [_], _ => rfl
  have G20 : FnOk P w K mg base CX0 4 f20 fd20 ["size", "length"] spRich := ok_rich F20 F13 F10 F9 F19 g13 g10 g9 g19 G
  have b20 : Binds K fd20 ["size", "length"] [] := F20.bindsN fun _ _ _ _ _ _ us hl => match us, hl with | [_, _], _ => rfl
  have G21 : FnOk P w K mg base CX0 3 f21 fd21 ["word"] spFew := ok_few F21 F12 F11 g12 g11 G
  have b21 : Binds K fd21 ["word"] [] := F21.bindsN fun _ _ _ _ _ _ us hl => match us, hl with | [_], _ => rfl
  have G22 : FnOk P w K mg base CX0 4 f22 fd22 ["size", "length", "least"] spFree := ok_free F22 F13 F10 F9 F23 g13 g10 g9 g23 G
  have b22 : Binds K fd22 ["size", "length", "least"] [] := F22.bindsN fun _ _ _ _ _ _ us hl => match us, hl with | [_, _, _], _ => rfl
  have G25 : FnOk P w K mg base CX0 1 f25 fd25 ["_law_row", "_law_many"] (spTaken K) := ok_taken F25 G
  have b25 : Binds K fd25 ["_law_row", "_law_many"] [] := F25.bindsN fun _ _ _ _ _ _ us hl => match us, hl with | [_, _], _ => rfl
  have G26 : FnOk P w K mg base CX0 2 f26 fd26 ["_law_found", "_law_due"] (spAlL K) := ok_alL F26 g26 G
  have b26 : Binds K fd26 ["_law_found", "_law_due"] [] := F26.bindsN fun _ _ _ _ _ _ us hl => match us, hl with | [_, _], _ => rfl
  have G27 : FnOk P w K mg base CX0 2 f27 fd27 ["_law_row", "_law_size", "_law_least", "_law_most"] (spWord K) := ok_word F27 F25 g25 G
  have b27 : Binds K fd27 ["_law_row", "_law_size", "_law_least", "_law_most"] [] := F27.bindsN fun _ _ _ _ _ _ us hl => match us, hl with | [_, _, _, _], _ => rfl
  have G28 : FnOk P w K mg base CX0 1 f28 fd28 ["_law_size", "_law_length"] spAll := ok_all F28 G
  have b28 : Binds K fd28 ["_law_size", "_law_length"] [] := F28.bindsN fun _ _ _ _ _ _ us hl => match us, hl with | [_, _], _ => rfl
  have G29 : FnOk P w K mg base CX0 1 f29 fd29 ["_law_word_here"] spParts := ok_parts F29 G
  have b29 : Binds K fd29 ["_law_word_here"] [] := F29.bindsN fun _ _ _ _ _ _ us hl => match us, hl with | [_], _ => rfl
  refine F.ok sc30 (fun vs H Q E h => ?_) (fun cdv A outer s H vs Q E hr h => ?_)
  · obtain ⟨scr, ns, rfl, _⟩ := h
    rfl
  · obtain ⟨scr, ns, rfl, hs, hT, q⟩ := h
    have ln := line2000
    refine ⟨_, PSs.nox (pss_cons (ps_set (i := 1) sc30.nd rfl (.inl rfl) (pe_lst (pa_cons (pv 0) (pa_cons pe_int (pa_cons pe_int (pa_cons pe_int pa_nil))))))
      (pss_cons (ps_set (i := 2) sc30.nd rfl (.inl rfl) (pe_op op_add pe_int (pe_call G25 (hr.mono (by decide)) (by rfl) g25 F25.kp b25 .nil pass0 (pa_cons (pv 1) (pa_cons pe_int pa_nil)))))
      (pss_cons (ps_set (i := 3) sc30.nd rfl (.inl rfl) (pe_call G25 (hr.mono (by decide)) (by rfl) g25 F25.kp b25 .nil pass0 (pa_cons (pv 1) (pa_cons (pe_ix ix_list (pe_lst (pa_cons pe_int (pa_cons pe_int (pa_cons pe_int pa_nil)))) (pe_op op_sub (pv 2) pe_int) (fun _ _ => rfl)) pa_nil))))
      (pss_cons (ps_if (pt_not (pt_val (pe_call G26 (hr.mono (by decide)) (by rfl) g26 F26.kp b26 .nil pass0 (pa_cons (pe_call G20 hr (by rfl) g20 F20.kp b20 .nil pass0 (pa_cons (pv 2) (pa_cons (pv 3) pa_nil)))
          (pa_cons (pe_lc (own := [("_law_word_here", 4)]) (g := gName 4) (by rfl) sc30.nd (pi_list (pe_call G28 (hr.mono (by decide)) (by rfl) g28 F28.kp b28 .nil pass0 (pa_cons (pv 2) (pa_cons (pv 3) pa_nil))))
            (blkOk_by (own := [("_law_word_here", 4)]) (N := N30) (sc := defScope (top 30)) (by decide +kernel)) (fun _ _ _ _ _ => pg_name (i := 4) sc30.nd rfl (Or.inl rfl))
            (fun _ _ _ _ _ => pts_one (pt_cmpR op_eq (pe_call G18 (hr.mono (by decide)) (by rfl) g18 F18.kp b18 .nil pass0 (pa_cons (pv 4) pa_nil)) pe_int (nomark _))) (fun _ _ _ _ _ => pv 4)) pa_nil))))) (pss_one (ps_ret pe_bl)) pss_nil)
      (pss_cons (ps_set (i := 5) sc30.nd rfl (.inr rfl) (pe_op op_add pe_int (pe_call G25 (hr.mono (by decide)) (by rfl) g25 F25.kp b25 .nil pass0 (pa_cons (pv 1) (pa_cons pe_int pa_nil)))))
      (pss_cons (ps_set (i := 6) sc30.nd rfl (.inl rfl) (pe_lst pa_nil))
      (pss_cons (ps_for PassesOwn.never rfl (pi_list (pe_call G28 (hr.mono (by decide)) (by rfl) g28 F28.kp b28 .nil pass0 (pa_cons (pv 2) (pa_cons (pv 3) pa_nil)))) (pg_name (i := 4) sc30.nd rfl (.inr rfl))
        (pss_one (ps_if (pt_cmpR (op_eqD hr.units) (pe_lc (own := [("_law_part", 14)]) (g := gName 14) (by rfl) sc30.nd (pi_list (pe_call G29 (hr.mono (by decide)) (by rfl) g29 F29.kp b29 .nil pass0 (pa_cons (pv 4) pa_nil)))
            (blkOk_by (own := [("_law_part", 14)]) (N := N30) (sc := defScope (top 30)) (by decide +kernel)) (fun _ _ _ _ _ => pg_name (i := 14) sc30.nd rfl (Or.inl rfl))
            (fun _ _ _ _ _ => pts_one (PW.pt (pw_and (pt_cmpR op_ge (pe_callB call_len_str (by rfl) G.len PySem.boot_len (pa_cons (pv 14) pa_nil)) (pv 5) (nomark _)) (pw_and1 (pt_cmpR op_eq (pv 14) (pe_revS (pv 14)) (nomark _))))))
            (fun _ _ _ _ _ => pv 14)) (pe_lst pa_nil) (nomark _))
          (pss_one (ps_expr (pe_bm PySem.F.plainAttrs_list PySem.F.slot_list_append PySem.F.type_list_append mt_append (pv 6) (pa_cons (pv 4) pa_nil)))) pss_nil)))
      (pss_cons (ps_if (pt_not (pt_val (pe_call G26 (hr.mono (by decide)) (by rfl) g26 F26.kp b26 .nil pass0 (pa_cons (pe_call G22 hr (by rfl) g22 F22.kp b22 .nil pass0 (pa_cons (pv 2) (pa_cons (pv 3) (pa_cons (pv 5) pa_nil)))) (pa_cons (pv 6) pa_nil))))) (pss_one (ps_ret pe_bl)) pss_nil)
      (pss_cons (ps_set (i := 4) sc30.nd rfl (.inr rfl) (pe_call G27 (hr.mono (by decide)) (by rfl) g27 F27.kp b27 .nil pass0 (pa_cons (pv 1) (pa_cons (pv 2) (pa_cons pe_int (pa_cons pe_int pa_nil))))))
      (pss_cons (ps_set (i := 7) sc30.nd rfl (.inl rfl) (pe_lst (pa_cons (pe_tup (pa_cons (pe_tup pa_nil) (pa_cons pe_int pa_nil))) pa_nil)))
      (pss_cons (ps_set (i := 8) sc30.nd rfl (.inl rfl) (pe_lst pa_nil))
      (pss_cons (ps_while PassesOwn.never (PW.pt (pw_and (pt_cmpR (op_eqD hr.units) (pv 8) (pe_lst pa_nil) (nomark _)) (pw_and1 (pt_cmpR (op_neD hr.units) (pv 7) (pe_lst pa_nil) (nomark _)))))
        (pss_cons (ps_setLc (i := 8) (own := [("_law_sizes", 9), ("_law_at", 10)]) (g := gTup K 2 (gCons (gName 9) (gCons (gName 10) gNil))) (by rfl) sc30.nd rfl rfl (sw_true rfl rfl rfl (by decide +kernel)) (pi_list (pv 7))
            (blkOk_by (own := [("_law_sizes", 9), ("_law_at", 10)]) (N := N30) (sc := defScope (top 30)) (by decide +kernel))
            (fun _ _ _ _ _ => pg_tup (by rfl) (pgs_cons (pg_name (i := 9) sc30.nd rfl (Or.inl rfl)) (pgs_cons (pg_name (i := 10) sc30.nd rfl (Or.inl rfl)) pgs_nil)))
            (fun _ _ _ _ _ => pts_one (pt_cmpR op_eq (pv 10) (pe_callB call_len_str (by rfl) G.len PySem.boot_len (pa_cons (pv 4) pa_nil)) (nomark _))) (fun _ _ _ _ _ => pv 9))
        (pss_cons (ps_set (i := 11) sc30.nd rfl (.inl rfl) (pe_lst pa_nil))
        (pss_cons (ps_for PassesOwn.never rfl (pi_list (pv 7)) (pg_tup (n := 2) (by rfl) (pgs_cons (pg_name (i := 9) sc30.nd rfl (.inl rfl)) (pgs_cons (pg_name (i := 10) sc30.nd rfl (.inl rfl)) pgs_nil)))
          (pss_one (ps_for PassesOwn.never rfl (pi_range2 (by rfl) G.range (pa_cons (pe_op op_add (pv 10) pe_int) (pa_cons (pe_op op_add (pe_callB call_len_str (by rfl) G.len PySem.boot_len (pa_cons (pv 4) pa_nil)) pe_int) pa_nil))) (pg_name (i := 12) sc30.nd rfl (.inl rfl))
            (pss_one (ps_if (pt_cmpR op_eq (pe_slice sl_str (pv 4) (po_some (pv 10)) (po_some (pv 12))) (pe_revS (pe_slice sl_str (pv 4) (po_some (pv 10)) (po_some (pv 12)))) (nomark _))
              (pss_one (ps_expr (pe_bm PySem.F.plainAttrs_list PySem.F.slot_list_append PySem.F.type_list_append mt_append (pv 11) (pa_cons (pe_tup (pa_cons (pe_op op_catA (pv 9) (pe_tup (pa_cons (pe_op op_sub (pv 12) (pv 10)) pa_nil))) (pa_cons (pv 12) pa_nil))) pa_nil)))) pss_nil)))))
        (pss_one (ps_set (i := 7) sc30.nd rfl (.inl rfl) (pv 11)))))))
      (pss_cons (ps_set (i := 13) sc30.nd rfl (.inl rfl) (pe_call G21 (hr.mono (by decide)) (by rfl) g21 F21.kp b21 .nil pass0 (pa_cons (pv 4) pa_nil)))
      (pss_cons (ps_if (PW.pt (pw_or (pt_cmpR (op_neD hr.units) (pe_callTy call_tuple_of (by rfl) G.tuple bTuple (pa_cons (pe_lc (own := [("_law_part", 14)]) (g := gName 14) (by rfl) sc30.nd (pi_tup (pv 13))
            (blkOk_by (own := [("_law_part", 14)]) (N := N30) (sc := defScope (top 30)) (by decide +kernel)) (fun _ _ _ _ _ => pg_name (i := 14) sc30.nd rfl (Or.inl rfl)) (fun _ _ _ _ _ => pts_nil)
            (fun _ _ _ _ _ => pe_callB call_len_str (by rfl) G.len PySem.boot_len (pa_cons (pv 14) pa_nil))) pa_nil)) (pe_callB (cr_minT (by rfl) hr.units) (by rfl) G.min bMin (pa_cons (pv 8) pa_nil)) (nomark _))
          (pw_or (pt_cmpR op_ne (pe_join pe_str (pv 13)) (pv 4) (nomark _)) (pw_or1 (pt_not (pt_val (pe_callB call_isi (by rfl) G.isinstance bIsi (pa_cons (pv 13) (pa_cons (pe_bltn (v := .ty "tuple") (by rfl) G.tuple bTuple rfl) pa_nil)))))))))
        (pss_one (ps_ret pe_bl)) pss_nil)
      (pss_one (ps_ret (pe_or (pe_cmpR op_eq (pe_callB call_len_seq (by rfl) G.len PySem.boot_len (pa_cons (pe_call G20 hr (by rfl) g20 F20.kp b20 .nil pass0 (pa_cons pe_int (pa_cons pe_int pa_nil))) pa_nil)) pe_int (nomark _))
        (pe_one (pe_cmpR op_gt (pe_call G25 (hr.mono (by decide)) (by rfl) g25 F25.kp b25 .nil pass0 (pa_cons (pv 1) (pa_cons pe_int pa_nil))) pe_int (nomark _)))))))))))))))))))), ?_⟩
    refine ⟨.ref scr, rfl, by show 4 ≤ sizeLine; omega, fun r hr0 => ?_⟩
    have lw0 : Lw K (upd H r (.lst [.ref scr, .int 0, .int 4488, .int 0])) r scr ns Pt := ⟨⟨0, 4488, 0, upd_same, (same_upd hr0).seq hs, by decide, by decide, by decide⟩, hT.ext (same_upd hr0)⟩
    show tSeq _ _ _ _ (upd H r (.lst [.ref scr, .int 0, .int 4488, .int 0]))
    generalize upd H r (.lst [.ref scr, .int 0, .int 4488, .int 0]) = H0 at lw0 ⊢
    -- size
    refine ⟨.ref r, rfl, r, scr, 3, ns, rfl, lw0.row, by decide, by decide, fun H1 v1 b1 fr1 row1 v10 v11 => ⟨1, v1, rfl, rfl, ?_⟩⟩
    have lw1 : Lw K H1 r scr ns Pt := lw0.but b1 row1
    obtain ⟨sz, hsz⟩ : ∃ sz : Nat, 1 + v1 = (sz : Int) := ⟨(1 + v1).toNat, by omega⟩
    show gName 2 (.int (1 + v1)) _ _ _
    rw [hsz]
    have s1 : 1 ≤ sz := by omega
    have s3 : sz ≤ 3 := by omega
    obtain ⟨la, l1, l12⟩ := len_at s1 s3
    -- length
    refine ⟨.ref r, rfl, by show 3 ≤ sizeLine; omega, fun D hD => ?_⟩
    have lw2 : Lw K (upd H1 D (.lst [.int 12, .int 8, .int 6])) r scr ns Pt := lw1.new hD
    have hd2 : (upd H1 D (.lst [.int 12, .int 8, .int 6])) D = some (.lst [.int 12, .int 8, .int 6]) := upd_same
    refine ⟨.int (sz : Int), rfl, (sz : Int), 1, rfl, rfl, D, _, _, _, rfl, rfl, .inl (.inl hd2), la, ?_⟩
    refine ⟨r, scr, (lenOf sz : Int), ns, rfl, lw2.row, by omega, by omega, fun H2 v2 b2 fr2 row2 v20 v21 => ?_⟩
    have lw3 : Lw K H2 r scr ns Pt := lw2.but b2 row2
    obtain ⟨n, hn⟩ : ∃ n : Nat, v2 = (n : Int) := ⟨v2.toNat, by omega⟩
    subst hn
    have hnl : n < lenOf sz := by omega
    obtain ⟨hp, h12⟩ := len_ok s1 s3 hnl
    -- rich_words
    refine ⟨.int (sz : Int), rfl, .int (n : Int), rfl, sz, n, rfl, s1, by omega, by omega, hp, fun H3 DR sm3 hDR hdr => ?_⟩
    have lw4 : Lw K H3 r scr ns Pt := lw3.same sm3
    refine ⟨.int (sz : Int), rfl, .int (n : Int), rfl, sz, n, rfl, s1, by omega, by omega, hp, fun H4 DA sm4 hDA hda => ?_⟩
    have lw5 : Lw K H4 r scr ns Pt := lw4.same sm4
    have hdr4 : H4 DR = some (.lst (vS (richL sz n))) := sm4 _ _ hdr
    have hal := allL_len (sz := sz) (by omega) n
    have hwd := allL_words sz n
    refine ⟨DA, rfl, ⟨_, .inl (.inl hda)⟩, fun D5 hD5 => ?_⟩
    have aw5 := lw5.row.away hD5
    have nA : DA ≠ D5 := ne_of_none hda hD5
    have nR : DR ≠ D5 := ne_of_none hdr4 hD5
    refine lc_it (walk_list (xs := vS (allL sz n))) (fun i H' => Lw K H' r scr ns Pt ∧ H' DA = some (.lst (vS (allL sz n))) ∧ H' DR = some (.lst (vS (richL sz n))) ∧ H' D5 = some (.lst (vS (((allL sz n).take i).filter noDef))))
      ⟨lw5.new hD5, same_upd hD5 _ _ hda, same_upd hD5 _ _ hdr4, by rw [upd_same] <;> rfl⟩ (fun _ _ _ hP => .inl (.inl hP.2.1)) (fun i x H6 H7 hi hP hY => ?_) (fun H6 hP => ?_)
    · obtain ⟨e, hx⟩ := hY
      subst e
      obtain ⟨lw6, pa, pr, pd⟩ := hP
      rw [vS_get] at hx
      obtain ⟨wd, hwe⟩ : ∃ wd, (allL sz n)[i]? = some wd := by
        cases e : (allL sz n)[i]? with
        | none => rw [e] at hx; cases hx
        | some wd => exact ⟨wd, rfl⟩
      rw [hwe] at hx
      have ex : x = V.str (S wd) := (Option.some.inj hx).symm
      subst ex
      obtain ⟨w1, w2⟩ := hwd wd (List.mem_of_getElem? hwe)
      refine ⟨rfl, .str (S wd), rfl, wd, rfl, ⟨by omega, w2⟩, by omega, lw6.tabs, fun H8 eN T8 => ?_⟩
      have lw8 : Lw K H8 r scr ns Pt := ⟨lw6.row.extN eN, T8⟩
      have pa8 : H8 DA = _ := eN _ _ pa (fun ps z => by cases z)
      have pr8 : H8 DR = _ := eN _ _ pr (fun ps z => by cases z)
      have pd8 : H8 D5 = _ := eN _ _ pd (fun ps z => by cases z)
      refine ⟨rfl, noDef wd, ?_, ?_⟩
      · refine congrArg V.bl ?_
        rw [dec_int]
        unfold noDef
        rw [Bool.eq_iff_iff, beq_iff_eq, beq_iff_eq]
        omega
      · have ef := filter_more (f := noDef) hwe
        by_cases hq : noDef wd = true
        · rw [hq]
          refine iteT ⟨.str (S wd), rfl, _, pd8, ?_, lw8.put aw5 pd8, by rw [upd_ne nA]; exact pa8, by rw [upd_ne nR]; exact pr8, ?_⟩
          · rw [vS_len]
            have h1 := List.length_filter_le noDef ((allL sz n).take i)
            have h2 : ((allL sz n).take i).length ≤ (allL sz n).length := by rw [List.length_take]; omega
            omega
          · rw [upd_same, ef, if_pos hq, vS_app] <;> rfl
        · rw [show noDef wd = false by simpa using hq]
          exact iteF ⟨lw8, pa8, pr8, by rw [pd8, ef, if_neg hq, List.append_nil]⟩
    · obtain ⟨lw6, pa, pr, pd⟩ := hP
      rw [vS_len, List.take_length, ← rich_is s1 s3 hnl] at pd
      have hrl : (richL sz n).length ≤ 2000 := by
        rw [rich_is s1 s3 hnl]
        have h1 := List.length_filter_le noDef (allL sz n)
        omega
      refine ⟨DR, D5, richL sz n, rfl, .inl (.inl pr), .inl (.inl pd), hrl, fun H7 sm7 => ⟨true, rfl, iteF ?_⟩⟩
      have lw7 := lw6.same sm7
      -- least
      refine ⟨.ref r, rfl, r, scr, 5, ns, rfl, lw7.row, by decide, by decide, fun H8 v8 b8 fr8 row8 v80 v81 => ⟨2, v8, rfl, rfl, ?_⟩⟩
      have lw8 : Lw K H8 r scr ns Pt := lw7.but b8 row8
      obtain ⟨least, hle⟩ : ∃ least : Nat, 2 + v8 = (least : Int) := ⟨(2 + v8).toNat, by omega⟩
      show gName 5 (.int (2 + v8)) _ _ _
      rw [hle]
      have e2 : 2 ≤ least := by omega
      have e6 : least ≤ 6 := by omega
      refine ⟨by show 0 ≤ sizeLine; omega, fun DD hDD => ?_⟩
      have lw9 : Lw K (upd H8 DD (.lst [])) r scr ns Pt := lw8.new hDD
      have awD := lw8.row.away hDD
      have hdd9 : (upd H8 DD (.lst [])) DD = some (.lst []) := upd_same
      show tSeq _ _ _ _ (upd H8 DD (.lst []))
      generalize upd H8 DD (.lst []) = H9 at lw9 hdd9 ⊢
      refine ⟨.int (sz : Int), rfl, .int (n : Int), rfl, sz, n, rfl, s1, by omega, by omega, hp, fun H10 DB sm10 hDB hdb => ⟨DB, rfl, ⟨_, .inl (.inl hdb)⟩, ?_⟩⟩
      have lw10 := lw9.same sm10
      have hdd10 := sm10 _ _ hdd9
      have nB : DB ≠ DD := fun e => by rw [e, hdd9] at hDB; cases hDB
      refine for_it (walk_list (xs := vS (allL sz n))) (fun i σ H' => Lw K H' r scr ns Pt ∧ H' DB = some (.lst (vS (allL sz n))) ∧ H' DD = some (.lst (vS (((allL sz n).take i).filter fun w => !hasLong least w))) ∧
          ∃ y4, σ = [some (.ref scr), some (.ref r), some (.int (sz : Int)), some (.int (n : Int)), y4, some (.int (least : Int)), some (.ref DD), none, none, none, none, none, none, none, none])
        ⟨lw10, hdb, by rw [hdd10] <;> rfl, none, rfl⟩ (fun _ _ _ _ hP => .inl (.inl hP.2.1)) (fun i x σ H11 H12 hi hP hY => ?_) (fun σ H11 hP => ?_)
      · obtain ⟨e, hx⟩ := hY
        subst e
        obtain ⟨lw11, pb, pd, y4, rfl⟩ := hP
        rw [vS_get] at hx
        obtain ⟨wd, hwe⟩ : ∃ wd, (allL sz n)[i]? = some wd := by
          cases e : (allL sz n)[i]? with
          | none => rw [e] at hx; cases hx
          | some wd => exact ⟨wd, rfl⟩
        rw [hwe] at hx
        have ex : x = V.str (S wd) := (Option.some.inj hx).symm
        subst ex
        obtain ⟨w1, w2⟩ := hwd wd (List.mem_of_getElem? hwe)
        refine ⟨.str (S wd), rfl, wd, rfl, by omega, fun H13 p sm13 hp13 hpp => ⟨p, rfl, ⟨_, .inl (.inl hpp)⟩, fun D14 hD14 => ?_⟩⟩
        refine lc_it (walk_list (xs := vS (parB wd (wd.length + 1)))) (fun j H' => Same H13 H' ∧ H' D14 = some (.lst (vS (((parB wd (wd.length + 1)).take j).filter fun y => decide (least ≤ y.length) && pal y))))
          ⟨same_upd hD14, by rw [upd_same] <;> rfl⟩ (fun _ _ _ hP => .inl (.inl (hP.1 _ _ hpp))) (fun j x H15 H16 hj hP hY => ?_) (fun H15 hP => ?_)
        · obtain ⟨e, hx⟩ := hY
          subst e
          obtain ⟨sm15, hd15⟩ := hP
          rw [vS_get] at hx
          obtain ⟨y, hye⟩ : ∃ y, (parB wd (wd.length + 1))[j]? = some y := by
            cases e : (parB wd (wd.length + 1))[j]? with
            | none => rw [e] at hx; cases hx
            | some y => exact ⟨y, rfl⟩
          rw [hye] at hx
          have ex : x = V.str (S y) := (Option.some.inj hx).symm
          subst ex
          obtain ⟨b, d, _, _, hys⟩ := mem_parB.mp (List.mem_of_getElem? hye)
          have hyl : y.length ≤ wd.length := by
            rw [hys, seg_len]
            omega
          have hysl : (S y).length ≤ sizeLine := by
            rw [S_len]
            omega
          have ef := filter_more (f := fun y => decide (least ≤ y.length) && pal y) hye
          refine ⟨rfl, .str (S y), rfl, S y, rfl, hysl, .int (least : Int), rfl, _, _, rfl, rfl, _, rfl, ?_⟩
          rw [S_len]
          by_cases hq1 : least ≤ y.length
          · rw [show decide ((least : Int) ≤ (y.length : Int)) = true from decide_eq_true (by omega)]
            refine iteT ⟨.str (S y), rfl, .str (S y), rfl, y, rfl, hysl, rfl, _, rfl, ?_⟩
            rw [dec_pal]
            by_cases hq2 : pal y = true
            · rw [hq2]
              refine iteT ⟨.str (S y), rfl, _, hd15, ?_, same_set sm15 hD14, ?_⟩
              · rw [vS_len]
                refine Nat.lt_of_le_of_lt (List.length_filter_le ..) ?_
                rw [List.length_take]
                have h1 := parB_len wd (wd.length + 1)
                have h2 : (wd.length + 1) * (wd.length + 1) ≤ 13 * 13 := Nat.mul_le_mul (by omega) (by omega)
                omega
              · rw [upd_same, ef, if_pos (by rw [decide_eq_true hq1, hq2]; rfl), vS_app] <;> rfl
            · have hq2 : pal y = false := by simpa using hq2
              rw [hq2]
              exact iteF ⟨sm15, by rw [hd15, ef, if_neg (by rw [hq2]; simp), List.append_nil]⟩
          · rw [show decide ((least : Int) ≤ (y.length : Int)) = false from decide_eq_false (by omega)]
            refine iteF (iteF ⟨sm15, by rw [hd15, ef, if_neg (by rw [decide_eq_false hq1]; simp), List.append_nil]⟩)
        · obtain ⟨sm15, hd15⟩ := hP
          rw [vS_len, List.take_length] at hd15
          refine ⟨by show 0 ≤ sizeLine; omega, fun D16 hD16 => ?_⟩
          have sm16 : Same H15 (upd H15 D16 (.lst [])) := same_upd hD16
          have hd16 : (upd H15 D16 (.lst [])) D16 = some (.lst []) := upd_same
          refine ⟨.list _, .list [], Dp.lst (.inl (.inl (sm16 _ _ hd15))) (dp_strs _), Dp.lst (.inl (.inl hd16)) .nil, shaped_strs ?_, rfl, _, rfl, ?_⟩
          · intro u hu c hc
            obtain ⟨b, d, _, _, hys⟩ := mem_parB.mp (List.mem_filter.mp hu).1
            rw [hys] at hc
            exact (w2 c (List.mem_of_mem_take (List.mem_of_mem_drop hc))).2
          · have sm17 := (sm13.trans sm15).trans sm16
            have lw17 := lw11.same sm17
            have pb17 := sm17 _ _ pb
            have pd17 := sm17 _ _ pd
            have ef := filter_more (f := fun w => !hasLong least w) hwe
            show ite _ (tDrop _ _ _ (upd H15 D16 (.lst []))) _
            generalize upd H15 D16 (.lst []) = H17 at lw17 pb17 pd17 ⊢
            by_cases hq : hasLong least wd = false
            · rw [long_parts.mpr hq, eqv_nil]
              refine iteT ⟨.ref DD, rfl, .inl ⟨rfl, _, .inl (.inl pd17)⟩, .str (S wd), rfl, DD, _, _, rfl, rfl, pd17, ?_, lw17.put awD pd17, by rw [upd_ne nB]; exact pb17, ?_, _, rfl⟩
              · rw [vS_len]
                refine Nat.lt_of_le_of_lt (List.length_filter_le ..) ?_
                rw [List.length_take]
                omega
              · rw [upd_same, ef, if_pos (by rw [hq]; rfl), vS_app] <;> rfl
            · have hne : ((parB wd (wd.length + 1)).filter fun y => decide (least ≤ y.length) && pal y) ≠ [] := fun e => hq (long_parts.mp e)
              rw [eqv_nil, show (((parB wd (wd.length + 1)).filter fun y => decide (least ≤ y.length) && pal y).map fun w => PyData.str (S w)).isEmpty = false from by
                rw [List.isEmpty_eq_false_iff]
                exact fun e => hne (List.map_eq_nil_iff.mp e)]
              refine iteF ⟨lw17, pb17, ?_, _, rfl⟩
              rw [pd17, ef, if_neg (by simp at hq; rw [hq]; simp), List.append_nil]
      · obtain ⟨lw11, pb, pd, y4, rfl⟩ := hP
        rw [vS_len, List.take_length, ← free_is s1 s3 hnl e2 e6] at pd
        have hfl : (freeL sz least n).length ≤ 2000 := by
          rw [free_is s1 s3 hnl e2 e6]
          have h1 := List.length_filter_le (fun w => !hasLong least w) (allL sz n)
          omega
        refine ⟨.int (sz : Int), rfl, .int (n : Int), rfl, .int (least : Int), rfl, sz, n, least, rfl, s1, by omega, by omega, e2, by omega, hp, fun H12 DF sm12 hDF hdf => ?_⟩
        have pd12 := sm12 _ _ pd
        have lw12 := lw11.same sm12
        refine ⟨.ref DD, rfl, DF, DD, _, rfl, .inl (.inl hdf), .inl (.inl pd12), hfl, fun H13 sm13 => ⟨true, rfl, iteF ?_⟩⟩
        have lw13 := lw12.same sm13
        -- the word
        refine ⟨.ref r, rfl, .int (sz : Int), rfl, r, scr, sz, ns, rfl, lw13.row, s1, by omega, fun H14 l b14 row14 hl10 hlc => ?_⟩
        have lw14 : Lw K H14 r scr ns Pt := lw13.but b14 row14
        refine ⟨by show 0 ≤ sizeLine; omega, fun T0 hT0 => ⟨by show 2 ≤ sizeLine; omega, fun T1 hT1 => ⟨by show 1 ≤ sizeLine; omega, fun R0 hR0 => ?_⟩⟩⟩
        have sm15 : Same H14 (upd H14 T0 (.tup [])) := same_upd hT0
        have sm16 : Same H14 (upd (upd H14 T0 (.tup [])) T1 (.tup [.ref T0, .int 0])) := same_set sm15 (sm15.free hT1)
        have sm17 : Same H14 (upd (upd (upd H14 T0 (.tup [])) T1 (.tup [.ref T0, .int 0])) R0 (.lst [.ref T1])) := same_set sm16 (sm16.free hR0)
        have n01 : T0 ≠ T1 := fun e => by rw [← e, upd_same] at hT1; cases hT1
        have n0R : T0 ≠ R0 := fun e => by rw [← e, upd_ne n01, upd_same] at hR0; cases hR0
        have n1R : T1 ≠ R0 := fun e => by rw [← e, upd_same] at hR0; cases hR0
        have p0 : (upd (upd (upd H14 T0 (.tup [])) T1 (.tup [.ref T0, .int 0])) R0 (.lst [.ref T1])) T0 = some (.tup []) := by rw [upd_ne n0R, upd_ne n01, upd_same]
        have p1 : (upd (upd (upd H14 T0 (.tup [])) T1 (.tup [.ref T0, .int 0])) R0 (.lst [.ref T1])) T1 = some (.tup [.ref T0, .int 0]) := by rw [upd_ne n1R, upd_same]
        have pR : (upd (upd (upd H14 T0 (.tup [])) T1 (.tup [.ref T0, .int 0])) R0 (.lst [.ref T1])) R0 = some (.lst [.ref T1]) := upd_same
        have lw17 := lw14.same sm17
        show tSeq _ _ _ _ (upd (upd (upd H14 T0 (.tup [])) T1 (.tup [.ref T0, .int 0])) R0 (.lst [.ref T1]))
        generalize upd (upd (upd H14 T0 (.tup [])) T1 (.tup [.ref T0, .int 0])) R0 (.lst [.ref T1]) = H17 at p0 p1 pR lw17 ⊢
        refine ⟨by show 0 ≤ sizeLine; omega, fun E0 hE0 => ?_⟩
        have sm18 : Same H17 (upd H17 E0 (.lst [])) := same_upd hE0
        have pE : (upd H17 E0 (.lst [])) E0 = some (.lst []) := upd_same
        have pr0 : Paired (RowI K (upd H17 E0 (.lst []))) [.ref T1] (rowsF l 0) := .cons ⟨T1, T0, rfl, .inl (.inl (sm18 _ _ p1)), .inl (.inl (sm18 _ _ p0))⟩ .nil
        have pR18 := sm18 _ _ pR
        have lw18 := lw17.same sm18
        show tSeq _ _ _ _ (upd H17 E0 (.lst []))
        generalize upd H17 E0 (.lst []) = H18 at pE pr0 pR18 lw18 ⊢
        have hl : (S l).length ≤ sizeLine := by
          rw [S_len]
          omega
        refine ⟨fun m σ H' => ∃ j, m = l.length + 1 - j ∧ WI K r scr ns Pt l (sz : Int) (n : Int) (least : Int) DD j σ H', ⟨l.length + 1, 0, rfl, R0, E0, _, _, none, none, none, none, lw18, pR18, pr0, pE, .nil, fun k hk => absurd hk (by omega), by omega, rfl⟩, ?_⟩
        clear pE pr0 pR18 lw18 H18
        rintro m σ H18 ⟨j, rfl, R, E, xs, ys, y9, y10, y11, y12, lw18, pR, prows, pE, pdone, hk, hj, rfl⟩
        refine ⟨.ref E, rfl, by show 0 ≤ sizeLine; omega, fun D1 hD1 => ?_⟩
        have sm19 : Same H18 (upd H18 D1 (.lst [])) := same_upd hD1
        have pD1 : (upd H18 D1 (.lst [])) D1 = some (.lst []) := upd_same
        refine ⟨.list _, .list [], Dp.lst (.inl (.inl (sm19 _ _ pE))) (dp_done (paired_imp pdone fun x y h => TupI.same h sm19)), Dp.lst (.inl (.inl pD1)) .nil, shaped_done _, rfl, _, rfl, ?_⟩
        rw [eqv_nil]
        by_cases hd : doneI l j = []
        · rw [hd]
          have hjl : j ≤ l.length := by
            rcases Nat.lt_or_ge l.length j with q1 | q1
            · exfalso
              cases j with
              | zero => omega
              | succ k =>
                have q2 : k = l.length := by omega
                have q3 : doneF l k = [] := hd
                rw [q2] at q3
                exact done_some l q3
            · exact q1
          refine iteT ⟨.ref R, rfl, by show 0 ≤ sizeLine; omega, fun D2 hD2 => ?_⟩
          have sm20 := same_set (o := .lst []) sm19 (sm19.free hD2)
          have pD2 : (upd (upd H18 D1 (.lst [])) D2 (.lst [])) D2 = some (.lst []) := upd_same
          refine ⟨.list _, .list [], Dp.lst (.inl (.inl (sm20 _ _ pR))) (dp_rows (paired_imp prows fun x y h => h.same sm20)), Dp.lst (.inl (.inl pD2)) .nil, shaped_rows _, rfl, _, rfl, ?_⟩
          rw [eqv_nil, show ((rowsF l j).map rowD).isEmpty = false from by
            rw [List.isEmpty_eq_false_iff]
            exact fun e => rows_some hjl (List.map_eq_nil_iff.mp e)]
          refine iteT ⟨WI K r scr ns Pt l (sz : Int) (n : Int) (least : Int) DD (j + 1), fun σ' H' hw => ⟨_, by omega, j + 1, rfl, hw⟩, ?_⟩
          have lw20 := lw18.same sm20
          have pR20 := sm20 _ _ pR
          have prows20 : Paired (RowI K (upd (upd H18 D1 (.lst [])) D2 (.lst []))) xs (rowsF l j) := paired_imp prows fun x y h => h.same sm20
          show tSeq _ _ _ _ (upd (upd H18 D1 (.lst [])) D2 (.lst []))
          generalize upd (upd H18 D1 (.lst [])) D2 (.lst []) = H20 at lw20 pR20 prows20 ⊢
          have hdk : ∀ k, k < j → doneF l k = [] := fun k hkj => by
            by_cases q1 : k + 1 < j
            · exact hk k q1
            · have q2 : j = k + 1 := by omega
              rw [q2] at hd
              exact hd
          -- done
          refine ⟨.ref R, rfl, R, rfl, ⟨_, .inl (.inl pR20)⟩, fun D3 hD3 => ?_⟩
          refine lc_it (walk_list (xs := xs)) (fun i H' => Same H20 H' ∧ ∃ zs, H' D3 = some (.lst zs) ∧ Paired (TupI K H') zs ((((rowsF l j).take i).filter fun p => p.2 == l.length).map (·.1)))
            ⟨same_upd hD3, [], upd_same, .nil⟩ (fun _ _ _ hP => .inl (.inl (hP.1 _ _ pR20))) (fun i x H21 H22 hi hP hY => ?_) (fun H21 hP => ?_)
          · obtain ⟨e, hx⟩ := hY
            subst e
            obtain ⟨sm21, zs, pz, pp⟩ := hP
            obtain ⟨p, hpe, hrow⟩ := paired_get prows20 hx
            obtain ⟨a, tt, rfl, ha, ht⟩ := hrow.same sm21
            refine ⟨a, _, rfl, ha, rfl, .ref tt, _, rfl, .int (p.2 : Int), [], rfl, rfl, rfl, ?_⟩
            refine ⟨.int (p.2 : Int), rfl, .str (S l), rfl, S l, rfl, hl, rfl, _, rfl, ?_⟩
            have eb : decide (V.int (p.2 : Int) = V.int ((S l).length : Int)) = (p.2 == l.length) := by
              rw [dec_int, S_len, Bool.eq_iff_iff, beq_iff_eq, beq_iff_eq]
              omega
            rw [eb]
            have ef := filter_more (f := fun p : List Int × Nat => p.2 == l.length) hpe
            by_cases hq : (p.2 == l.length) = true
            · rw [hq]
              refine iteT ⟨.ref tt, rfl, zs, pz, ?_, same_set sm21 hD3, _, upd_same, ?_⟩
              · rw [paired_len pp, List.length_map]
                refine Nat.lt_of_le_of_lt (List.length_filter_le ..) ?_
                have h1 := rows_len hl10 j
                rw [List.length_take]
                omega
              · rw [ef, if_pos hq, List.map_append]
                exact Paired.snoc (paired_imp pp fun x y h => tupI_upd h pz) ⟨tt, rfl, seqT_upd ht pz⟩
            · rw [show (p.2 == l.length) = false by simpa using hq]
              refine iteF ⟨sm21, zs, pz, ?_⟩
              rw [ef, if_neg hq, List.append_nil]
              exact pp
          · obtain ⟨sm21, ds, pD3, pp⟩ := hP
            have pds : Paired (TupI K H21) ds (doneF l j) := by
              rw [paired_len prows20, List.take_length] at pp
              exact pp
            have lw21 := lw20.same sm21
            have pR21 := sm21 _ _ pR20
            have prows21 : Paired (RowI K H21) xs (rowsF l j) := paired_imp prows20 fun x y h => h.same sm21
            have nRD : R ≠ D3 := ne_of_none pR20 hD3
            refine ⟨by show 0 ≤ sizeLine; omega, fun L hL => ?_⟩
            have sm22 : Same H21 (upd H21 L (.lst [])) := same_upd hL
            have awL := lw21.row.away hL
            have nRL : R ≠ L := ne_of_none pR21 hL
            have nDL : D3 ≠ L := ne_of_none pD3 hL
            have pL22 : (upd H21 L (.lst [])) L = some (.lst []) := upd_same
            have lw22 := lw21.same sm22
            have pR22 := sm22 _ _ pR21
            have pD22 := sm22 _ _ pD3
            have prows22 : Paired (RowI K (upd H21 L (.lst []))) xs (rowsF l j) := paired_imp prows21 fun x y h => h.same sm22
            have pds22 : Paired (TupI K (upd H21 L (.lst []))) ds (doneF l j) := paired_imp pds fun x y h => TupI.same h sm22
            show tSeq _ _ _ _ (upd H21 L (.lst []))
            generalize upd H21 L (.lst []) = H22 at pL22 lw22 pR22 pD22 prows22 pds22 ⊢
            refine ⟨.ref R, rfl, R, rfl, ⟨_, .inl (.inl pR22)⟩, ?_⟩
            refine for_it (walk_list (xs := xs)) (fun i σ H' => Lw K H' r scr ns Pt ∧ H' R = some (.lst xs) ∧ H' D3 = some (.lst ds) ∧ Paired (RowI K H') xs (rowsF l j) ∧ Paired (TupI K H') ds (doneF l j) ∧
                ∃ zs y9 y10 y12, H' L = some (.lst zs) ∧ Paired (RowI K H') zs (((rowsF l j).take i).flatMap (ends l)) ∧
                  σ = [some (.ref scr), some (.ref r), some (.int (sz : Int)), some (.int (n : Int)), some (.str (S l)), some (.int (least : Int)), some (.ref DD), some (.ref R), some (.ref D3), y9, y10, some (.ref L), y12, none, none])
              ⟨lw22, pR22, pD22, prows22, pds22, [], y9, y10, y12, pL22, .nil, rfl⟩ (fun _ _ _ _ hP => .inl (.inl hP.2.1)) (fun i x σ H23 H24 hi hP hY => ?_) (fun σ H23 hP => ?_)
            · obtain ⟨e, hx⟩ := hY
              subst e
              obtain ⟨lw23, pR23, pD23, pr23, pd23, zs, y9, y10, y12, pL23, pz23, rfl⟩ := hP
              obtain ⟨p, hpe, hrow⟩ := paired_get pr23 hx
              have hpl : p.2 ≤ l.length := (mem_rows.mp (show (p.1, p.2) ∈ rowsF l j from List.mem_of_getElem? hpe)).1.le
              have hps : p.1.length ≤ 10 := by
                have h1 := (mem_rows.mp (show (p.1, p.2) ∈ rowsF l j from List.mem_of_getElem? hpe)).1.len
                omega
              obtain ⟨a, tt, rfl, ha, ht⟩ := hrow
              refine ⟨a, _, rfl, ha, rfl, .ref tt, _, rfl, .int (p.2 : Int), [], rfl, rfl, ?_⟩
              refine ⟨.int (p.2 : Int), rfl, (p.2 : Int), 1, rfl, rfl, .str (S l), rfl, S l, rfl, hl, (S l).length, 1, rfl, rfl, (p.2 : Int) + 1, (S l).length + 1, rfl, ⟨by omega, by omega, by rw [S_len]; omega, by rw [S_len]; omega⟩, ?_⟩
              rw [S_len, show ((l.length : Int) + 1 - ((p.2 : Int) + 1)).toNat = l.length - p.2 by omega]
              refine for_it (walk_range (lo := (p.2 : Int) + 1) (n := l.length - p.2)) (fun m σ H' => Lw K H' r scr ns Pt ∧ H' R = some (.lst xs) ∧ H' D3 = some (.lst ds) ∧ Paired (RowI K H') xs (rowsF l j) ∧ Paired (TupI K H') ds (doneF l j) ∧ SqT K H' tt (p.1.map V.int) ∧
                  ∃ zs y12, H' L = some (.lst zs) ∧ Paired (RowI K H') zs (((rowsF l j).take i).flatMap (ends l) ++ endsTo l p m) ∧
                    σ = [some (.ref scr), some (.ref r), some (.int (sz : Int)), some (.int (n : Int)), some (.str (S l)), some (.int (least : Int)), some (.ref DD), some (.ref R), some (.ref D3), some (.ref tt), some (.int (p.2 : Int)), some (.ref L), y12, none, none])
                ⟨lw23, pR23, pD23, pr23, pd23, ht, zs, y12, pL23, by rw [show endsTo l p 0 = [] from rfl, List.append_nil]; exact pz23, rfl⟩ (fun _ _ _ _ _ => True.intro) (fun m x σ H25 H26 hm hP hY => ?_) (fun σ H25 hP => ?_)
              · obtain ⟨e, ex⟩ := hY
                subst e
                obtain ⟨lw25, pR25, pD25, pr25, pd25, ht25, zs, y12, pL25, pz25, rfl⟩ := hP
                have ex2 : x = V.int ((p.2 + 1 + m : Nat) : Int) := ex.trans (congrArg V.int (by omega))
                subst ex2
                have hsl : (seg l p.2 (p.2 + 1 + m)).length ≤ sizeLine := by
                  rw [seg_len]
                  omega
                have ecut : cutS (S l) (some (p.2 : Int)) (some ((p.2 + 1 + m : Nat) : Int)) = S (seg l p.2 (p.2 + 1 + m)) := cut_seg _ _ _
                refine ⟨.str (S l), rfl, .int (p.2 : Int), rfl, _, rfl, .int ((p.2 + 1 + m : Nat) : Int), rfl, _, rfl, S l, rfl, hl, ?_⟩
                rw [ecut]
                refine ⟨.str (S l), rfl, .int (p.2 : Int), rfl, _, rfl, .int ((p.2 + 1 + m : Nat) : Int), rfl, _, rfl, S l, rfl, hl, seg l p.2 (p.2 + 1 + m), congrArg V.str ecut, hsl, rfl, _, rfl, ?_⟩
                rw [dec_pal]
                have em := endsTo_more l p m
                by_cases hq : pal (seg l p.2 (p.2 + 1 + m)) = true
                · rw [hq]
                  rw [if_pos hq] at em
                  refine iteT ⟨.ref L, rfl, .inl ⟨rfl, _, .inl (.inl pL25)⟩, .ref tt, rfl, .int ((p.2 + 1 + m : Nat) : Int), rfl, .int (p.2 : Int), rfl, _, _, rfl, rfl, by show 1 ≤ sizeLine; omega, fun T hT => ?_⟩
                  refine cat_in (Same.seqT (same_upd hT) ht25) (.inl (.inl upd_same)) (by rw [List.length_map]; show p.1.length + 1 ≤ _; omega) fun H27 u sm27 hu => ?_
                  refine ⟨.int ((p.2 + 1 + m : Nat) : Int), rfl, by show 2 ≤ sizeLine; omega, fun T2 hT2 => ?_⟩
                  have sm28 := same_set (o := .tup [.ref u, .int ((p.2 + 1 + m : Nat) : Int)]) ((same_upd hT).trans sm27) (((same_upd hT).trans sm27).free hT2)
                  have pL28 := sm28 _ _ pL25
                  have prow28 : RowI K (upd H27 T2 (.tup [.ref u, .int ((p.2 + 1 + m : Nat) : Int)])) (.ref T2) (p.1 ++ [((p.2 + 1 + m : Nat) : Int) - (p.2 : Int)], p.2 + 1 + m) := ⟨T2, u, rfl, .inl (.inl upd_same), Same.seqT (same_upd hT2) (by rw [List.map_append]; exact hu)⟩
                  refine ⟨L, zs, _, rfl, rfl, pL28, ?_, (lw25.same sm28).put awL pL28, by rw [upd_ne nRL]; exact sm28 _ _ pR25, by rw [upd_ne nDL]; exact sm28 _ _ pD25, paired_imp pr25 fun x y h => (h.same sm28).put pL28, paired_imp pd25 fun x y h => tupI_upd (TupI.same h sm28) pL28, seqT_upd (Same.seqT sm28 ht25) pL28, _, _, upd_same, ?_, rfl⟩
                  · rw [paired_len pz25, List.length_append]
                    have h1 := flat_len hl10 j i
                    have h2 := endsTo_len l p m
                    omega
                  · rw [em, ← List.append_assoc]
                    exact Paired.snoc (paired_imp pz25 fun x y h => (h.same sm28).put pL28) (prow28.put pL28)
                · rw [if_neg hq, List.append_nil] at em
                  rw [show pal (seg l p.2 (p.2 + 1 + m)) = false by simpa using hq]
                  exact iteF ⟨lw25, pR25, pD25, pr25, pd25, ht25, zs, _, pL25, by rw [em]; exact pz25, rfl⟩
              · obtain ⟨lw25, pR25, pD25, pr25, pd25, ht25, zs, y12, pL25, pz25, rfl⟩ := hP
                refine ⟨lw25, pR25, pD25, pr25, pd25, zs, _, _, _, pL25, ?_, rfl⟩
                rw [take_more hpe, List.flatMap_append, List.flatMap_cons, List.flatMap_nil, List.append_nil]
                exact pz25
            · obtain ⟨lw23, pR23, pD23, pr23, pd23, zs, y9, y10, y12, pL23, pz23, rfl⟩ := hP
              rw [paired_len pr23, List.take_length] at pz23
              exact ⟨.ref L, rfl, L, D3, zs, ds, _, _, _, _, lw23, pL23, pz23, pD23, pd23, fun k hkj => hdk k (by omega), by omega, rfl⟩
        · rw [show ((doneI l j).map fun d => PyData.tuple (d.map PyData.int)).isEmpty = false from by
            rw [List.isEmpty_eq_false_iff]
            exact fun e => hd (List.map_eq_nil_iff.mp e)]
          refine iteF (iteF ?_)
          obtain ⟨k, rfl⟩ : ∃ k, j = k + 1 := by
            cases j with
            | zero => exact absurd rfl hd
            | succ k => exact ⟨k, rfl⟩
          have hd : doneF l k ≠ [] := hd
          have pE19 := sm19 _ _ pE
          have pdone19 : Paired (TupI K (upd H18 D1 (.lst []))) ys (doneF l k) := paired_imp pdone fun x y h => TupI.same h sm19
          have lw19 := lw18.same sm19
          show tSeq _ _ _ _ (upd H18 D1 (.lst []))
          generalize upd H18 D1 (.lst []) = H19 at pE19 pdone19 lw19 ⊢
          refine ⟨.str (S l), rfl, l, rfl, ⟨by omega, hlc⟩, fun H20 pf sf sm20 hpf hbest => ?_⟩
          obtain ⟨a1, a2, a3, a4⟩ := hbest.1.all
          have pE20 := sm20 _ _ pE19
          have pdone20 : Paired (TupI K H20) ys (doneF l k) := paired_imp pdone19 fun x y h => TupI.same h sm20
          have lw20 := lw19.same sm20
          have hpl : (pcs l 0 sf).length ≤ 10 := by
            have e := congrArg List.length a3
            rw [List.length_map] at e
            have h2 := hbest.1.len
            omega
          refine ⟨.ref pf, rfl, pf, rfl, ⟨_, .inl (.inl hpf)⟩, fun D4 hD4 => ?_⟩
          refine lc_it (walk_tup (xs := vS (pcs l 0 sf))) (fun i H' => Same H20 H' ∧ H' D4 = some (.lst (((pcs l 0 sf).take i).map fun q => V.int (q.length : Int))))
            ⟨same_upd hD4, by rw [upd_same] <;> rfl⟩ (fun _ _ _ hP => .inl (.inl (hP.1 _ _ hpf))) (fun i x H21 H22 hi hP hY => ?_) (fun H21 hP => ?_)
          · obtain ⟨e, hx⟩ := hY
            subst e
            obtain ⟨sm21, pd⟩ := hP
            rw [vS_get] at hx
            obtain ⟨y, hye⟩ : ∃ y, (pcs l 0 sf)[i]? = some y := by
              cases e : (pcs l 0 sf)[i]? with
              | none => rw [e] at hx; cases hx
              | some y => exact ⟨y, rfl⟩
            rw [hye] at hx
            have ex : x = V.str (S y) := (Option.some.inj hx).symm
            subst ex
            have hy10 := pcs_short l sf 0 y (List.mem_of_getElem? hye)
            refine ⟨rfl, .str (S y), rfl, S y, rfl, by rw [S_len]; omega, _, pd, ?_, same_set sm21 hD4, ?_⟩
            · rw [List.length_map, List.length_take]
              omega
            · rw [upd_same, take_more hye, List.map_append, S_len] <;> rfl
          · obtain ⟨sm21, pd⟩ := hP
            have hsf : ((pcs l 0 sf).take (vS (pcs l 0 sf)).length).map (fun q => V.int (q.length : Int)) = sf.map V.int := by
              have e := congrArg (List.map V.int) a3
              rw [List.map_map] at e
              rw [vS_len, List.take_length]
              exact e
            rw [hsf] at pd
            have hpf21 := sm21 _ _ hpf
            refine ⟨D4, _, rfl, .inl ⟨.inl (.inl pd), fun T hT => ?_⟩⟩
            have sm22 : Same H21 (upd H21 T (.tup (sf.map V.int))) := same_upd hT
            have sm23 := sm21.trans sm22
            have pT : (upd H21 T (.tup (sf.map V.int))) T = some (.tup (sf.map V.int)) := upd_same
            have pf23 := sm23 _ _ hpf
            have lw23 := lw20.same sm23
            refine ⟨.ref E, rfl, E, ys, doneF l k, rfl, .inl (.inl (sm23 _ _ pE20)), paired_imp pdone20 fun x y h => TupI.same h sm23, hd, fun x d hx hdm hmin => ?_⟩
            have es : sf = d := agree hbest hdm hmin fun k' hk' => hk k' (by omega)
            subst es
            obtain ⟨t2, rfl, ht2⟩ := hx
            refine ⟨.tuple (sf.map PyData.int), .tuple (sf.map PyData.int), Dp.tup (.inl (.inl pT)) (dp_ints _), Dp.tup ht2 (dp_ints _), shaped_ints _, shaped_ints _, false, congrArg V.bl ?_, iteF ?_⟩
            · rw [show PyData.eqv (.tuple (sf.map PyData.int)) (.tuple (sf.map PyData.int)) = true from by simp only [PyData.eqv]; exact eqv_ints sf]
              rfl
            have hfl : (pcs l 0 sf).flatten = l := by rw [a4, List.take_length]
            refine ⟨⟨_, rfl⟩, .ref pf, rfl, Str.ofString "", pf, (pcs l 0 sf).map S, rfl, rfl, .inr (.inl (.inl (by rw [pf23, vS_strs]))), ?_, .str (S l), rfl, rfl, false, congrArg V.bl ?_, iteF ?_⟩
            · rw [sum_S, hfl, List.length_map, show (Str.ofString "").length = 0 by decide +kernel]
              omega
            · rw [join_words, hfl]
              simp
            refine ⟨.ref pf, rfl, .ref pf, .ty "tuple", .type "tuple", .type "tuple", true, rfl, .ty _, .base (.tup pf23), kit_ty (by decide +kernel), true, rfl, iteF ?_⟩
            refine ⟨2, 8, rfl, by decide, by decide, by decide, by decide, fun H24 DQ sm24 hDQ hdq => ⟨DQ, _, rfl, .inl (.inl (.inl hdq)), rfl, true, congrArg V.bl ?_, iteT (q _)⟩⟩
            rw [vS_len, rich28]
            decide
end
end Aw
/-! The head: what the module's names hold; the row's statement. -/
namespace Aw
open PySem PySem.Spec PyProof.Rows L2
def dd (i : Nat) (x : Str) (dfl : List He.Dv := []) : He.DefD := ⟨(x, none), x, x, defArgs (top i), defBody (top i), defScope (top i), dfl, []⟩
def fn : List He.DefD := [dd 9 "is_int", dd 10 "is_in", dd 11 "is_word" [.int 200], dd 12 "need_word", dd 13 "need_size", dd 17 "distinct_mirrors", dd 18 "defect", dd 19 "new_mirror",
  dd 20 "rich_words", dd 21 "fewest_mirrors", dd 22 "mirror_free", dd 23 "ends_plain", dd 25 "_law_taken", dd 26 "_law_alike", dd 27 "_law_word", dd 28 "_law_all", dd 29 "_law_parts", dd 30 "law"]
def fa : List He.Fa := [.glo "is_int", .glo "is_in", .glo "is_word", .glo "need_word", .glo "need_size", .glo "distinct_mirrors", .glo "defect", .glo "new_mirror", .glo "rich_words", .glo "fewest_mirrors", .glo "mirror_free", .glo "ends_plain",
  .glo "_law_taken", .glo "_law_alike", .glo "_law_word", .glo "_law_all", .glo "_law_parts", .glo "law",
  .free "len", .free "isinstance", .free "int", .free "bool", .free "str", .free "all", .free "range", .free "sorted", .free "tuple", .free "list", .free "min",
  .str "LETTERS" "abcdefghijklmnopqrstuvwxyz", .int "MOST_SIZE" 6, .int "MOST_STEPS" 40, .int "MOST_LISTED" 2000]
def tf : List He.Defn := [("distinct_mirrors", none)]
abbrev R : PySem.W.OpenRow := PySem.W.OpenLaw.row PySem.Challenge.rw_avoidwords_k88_whole_rich_words
abbrev hk : PySem.W.Hook := He.hookX 5 fa fn [] tf (fun _ => true)
def ob (s : PySem.W.SharedT) : He.AlX := He.obsX 5 fa fn [] tf (fun _ => true) (HandSHeadRun.getT s)
theorem ob_eq (s : PySem.W.SharedT) : ob s = hk.obs s.abs := He.obsX_eq (HandSHeadRun.getT_eq s)
def vw : List Nat := [30]
def loose : List Str := ["__name__", "AvoidError", "BadWord", "BadNumber", "TooMany", "LETTERS", "MOST_LENGTH", "MOST_SIZE", "is_int", "is_in", "is_word", "need_word", "need_size", "MOST_STEPS", "MOST_LISTED", "distinct_mirrors", "defect", "new_mirror", "rich_words", "fewest_mirrors", "mirror_free", "ends_plain", "_law_taken", "_law_alike", "_law_word", "_law_all", "_law_parts"]
theorem run (w : World) : HandSHeadRun.RunEq R (PySem.W.view R.prog vw) hk ob 3000 loose w := by
  intro os
  kernel_rfl
theorem has {K : PySem.W.Frag} {h : Heap} {mg : Str → Option Value} (X : K.In h) (G : h.Ns mainGlobals mg) (c : He.SaysD fa fn K) {x : Str} {j : Nat} (i : Nat) (hf : fn[i]? = some (dd j x)) (hg : fa[i]? = some (.glo x)) : Has K mg x j := by
  obtain ⟨fd, F⟩ := c.def_ i hf
  exact ⟨_, fd, F, He.glo_ok X G (c.fact i hg)⟩
theorem glob {K : PySem.W.Frag} {h : Heap} {mg : Str → Option Value} (X : K.In h) (G : h.Ns mainGlobals mg) (c : He.SaysD fa fn K) : Glob mg where
  len := He.free_ok X G (c.fact 18 (f := .free "len") rfl)
  isinstance := He.free_ok X G (c.fact 19 (f := .free "isinstance") rfl)
  int := He.free_ok X G (c.fact 20 (f := .free "int") rfl)
  bool := He.free_ok X G (c.fact 21 (f := .free "bool") rfl)
  str := He.free_ok X G (c.fact 22 (f := .free "str") rfl)
  all := He.free_ok X G (c.fact 23 (f := .free "all") rfl)
  range := He.free_ok X G (c.fact 24 (f := .free "range") rfl)
  sorted := He.free_ok X G (c.fact 25 (f := .free "sorted") rfl)
  tuple := He.free_ok X G (c.fact 26 (f := .free "tuple") rfl)
  list := He.free_ok X G (c.fact 27 (f := .free "list") rfl)
  min := He.free_ok X G (c.fact 28 (f := .free "min") rfl)
  letters := He.str_ok X G (c.fact 29 (f := .str "LETTERS" "abcdefghijklmnopqrstuvwxyz") rfl)
  size := He.int_ok X G (c.fact 30 (f := .int "MOST_SIZE" 6) rfl)
  steps := He.int_ok X G (c.fact 31 (f := .int "MOST_STEPS" 40) rfl)
  listed := He.int_ok X G (c.fact 32 (f := .int "MOST_LISTED" 2000) rfl)
theorem fns {K : PySem.W.Frag} {h base : Heap} {mg : Str → Option Value} (X : K.In h) (G : h.Ns mainGlobals mg) (c : He.SaysD fa fn K) (TB : LamX.TabB base mg (He.cT K ("distinct_mirrors", none)).1 (He.cT K ("distinct_mirrors", none)).2) :
    Fns K mg base (He.cT K ("distinct_mirrors", none)).2 where
  h9 := has X G c 0 rfl rfl
  h10 := has X G c 1 rfl rfl
  h11 := by
    obtain ⟨fd, F⟩ := c.def_ 2 (d := dd 11 "is_word" [.int 200]) rfl
    exact ⟨_, fd, F, He.glo_ok X G (c.fact 2 (f := .glo "is_word") rfl)⟩
  h12 := has X G c 3 rfl rfl
  h13 := has X G c 4 rfl rfl
  h17 := by
    obtain ⟨fd, F⟩ := c.def_ 5 (d := dd 17 "distinct_mirrors") rfl
    refine ⟨_, fd, F, He.glo_ok X G (c.fact 5 (f := .glo "distinct_mirrors") rfl), fun cc e => ?_⟩
    obtain ⟨oc, od, dV, kV, doc, pm, an, cdv, ct, osl, rfl, lk, hcd, _, _⟩ := F.ex
    have e2 : (He.cT K ("distinct_mirrors", none)).1 = cc := He.codeOf_eq lk e
    rw [← e2]
    exact TB
  h18 := has X G c 6 rfl rfl
  h19 := has X G c 7 rfl rfl
  h20 := has X G c 8 rfl rfl
  h21 := has X G c 9 rfl rfl
  h22 := has X G c 10 rfl rfl
  h23 := has X G c 11 rfl rfl
  h25 := has X G c 12 rfl rfl
  h26 := has X G c 13 rfl rfl
  h27 := has X G c 14 rfl rfl
  h28 := has X G c 15 rfl rfl
  h29 := has X G c 16 rfl rfl
theorem at_law {w : World} {K : PySem.W.Frag} {h : Heap} {mg : Str → Option Value} {f : Addr} (X : K.In h) (G : h.Ns mainGlobals mg) (hfa : mg ("law" : Str) = some (.ref f)) (c : He.SaysX fa fn [] tf (fun _ => true) w h K) :
    LamX.LawAtS PySem.Challenge.rw_avoidwords_k88_whole_rich_words w K CX0 5 63 "_law_script" mg f h := by
  have cd : He.SaysD fa fn K := c.t.d
  have hm : (("distinct_mirrors", none) : He.Defn) ∈ tf := List.mem_singleton.mpr rfl
  obtain ⟨f', fd, F, g⟩ := has X G cd (x := "law") (j := 30) 17 rfl rfl
  have e := hfa.symm.trans g
  cases e
  have b := FunD.bindsA (ps := ["_law_script"]) F fun _ _ _ _ _ _ us hl => match us, hl with | [_], _ => rfl
  refine ⟨fd, [He.cT K ("distinct_mirrors", none)], spLaw K (He.cT K ("distinct_mirrors", none)).2, fun p hp => ?_, fun p hp => ?_, fun p hp => ?_, fun s v => b s [v] rfl, fun H a ns _ _ hH hS => ?_, fun base _ _ hTB => ?_⟩
  · rw [List.mem_singleton.mp hp]
    exact c.empty _ hm
  · rw [List.mem_singleton.mp hp]
    exact c.out _ hm
  · rw [List.mem_singleton.mp hp]
    exact PySem.W.codeHd_of_K X (c.hd _ hm)
  · refine ⟨a, ns, rfl, hS, fun p hp => ?_, fun _ => rfl⟩
    rw [List.mem_singleton.mp hp]
    exact LamX.TabS.nil (hH _ (List.mem_singleton.mpr rfl))
  · exact ok_law F (fns X G cd (hTB _ (List.mem_singleton.mpr rfl))) (glob X G cd)
end Aw
open PySem PySem.W PySem.Calls PyProof.Rows
theorem PySem.Challenge.cw_avoidwords_k88_whole_rich_words_holds : PySem.Challenge.rw_avoidwords_k88_whole_rich_words.Holds := by
  w_on; o_law
  refine HandSHeadRun.head_any (r := OpenLaw.row PySem.Challenge.rw_avoidwords_k88_whole_rich_words) (q := view (OpenLaw.row PySem.Challenge.rw_avoidwords_k88_whole_rich_words).prog Aw.vw) (H := Aw.hk) (ob := Aw.ob) (M := 3000) (loose := Aw.loose) (d := HandSHeadRun.topDef (OpenLaw.row PySem.Challenge.rw_avoidwords_k88_whole_rich_words).prog 30) (kwd := []) Aw.ob_eq
    (by kernel_rfl) (fun s => by kernel_rfl) Aw.run (by kernel_rfl) (by kernel_rfl) (by kernel_rfl) (by rfl) (by first | assumption | decide +kernel) (by decide +kernel) ⟨rfl, rfl, rfl, rfl, rfl, by decide +kernel⟩ ?hw ?hc
  case hw => w_witness2
  case hc =>
    refine LamX.walk_ofTsE (l := PySem.Challenge.rw_avoidwords_k88_whole_rich_words) (n := 63) (k := 5) (x := "_law_script") (CX := fun _ => L2.CX0) rfl (by decide) (by kernel_rfl) ⟨rfl, by decide, by decide⟩ ?F (fun _ _ _ _ _ z => z)
    intro w mg fa h Y G hmg0
    obtain ⟨K, KX, c⟩ := Y
    have hmg : mg ("law" : PySem.Str) = some (.ref fa) := by
      have e : (HandSHeadRun.topDef (OpenLaw.row PySem.Challenge.rw_avoidwords_k88_whole_rich_words).prog 30).name = ("law" : PySem.Str) := by kernel_rfl
      rw [← e]
      exact hmg0
    exact ⟨K, KX, Aw.at_law KX G hmg c⟩
