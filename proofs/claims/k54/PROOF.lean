import PyProof.Rows.All
import Wide.All
import OpenK.AllK
import Wide.FinOn
import HandS.Codes
import HandS.ForMost
import HandS.ForExc
import HandS.SortKw
import KE.GoesEnumKw
import PyProof.Rows.CallKwBuiltin
import HandS.ExcInit
import HandS.ExcField
import HandS.ExcIs
import HandS.ExcValue
import KE.KTryMore
import HandS.RaiseMore
import HandS.FStrTup
import PyProof.ReprRoads
import PyProof.ReprLen
import PySem.Challenge.RW_flatsum_k54_whole_texts_of_no_graph
import HandS.IsInst
import HandS.NoneIn
import HandS.DictComp
import HandS.Zip
import HandS.Style
import HandS.Wide
import HandS.Replace
import HandS.ReplaceLit
import HandS.Conv
import HandS.Ends
set_option Elab.async false
set_option linter.all false
set_option maxRecDepth 100000
-- Mir
/-! The mirror: what parse_graph and the law's own parser both find, over lists of codes. -/
namespace Fl
open PySem PySem.NumText L2

/-- cut at each s -/
def cutAt (s : Nat) : List Nat → List (List Nat)
  | [] => [[]]
  | c :: r => if c = s then [] :: cutAt s r else match cutAt s r with
    | [] => [[c]]
    | p :: ps => (c :: p) :: ps
theorem cutAt_ne (s : Nat) : ∀ l, cutAt s l ≠ []
  | [] => by simp [cutAt]
  | c :: r => by
    unfold cutAt
    split
    · simp
    · split <;> simp
theorem spl_cut (s : Nat) : ∀ (l acc : List Nat), TL.spl [s] 0 acc l = (match cutAt s l with
    | [] => [acc]
    | p :: ps => (acc ++ p) :: ps)
  | [], acc => by simp [TL.spl_nil, cutAt]
  | c :: r, acc => by
    by_cases e : c = s
    · subst e
      rw [TL.spl_hit (show TL.pre [c] (c :: r) = true from TL.pre_self [c] r)]
      show acc :: TL.spl [c] 0 [] r = _
      have e3 : cutAt c (c :: r) = [] :: cutAt c r := by rw [cutAt, if_pos rfl]
      rw [spl_cut c r [], e3]
      have h := cutAt_ne c r
      cases q : cutAt c r with
      | nil => exact absurd q h
      | cons p ps => simp
    · rw [TL.spl_miss (TL.pre_of_head [] r e), spl_cut s r (acc ++ [c])]
      have h := cutAt_ne s r
      rw [show cutAt s (c :: r) = (match cutAt s r with | [] => [[c]] | p :: ps => (c :: p) :: ps) from by
        rw [cutAt, if_neg e]]
      cases q : cutAt s r with
      | nil => exact absurd q h
      | cons p ps => simp
theorem spl_is (s : Nat) (l : List Nat) : TL.spl [s] 0 [] l = cutAt s l := by
  rw [spl_cut]
  have h := cutAt_ne s l
  cases q : cutAt s l with
  | nil => exact absurd q h
  | cons p ps => simp
theorem split_is (s : Nat) (l : List Nat) (h : s < 256) : Txt.split (SX.S l) (SX.S [s]) = (cutAt s l).map SX.S := by
  rw [SX.split_S (by simp) (by simp [h]), spl_is]
theorem join_cut (s : Nat) : ∀ l, TL.joinL [s] (cutAt s l) = l
  | [] => rfl
  | c :: r => by
    have ih := join_cut s r
    have h := cutAt_ne s r
    by_cases e : c = s
    · subst e
      rw [cutAt, if_pos rfl]
      cases q : cutAt c r with
      | nil => exact absurd q h
      | cons p ps =>
        rw [q] at ih
        show [] ++ ([c] ++ TL.joinL [c] (p :: ps)) = _
        rw [ih]; rfl
    · rw [cutAt, if_neg e]
      cases q : cutAt s r with
      | nil => exact absurd q h
      | cons p ps =>
        rw [q] at ih
        cases ps with
        | nil =>
          show c :: p = c :: r
          have ih' : p = r := ih
          rw [ih']
        | cons p2 ps =>
          show c :: p ++ ([s] ++ TL.joinL [s] (p2 :: ps)) = c :: r
          have ih' : p ++ ([s] ++ TL.joinL [s] (p2 :: ps)) = r := ih
          rw [List.cons_append, ih']
/-- the weight of a list of texts: what their join takes at most -/
def wt (ps : List (List Nat)) : Nat := (ps.map fun p => p.length + 1).sum
theorem wt_nil : wt [] = 0 := rfl
theorem wt_cons (p : List Nat) (ps) : wt (p :: ps) = p.length + 1 + wt ps := by simp [wt]
theorem wt_append (a b : List (List Nat)) : wt (a ++ b) = wt a + wt b := by simp [wt]
theorem cut_wt (s : Nat) : ∀ l, wt (cutAt s l) = l.length + 1
  | [] => rfl
  | c :: r => by
    have ih := cut_wt s r
    by_cases e : c = s
    · rw [cutAt, if_pos e, wt_cons, ih]; simp; omega
    · rw [cutAt, if_neg e]
      have h := cutAt_ne s r
      cases q : cutAt s r with
      | nil => exact absurd q h
      | cons p ps =>
        rw [q, wt_cons] at ih
        show wt ((c :: p) :: ps) = _
        rw [wt_cons, List.length_cons, List.length_cons]; omega
theorem join_len (s : Nat) : ∀ ps, (TL.joinL [s] ps).length ≤ wt ps
  | [] => Nat.zero_le _
  | [p] => by show p.length ≤ _; rw [wt_cons]; omega
  | p :: q :: r => by
    have ih := join_len s (q :: r)
    show (p ++ ([s] ++ TL.joinL [s] (q :: r))).length ≤ _
    rw [wt_cons, List.length_append, List.length_append, List.length_singleton]; omega
theorem mem_wt {p : List Nat} : ∀ {ps : List (List Nat)}, p ∈ ps → p.length + 1 ≤ wt ps
  | [], h => by simp at h
  | q :: ps, h => by
    rw [wt_cons]
    rcases List.mem_cons.mp h with e | h
    · subst e; omega
    · have := mem_wt h; omega
theorem len_wt : ∀ ps : List (List Nat), ps.length ≤ wt ps
  | [] => Nat.zero_le _
  | p :: ps => by rw [wt_cons, List.length_cons]; have := len_wt ps; omega
theorem wt_le {B : Nat} : ∀ {ps : List (List Nat)}, (∀ p ∈ ps, p.length ≤ B) → wt ps ≤ ps.length * (B + 1)
  | [], _ => Nat.zero_le _
  | p :: ps, h => by
    have ih := wt_le (B := B) (ps := ps) fun q hq => h q (List.mem_cons_of_mem _ hq)
    have := h p List.mem_cons_self
    rw [wt_cons, List.length_cons, Nat.succ_mul]; omega

/-! ### numbers -/
def dig (c : Nat) : Bool := decide (48 ≤ c) && decide (c ≤ 57)
theorem dig_iff {c : Nat} : dig c = true ↔ 48 ≤ c ∧ c ≤ 57 := by simp [dig]
theorem allDig {w : List Nat} (h : w.all dig = true) : AllDigits w := fun c hc => dig_iff.mp (List.all_eq_true.mp h c hc)
/-- parsed_number -/
def pnum (w : List Nat) : Int :=
  if (decide (1 ≤ w.length) && decide (w.length ≤ 1000) && w.all dig) = true then
    (if w.headD 0 = 48 ∧ w ≠ [48] then -1 else (digitsVal w : Int))
  else -1
/-- _law_plain_number -/
def plain (w : List Nat) (most : Int) : Int :=
  if (decide (0 < w.length) && decide (w.length < 6) && w.all dig) = true then
    (if TL.numL (digitsVal w) = w ∧ (digitsVal w : Int) ≤ most then (digitsVal w : Int) else -1)
  else -1
theorem numL_back {w : List Nat} (hd : AllDigits w) (hne : w ≠ []) (hh : ¬ (w.headD 0 = 48 ∧ w ≠ [48])) : TL.numL (digitsVal w) = w := by
  have e : ∀ l : List Nat, AllDigits l → (l.map Char.ofNat).map Char.toNat = l := by
    intro l
    induction l with
    | nil => intro _; rfl
    | cons c l ih =>
      intro h
      have hc := h.head
      rw [List.map_cons, List.map_cons, ih h.tail]
      have : ∀ c, c ≤ 57 → (Char.ofNat c).toNat = c := by
        intro c h
        have : c < 58 := by omega
        revert c; decide
      rw [this c hc.2]
  cases w with
  | nil => exact absurd rfl hne
  | cons c r =>
    have hc := hd.head
    have hh' : ¬ (c = 48 ∧ c :: r ≠ [48]) := hh
    unfold TL.numL
    by_cases h0 : c = 48
    · have hr : r = [] := by
        cases r with
        | nil => rfl
        | cons d r => exact absurd ⟨h0, by simp⟩ hh'
      subst h0 hr
      rfl
    · rw [toDigits_digitsVal r.length (c :: r) rfl hd (Or.inr ⟨c, r, rfl, by omega⟩), e _ hd]
theorem numL_head {n : Nat} (h : (TL.numL n).headD 0 = 48) : TL.numL n = [48] := by
  have hv := TL.numL_val n
  have hd := TL.numL_digits n
  cases q : TL.numL n with
  | nil => exact absurd q (TL.numL_ne n)
  | cons c r =>
    rw [q] at h hv hd
    have hc : c = 48 := h
    subst hc
    cases r with
    | nil => rfl
    | cons d r =>
      exfalso
      rw [digitsVal_zero] at hv
      -- n = digitsVal (d :: r), so numL n is what stands behind the zeros of d :: r
      have t := toDigits_all (d :: r) hd.tail
      rw [hv] at t
      have q' : (Nat.toDigits 10 n).map Char.toNat = 48 :: d :: r := q
      rw [t] at q'
      have hl : ∀ l : List Nat, (l.dropWhile (· == 48)).length ≤ l.length := fun l => by
        induction l with
        | nil => exact Nat.le_refl _
        | cons a l ih =>
          rw [List.dropWhile_cons]
          split
          · exact Nat.le_succ_of_le ih
          · exact Nat.le_refl _
      have h1 := hl (d :: r)
      have q2 := congrArg List.length q'
      rw [List.length_map] at q2
      split at q2
      · simp at q2
      · rename_i a b e
        rw [e] at h1
        rw [List.length_map, List.length_cons] at q2
        simp only [List.length_cons] at q2 h1
        omega
theorem pnum_ge (w : List Nat) : -1 ≤ pnum w := by
  unfold pnum
  split
  · split
    · exact Int.le_refl _
    · omega
  · exact Int.le_refl _
theorem pnum_back {w : List Nat} (h : 0 ≤ pnum w) : TL.numL (pnum w).toNat = w := by
  unfold pnum at h ⊢
  split at h
  · rename_i hc
    rw [if_pos hc]
    simp only [Bool.and_eq_true, decide_eq_true_eq] at hc
    split at h
    · omega
    · rename_i hh
      rw [if_neg hh]
      show TL.numL (digitsVal w) = w
      exact numL_back (allDig hc.2) (by intro e; rw [e] at hc; simp at hc) hh
  · omega
theorem plain_is {w : List Nat} {most : Int} (hm : most < 100000) : plain w most = if 0 ≤ pnum w ∧ pnum w ≤ most then pnum w else -1 := by
  by_cases hd : w.all dig = true
  · by_cases hne : w = []
    · subst hne; rfl
    have hpos : 0 < w.length := List.length_pos_iff.mpr hne
    by_cases hh : w.headD 0 = 48 ∧ w ≠ [48]
    · -- a leading zero: neither takes it
      have hn : ¬ TL.numL (digitsVal w) = w := fun e => by
        have z := numL_head (n := digitsVal w) (by rw [e]; exact hh.1)
        rw [e] at z
        exact hh.2 z
      have e1 : pnum w = -1 := by
        unfold pnum
        split <;> rfl
      rw [e1, if_neg (by omega)]
      unfold plain
      split
      · rw [if_neg (fun z => hn z.1)]
      · rfl
    · have hb := numL_back (allDig hd) hne hh
      have hlen : ∀ k, 0 < k → digitsVal w < 10 ^ k → w.length ≤ k := fun k hk h => by
        have := TL.numL_len hk h
        rw [hb] at this
        exact this
      by_cases hv : (digitsVal w : Int) ≤ most
      · have h5 : digitsVal w < 10 ^ 5 := by
          have : (10 : Nat) ^ 5 = 100000 := by decide
          omega
        have hl := hlen 5 (by decide) h5
        have e1 : pnum w = (digitsVal w : Int) := by
          unfold pnum
          rw [if_pos (by simp only [Bool.and_eq_true, decide_eq_true_eq]; exact ⟨⟨by omega, by omega⟩, hd⟩), if_neg hh]
        rw [e1, if_pos ⟨by omega, hv⟩]
        unfold plain
        rw [if_pos (by simp only [Bool.and_eq_true, decide_eq_true_eq]; exact ⟨⟨hpos, by omega⟩, hd⟩), if_pos ⟨hb, hv⟩]
      · have e2 : plain w most = -1 := by
          unfold plain
          split
          · rw [if_neg (fun z => hv z.2)]
          · rfl
        rw [e2, if_neg]
        unfold pnum
        split
        · exact fun z => hv z.2
        · omega
  · have e1 : pnum w = -1 := by
      unfold pnum
      rw [if_neg]
      simp only [Bool.and_eq_true]
      exact fun z => hd z.2
    have e2 : plain w most = -1 := by
      unfold plain
      rw [if_neg]
      simp only [Bool.and_eq_true]
      exact fun z => hd z.2
    rw [e1, e2, if_neg (by omega)]

/-! ### the parser -/
abbrev wGraph : List Nat := [103, 114, 97, 112, 104]
abbrev wNode : List Nat := [110, 111, 100, 101]
inductive Out where
  | bad (k : Nat)
  | ok (g : List (List Int))
  deriving DecidableEq
def headM (l : List Nat) : Option (Int × Int) := match cutAt 32 l with
  | [a, b, c] => if a = wGraph ∧ (0 ≤ pnum b ∧ pnum b ≤ 60) ∧ 0 ≤ pnum c ∧ pnum c ≤ 120 then some (pnum b, pnum c) else none
  | _ => none
/-- the darts of a line, where it is right behind the lines before it -/
def lineM (n m : Int) (cnt : Nat) (seen : List Int) (l : List Nat) : Option (List Int) := match cutAt 32 l with
  | [] => none
  | a :: ws => if a = wNode ∧ (cnt : Int) ≠ n ∧ (∀ d ∈ ws.map pnum, 0 ≤ d ∧ d < 2 * m) ∧ (seen ++ ws.map pnum).Nodup then some (ws.map pnum) else none
def goM (n m : Int) : List (List Nat) → Nat → List (List Int) → List Int → Out
  | [], num, rots, seen => if (rots.length : Int) < n ∨ (seen.length : Int) < 2 * m then .bad num else .ok rots
  | l :: ls, num, rots, seen => match lineM n m rots.length seen l with
    | none => .bad num
    | some ds => goM n m ls (num + 1) (rots ++ [ds]) (seen ++ ds)
def parseM (t : List Nat) : Out := match cutAt 10 t with
  | [] => .bad 1
  | l :: ls => match headM l with
    | none => .bad 1
    | some (n, m) => goM n m ls 2 [] []
/-- a graph's text -/
def rotL (r : List Int) : List Nat := TL.joinL [32] (wNode :: r.map fun d => TL.numL d.toNat)
def textM (g : List (List Int)) : List Nat :=
  TL.joinL [10] (TL.joinL [32] [wGraph, TL.numL g.length, TL.numL (g.flatten.length / 2)] :: g.map rotL)
/-- a graph: at most 60 rotations, the darts are 0 .. 2m - 1, each once, m at most 120 -/
structure Gr (g : List (List Int)) : Prop where
  n : g.length ≤ 60
  m : g.flatten.length ≤ 240
  even : g.flatten.length % 2 = 0
  mem : ∀ d ∈ g.flatten, 0 ≤ d ∧ d < (g.flatten.length : Int)
  nd : g.flatten.Nodup
/-- distinct numbers below k are at most k -/
theorem nodup_le : ∀ (k : Nat) (l : List Int), l.Nodup → (∀ d ∈ l, 0 ≤ d ∧ d < (k : Int)) → l.length ≤ k
  | 0, l, _, h => by
    cases l with
    | nil => exact Nat.le_refl _
    | cons d l => have := h d List.mem_cons_self; omega
  | k + 1, l, hn, h => by
    have h1 := nodup_le k (l.filter fun d => d != (k : Int)) (hn.filter _) fun d hd => by
      obtain ⟨hm, hb⟩ := List.mem_filter.mp hd
      have := h d hm
      have hne : d ≠ (k : Int) := bne_iff_ne.mp hb
      omega
    have h2 : l.length ≤ (l.filter fun d => d != (k : Int)).length + 1 := by
      clear h1 h
      induction l with
      | nil => exact Nat.zero_le _
      | cons d l ih =>
        rw [List.nodup_cons] at hn
        rw [List.filter_cons]
        by_cases e : d = (k : Int)
        · subst e
          have e3 : l.filter (fun x => x != (k : Int)) = l := List.filter_eq_self.mpr fun x hx => bne_iff_ne.mpr fun z => hn.1 (z ▸ hx)
          rw [if_neg (by simp), e3, List.length_cons]
          exact Nat.le_refl _
        · rw [if_pos (bne_iff_ne.mpr e), List.length_cons, List.length_cons]
          have := ih hn.2
          omega
    omega
/-- words that are read back: a join of words -/
theorem line_back {l : List Nat} {a : List Nat} {ws : List (List Nat)} (e : cutAt 32 l = a :: ws) (h : ∀ d ∈ ws.map pnum, 0 ≤ d) : TL.joinL [32] (a :: (ws.map pnum).map fun d => TL.numL d.toNat) = l := by
  have e2 : (ws.map pnum).map (fun d => TL.numL d.toNat) = ws := by
    rw [List.map_map]
    clear e
    induction ws with
    | nil => rfl
    | cons w ws ih =>
      rw [List.map_cons, ih fun d hd => h d (by rw [List.map_cons]; exact List.mem_cons_of_mem _ hd)]
      show TL.numL (pnum w).toNat :: ws = w :: ws
      rw [pnum_back (h (pnum w) (by rw [List.map_cons]; exact List.mem_cons_self))]
  rw [e2, ← e]
  exact join_cut 32 l
theorem headM_some {l : List Nat} {n m : Int} (h : headM l = some (n, m)) : 0 ≤ n ∧ n ≤ 60 ∧ 0 ≤ m ∧ m ≤ 120 ∧ TL.joinL [32] [wGraph, TL.numL n.toNat, TL.numL m.toNat] = l := by
  unfold headM at h
  split at h
  · rename_i a b c e
    split at h
    · rename_i hc
      obtain ⟨ha, ⟨h1, h2⟩, h3, h4⟩ := hc
      injection h with h
      injection h with e1 e2
      subst e1 e2
      refine ⟨h1, h2, h3, h4, ?_⟩
      rw [pnum_back h1, pnum_back h3, ← ha, ← e]
      exact join_cut 32 l
    · cases h
  · cases h
theorem lineM_some {n m : Int} {cnt : Nat} {seen : List Int} {l : List Nat} {ds : List Int} (h : lineM n m cnt seen l = some ds) :
    (cnt : Int) ≠ n ∧ (∀ d ∈ ds, 0 ≤ d ∧ d < 2 * m) ∧ (seen ++ ds).Nodup ∧ rotL ds = l := by
  unfold lineM at h
  split at h
  · cases h
  · rename_i a ws e
    split at h
    · rename_i hc
      obtain ⟨ha, h1, h2, h3⟩ := hc
      injection h with h
      subst h
      refine ⟨h1, h2, h3, ?_⟩
      unfold rotL
      rw [← ha]
      exact line_back e fun d hd => (h2 d hd).1
    · cases h
theorem goM_ok {n m : Int} (hn : 0 ≤ n ∧ n ≤ 60) (hm : 0 ≤ m ∧ m ≤ 120) {g : List (List Int)} : ∀ (ls : List (List Nat)) (num : Nat) (rots : List (List Int)) (seen : List Int),
    goM n m ls num rots seen = .ok g → seen = rots.flatten → seen.Nodup → (∀ d ∈ seen, 0 ≤ d ∧ d < 2 * m) → (rots.length : Int) ≤ n →
      Gr g ∧ (g.length : Int) = n ∧ (g.flatten.length : Int) = 2 * m ∧ g.map rotL = rots.map rotL ++ ls
  | [], num, rots, seen, h, es, hs, hb, hr => by
    unfold goM at h
    split at h
    · cases h
    · rename_i hc
      injection h with h
      subst h
      have h1 : (seen.length : Int) = 2 * m := by
        have := nodup_le (2 * m).toNat seen hs fun d hd => by have := hb d hd; omega
        omega
      have h2 : (rots.length : Int) = n := by omega
      rw [es] at h1 hb hs
      refine ⟨⟨by omega, by omega, by omega, fun d hd => by have := hb d hd; omega, hs⟩, h2, h1, by simp⟩
  | l :: ls, num, rots, seen, h, es, hs, hb, hr => by
    unfold goM at h
    split at h
    · cases h
    · rename_i ds e
      obtain ⟨h1, h2, h3, h4⟩ := lineM_some e
      have := goM_ok hn hm ls (num + 1) (rots ++ [ds]) (seen ++ ds) h (by rw [es]; simp) h3 (fun d hd => (List.mem_append.mp hd).elim (hb d) (h2 d)) (by rw [List.length_append, List.length_singleton]; omega)
      refine ⟨this.1, this.2.1, this.2.2.1, ?_⟩
      rw [this.2.2.2, List.map_append, List.map_singleton, h4]
      simp
theorem parseM_ok {t : List Nat} {g : List (List Int)} (h : parseM t = .ok g) : Gr g ∧ textM g = t := by
  unfold parseM at h
  split at h
  · cases h
  · rename_i l ls e
    split at h
    · cases h
    · rename_i n m eh
      obtain ⟨h1, h2, h3, h4, h5⟩ := headM_some eh
      obtain ⟨k1, k2, k3, k4⟩ := goM_ok ⟨h1, h2⟩ ⟨h3, h4⟩ ls 2 [] [] h rfl (by simp) (by simp) (by simpa using h1)
      refine ⟨k1, ?_⟩
      unfold textM
      have e1 : g.length = n.toNat := by omega
      have e2 : g.flatten.length / 2 = m.toNat := by omega
      rw [e1, e2, h5, k4]
      show TL.joinL [10] (l :: ([] ++ ls)) = t
      rw [List.nil_append, ← e]
      exact join_cut 10 t
end Fl
-- R1
/-! own rules, 1: int(text) beyond 640 signs -/
namespace Fl
open PySem PySem.W PySem.Calls PySem.NumText PyProof.Rows PySem.W.KIN

/-- what the digits limit asks of the statics: none is set -/
def NoDig (h : Heap) : Prop := ∃ mc, h.Ns cStatics mc ∧ mc "sys.int_max_str_digits" = none
theorem digits_any {M : Model} {A : Around} {E : Value → Shared → Prop} {s : Shared} {Q : Nat → Shared → Prop} (hd : NoDig s.heap) (h : Q 4300 s) : wpAny M A Builtin.intMaxStrDigits Q E s := by
  obtain ⟨mc, hns, hnone⟩ := hd
  unfold Builtin.intMaxStrDigits
  refine wpAny_bind (wpAny_nsGet hns ?_)
  rw [hnone]
  exact wpAny_pure h
theorem wp_long {M : Model} {A : Around} {E : Value → Shared → Prop} {s : Shared} {Q : Value → Shared → Prop} {v : Value} {text : List Nat} {n : Int}
    (hd : NoDig s.heap)
    (hr0 : (text.takeWhile (· != 0)).length ≤ 640 → (int_private% "readNumeral") 0 10 (text.takeWhile (· != 0)) = (int_private% "Numeral.value") n)
    (hr1 : ¬ (text.takeWhile (· != 0)).length ≤ 640 → (int_private% "readNumeral") 4300 10 (text.takeWhile (· != 0)) = (int_private% "Numeral.value") n)
    (ha : ((text.takeWhile (· != 0)).length == text.length) = true) (h : Q (.int n s.toks) { s with toks := s.toks + 1 }) :
    wpAny M A ((int_private% "intFromText") v text 10) Q E s := by
  by_cases hs : (text.takeWhile (· != 0)).length ≤ 640
  · have hr := hr0 hs
    refine wpAny_ite ?_
    rw [if_pos hs]
    refine wpAny_bind (wpAny_pure ?_)
    dsimp only
    rw [hr]
    dsimp only
    rw [if_pos ha]
    exact wpAny_mkInt h
  · have hr := hr1 hs
    refine wpAny_ite ?_
    rw [if_neg hs]
    refine wpAny_bind (digits_any hd ?_)
    dsimp only
    rw [hr]
    dsimp only
    rw [if_pos ha]
    exact wpAny_mkInt h
structure Hidden (p : Prop) : Prop where
  out : p
set_option maxHeartbeats 4000000 in
theorem meets_text {x : PySem.Str} {u : Tok} {n : Int} (hl : x.length ≤ 4300) (hn : PySem.intText? x = some n) :
    Meets (Builtin.«int.__new__» ⟨[.type "int", .str x u], []⟩) (fun _ R s => NoDig s.heap ∧ R (.ok (.ret (.int n s.toks))) { s with toks := s.toks + 1 }) :=
  .of_wp fun prog w A R s h => by
    obtain ⟨hp, g, d, tk, os⟩ := s
    obtain ⟨hd, h⟩ := h
    have f1 := F.conv_sub_int
    have f2 := F.madeHere_int
    have f3 := str_int
    have f4 := str_idx
    have f5 := str_trunc
    have f6 : typeOf (.str x u) = pure (.type "str") := rfl
    have hz : x.length ≤ sizeLine := by rw [sizeLine_eq]; omega
    have hr : ((numSeenOf x).length ≤ 640 → (int_private% "readNumeral") 0 10 (numSeenOf x) = (int_private% "Numeral.value") n) ∧ (¬ (numSeenOf x).length ≤ 640 → (int_private% "readNumeral") 4300 10 (numSeenOf x) = (int_private% "Numeral.value") n) ∧ ((numSeenOf x).length == (numTextOf x).length) = true := by
      rcases readAny x hz with ⟨m, h1, h2, h3⟩ | ⟨h1, _⟩
      · rw [hn] at h1
        injection h1 with h1
        subst h1
        refine ⟨fun z => ?_, fun z => ?_, h2⟩
        · rw [show numLimitOf x = 0 from if_pos z] at h3
          exact h3
        · rw [show numLimitOf x = 4300 from if_neg z] at h3
          exact h3
      · rw [hn] at h1
        cases h1
    have hk := Hidden.mk (And.intro hd hr)
    clear hd hr hz hl hn
    repeat (any_goals (first
      | assumption
      | ((with_reducible show wpAny _ _ ((int_private% "intFromText") _ _ _) _ _ _); refine wp_long hk.out.1 hk.out.2.1 hk.out.2.2.1 hk.out.2.2.2 ?_)
      | wp_step))
    all_goals first | exact ⟨_, rfl, h⟩ | skip
theorem int_long {prog : Program} {w : World} {A : Around} {E : Value → Shared → Prop} {s : Shared} {Q : Value → Shared → Prop} {x : PySem.Str} {t : Tok} {n : Int}
    (hd : NoDig s.heap) (hn : PySem.intText? x = some n) (hl : x.length ≤ 4300) (h : Q (.int n s.toks) { s with toks := s.toks + 1 }) : wpAny (model prog w) A (call (.type "int") [.str x t]) Q E s :=
  call_int_1 (meets_text hl hn) ⟨hd, rfl, h⟩
end Fl
namespace Fl
open PySem PySem.Spec PyProof.Rows L2
/-- int(text), all digits, at most 4300 -/
def rInt : List V → Hp → VK → Prop := fun xs H Q => ∃ a : List Nat, xs = [.str (SX.S a)] ∧ a.all dig = true ∧ a ≠ [] ∧ a.length ≤ 4300 ∧ Q (.int (NumText.digitsVal a : Nat)) H
theorem call_intL {X : Cx} (nd : NoDig X.base) : CallR X (.type "int") rInt := by
  intro pins s σ H xs us Q I rs h
  obtain ⟨a, rfl, ha, hne, hl, h⟩ := h
  cases rs with
  | cons r1 rs =>
    cases rs
    obtain ⟨t, rfl⟩ := r1
    have nd' : NoDig s.heap := let ⟨mc, h1, h2⟩ := nd; ⟨mc, h1.keeps I.bk, h2⟩
    exact int_long nd' (SX.int_S ha hne hl) (by rw [SX.S_len]; exact hl) ⟨.int _, H, I.tok _, ⟨_, rfl⟩, h⟩
end Fl
-- R2
/-! own rules, 2: for i, x in enumerate(xs, start=k) -/
namespace Fl
open PySem PySem.Spec PyProof.Rows L2
/-- the pairs of enumerate(xs, start=k) -/
def ItS (K : PySem.W.Frag) (k : Int) (a : Addr) : It where
  go := fun i H => ∃ (xs : List V) (x : V), SqL K H a xs ∧ xs[i]? = some x
  yld := fun i H v H' => ∃ T x, v = .ref T ∧ H T = none ∧ H' = upd H T (.tup [.int (k + i), x]) ∧ ∀ xs, SqL K H a xs → xs[i]? = some x
  stop := fun i H => ∃ xs : List V, SqL K H a xs ∧ xs.length = i
/-- where it stands -/
structure AtS (k : Int) (e it a : Addr) (i : Nat) (h : Heap) : Prop where
  en : ∃ old, IsEnum h e it (k + (i : Int)) old
  li : h.IsListIter it a i
  ne : e ≠ it
  na : a ≠ it ∧ a ≠ e
theorem turn_start {P : Program} {w : World} {K : PySem.W.Frag} {elts : List Expr} {kk : Nat} {tpos : Pos} (k : Int) (a e it : Addr) :
    Turn P w K (.Tuple elts kk tpos) (ItS K k a) [e, it] e (AtS k e it a) where
  mem := List.mem_cons_self
  obj := fun i h st b hb => by
    obtain ⟨⟨old, he⟩, ⟨o, ho, hc, hd⟩, _, _⟩ := st
    rcases List.mem_cons.mp hb with z | z
    · exact ⟨_, by rw [z]; exact he, fun v q => by cases q⟩
    · rw [List.mem_singleton.mp z]
      exact ⟨o, ho, fun v q => by rw [hd] at q; cases q⟩
  keep := fun i h h' st kp => by
    obtain ⟨⟨old, he⟩, hi, hne, hna⟩ := st
    exact ⟨⟨old, kp e (by simp) _ he⟩, hi.at fun o q => kp it (by simp) o q, hne, hna⟩
  item := by
    intro X hP hw hK hc i pins s σ H E I hf st hg
    subst hP hw hK
    obtain ⟨⟨old, he⟩, hit, hne, hna⟩ := st
    obtain ⟨xs, x, hq, hx⟩ := hg
    obtain ⟨its, rv, p, hz⟩ := I.list hq
    obtain ⟨u, hu, ru⟩ := rv.get hx
    have hel : e < s.heap.objs.size := Heap.lt_size he
    have hil : it < s.heap.objs.size := by obtain ⟨_, q, _⟩ := hit; exact Heap.lt_size q
    have hlt : i < its.toArray.size := by
      rw [List.size_toArray]
      exact (List.getElem?_eq_some_iff.mp hu).1
    refine wpAny_pyNext_enum_itemC (Draws.list (A := X.A.in1) (I.ok.hd hc) it a hna.1 its.toArray) he ⟨hit, p.isList⟩ hlt hne (by simp; exact ⟨hne, Ne.symm hna.2⟩) fun y h' tk hy ho st' hT hsz hk => ?_
    have ey : y = u := by
      have q : its[i]? = some y := by simpa using hy
      rw [hu] at q
      exact (Option.some.inj q).symm
    subst ey
    refine ⟨_, rfl, wpAny_letOwnedTupleGo_enum (s := { s with heap := h', toks := tk + 1 }) ho fun h'' he' sb => ?_⟩
    have hT2 : h''.get? s.heap.objs.size = some { cls := .type "tuple", data := .seq #[.int (k + (i : Int)) tk, y] } := (sb.2 _ (Nat.ne_of_gt hel)).trans hT
    have new : ObjOk X.prog X.w (upd H s.heap.objs.size (.tup [.int (k + i), x])) h'' s.heap.objs.size (.tup [.int (k + i), x]) :=
      ⟨by show 2 ≤ sizeLine; decide, [.int (k + (i : Int)) tk, y], .cons ⟨_, rfl⟩ (.cons ru .nil), ⟨_, hT2, rfl, _, rfl⟩⟩
    have I1 : Inv X pins σ (upd H s.heap.objs.size (.tup [.int (k + i), x])) { s with heap := h'', toks := tk + 1 } :=
      I.turnedNew (ch := [e, it]) (fun b ob hb q => (sb.2 b (fun z => hb (by simp [z]))).trans (hk b ob (fun z => hb (by simp [z])) (fun z => hb (by simp [z])) q)) hf (Nat.le_refl _) new
    refine ⟨.ref s.heap.objs.size, _, I1, rfl, ⟨_, x, rfl, I.hok.fresh (Nat.le_refl _), rfl, fun ys hy => by rw [I.list_inj hy hq]; exact hx⟩, ⟨⟨y, ?_⟩, st'.1.at fun o q => (sb.2 it (Ne.symm hne)).trans q, hne, hna⟩, fun b hb => ?_⟩
    · have e1 : k + ((i + 1 : Nat) : Int) = k + (i : Int) + 1 := by omega
      rw [e1]; exact he'
    · have hb' : b < s.heap.objs.size := by
        rcases List.mem_cons.mp hb with z | z
        · rw [z]; exact hel
        · rw [List.mem_singleton.mp z]; exact hil
      rw [upd_ne (Nat.ne_of_lt hb')]
      exact (hf b hb).1
  done := by
    intro X hP hw hK hc i pins s σ H E I hf st hg
    subst hP hw hK
    obtain ⟨⟨old, he⟩, hit, hne, hna⟩ := st
    obtain ⟨xs, hq, hx⟩ := hg
    obtain ⟨its, rv, p, hz⟩ := I.list hq
    obtain ⟨f0, f1, f2, f3, f4, f5⟩ := hf it (by simp)
    have hl := rv.length
    have ei : i = its.toArray.size := by rw [List.size_toArray]; omega
    refine wpAny_pyNext_enum_endD (Draws.list (A := X.A.in1) (I.ok.hd hc) it a hna.1 its.toArray) he (by rw [← ei]; exact ⟨hit, p.isList⟩) fun h' eb => ⟨rfl, I.turned (t' := s.toks) (fun b o hb q => eb b o hb q) f0 f1 f3 f4 f5⟩
  self := fun A i s Q E st h => by
    obtain ⟨⟨_, he⟩, _⟩ := st
    exact wpAny_pyIter_enum he h
section
variable {M : Model} {A : Around} {E : Value → Shared → Prop} {s : Shared} {env : Env}
/-- a call of a built-in class with keywords -/
theorem callWith_typeKw {pos : Pos} {T : String} {e : Expr} {rest : List Expr} {kws : List Keyword} {Q : Value → Shared → Prop}
    (h : wpAny M A (spliced (backTo pos (starEach (e :: rest) env))) (fun vs s₁ => wpAny M A (evalAll ((backToKw pos (keywordEach kws env)).map (·.2)))
      (fun kvs s₂ => wpAny M A (call (.type T) vs (((backToKw pos (keywordEach kws env)).filterMap (·.1)).zip kvs)) Q E s₂) E s₁) E s)
    (he : backTo pos (starEach (e :: rest) env) = (false, eval e env) :: backTo pos (starEach rest env) := by rfl)
    (hplain : (backTo pos (starEach (e :: rest) env)).any (·.1) = false := by rfl)
    (hall : (backToKw pos (keywordEach kws env)).all (·.1.isSome) = true := by rfl)
    (hkw : (backToKw pos (keywordEach kws env)).any (·.1.isNone) = false := by rfl) :
    wpAny M A (callWith pos (.type T) [] (backTo pos (starEach (e :: rest) env)) (backToKw pos (keywordEach kws env))) Q E s := by
  unfold callWith
  have h2 : wpAny M A (evalArgs (.type T) true (backTo pos (starEach (e :: rest) env)) (backToKw pos (keywordEach kws env))) (fun a s₁ => wpAny M A (call (.type T) ([] ++ a.pos) a.kw) Q E s₁) E s := by
    rw [he] at h ⊢
    exact evalArgs_kwB hall h
  refine wpAny_bind (wpAny_holding (wpAny_mono h2 (fun a s₁ h₁ => wpAny_bind (wpAny_standAt ?_)) fun _ _ x => x))
  simp only [hplain, hkw, Bool.or_false]
  refine wpAny_bind (wpAny_pure ?_)
  exact wpAny_bind (wpAny_mono h₁ (fun r s₂ hr => wpAny_bind (wpAny_holding (wpAny_point (wpAny_pure hr)))) fun _ _ x => x)
end
/-- enumerate(xs, start=k), k written -/
def iStart (K : PySem.W.Frag) (k : Int) (ta : TA) : TI := fun σ H R => ta σ H fun vs H1 => ∃ a xs, vs = [.ref a] ∧ SqL K H1 a xs ∧ R (ItS K k a) H1
theorem pi_start {X : Cx} {e : Expr} {ta : TA} {p pos tpos kp cp : Pos} {elts : List Expr} {kk j : Nat} {k : Int} (hk0 : -(2 ^ 63) ≤ k) (hk1 : k < 2 ^ 63) (hg : Gl X "enumerate") (hm : X.mg "enumerate" = none) (ha : PA X [e] ta)
    (hpk : PK X [⟨some "start", .Constant (.int k) j cp, kp⟩] (tCons (tC (.int k)) tNil))
    (he : backTo pos (starEach [e] X.env) = (false, eval e X.env) :: backTo pos (starEach [] X.env) := by rfl) (hpl : (backTo pos (starEach [e] X.env)).any (·.1) = false := by rfl)
    (hall : (backToKw pos (keywordEach [⟨some "start", .Constant (.int k) j cp, kp⟩] X.env)).all (·.1.isSome) = true := by rfl) (hnone : (backToKw pos (keywordEach [⟨some "start", .Constant (.int k) j cp, kp⟩] X.env)).any (·.1.isNone) = false := by rfl)
    (hks : (backToKw pos (keywordEach [⟨some "start", .Constant (.int k) j cp, kp⟩] X.env)).filterMap (·.1) = [("start" : Str)] := by rfl) :
    PI X (.Tuple elts kk tpos) (.Call (.Name "enumerate" p) [e] [⟨some "start", .Constant (.int k) j cp, kp⟩] pos) (iStart X.K k ta) := by
  refine ⟨fun pins s σ H R I h => ?_⟩
  refine wpAny_Call_Name_kw (ld_blt I hg hm boot_enumerate ?_)
  refine callWith_typeKw (thn (ha.run pos pins s σ H _ I h) fun us s1 ⟨vs, H1, I1, r1, q1⟩ => thn (hpk.run pos pins s1 σ H1 (fun zs H2 => zs = [.int k] ∧ H2 = H1) I1 ⟨rfl, rfl⟩) fun ws s2 ⟨zs, H2, I2, r2, q2, q3⟩ => ?_) he hpl hall hnone
  subst q2 q3
  obtain ⟨a, xs, ex, hq, q⟩ := q1
  subst ex
  rw [hks]
  cases r2 with
  | cons rz rzz =>
    cases rzz
    obtain ⟨tz, rfl⟩ := rz
    cases r1 with
    | cons r rr =>
      cases rr
      cases r
      obtain ⟨its, rv, p', hz⟩ := I2.list hq
      have hal : a < s2.heap.objs.size := by obtain ⟨o, n, ho, _⟩ := p'; exact Heap.lt_size ho
      refine enum_begins_start (begins_list a its.toArray) p'.isList hk0 hk1 fun h' he hit hsz hk => ?_
      have I3 : Inv X pins σ H2 { s2 with heap := h' } := I2.kept (t' := s2.toks) hk
      refine wpAny_pyIter_enum he ?_
      have e0 : (k + ((0 : Nat) : Int)) = k := by omega
      refine ⟨s2.heap.objs.size + 1, [s2.heap.objs.size + 1, s2.heap.objs.size], _, _, H2, rfl, I3, turn_start k a (s2.heap.objs.size + 1) s2.heap.objs.size, ⟨⟨.none, by rw [e0]; exact he⟩, ⟨_, hit, rfl, rfl⟩, Nat.succ_ne_self _, Nat.ne_of_lt hal, Nat.ne_of_lt (Nat.lt_succ_of_lt hal)⟩, fun b hb => ?_, q⟩
      have hle : s2.heap.objs.size ≤ b := by
        rcases List.mem_cons.mp hb with z | z
        · rw [z]; exact Nat.le_add_right _ _
        · rw [List.mem_singleton.mp z]; exact Nat.le_refl _
      exact I2.fpOk hle (I2.hok.fresh hle)
end Fl
-- R3
set_option maxHeartbeats 4000000
/-! own rules, 3: an error caught by a clause of three classes and kept by a name behind the suite; what may be asked of it then -/
namespace Fl
open PySem PySem.Spec PyProof.Rows L2

/-- at a: an error that was caught; its class, its own dict -/
def heldE (a : Addr) (cls : Value) (d : Option Addr) : HO := .ext fun h => ∃ (oe : Obj) (vs : Array Value), h.get? a = some oe ∧ Zc cls d oe ∧ oe.data = .fields vs
theorem heldE_at {P : Program} {w : World} {H : Hp} {h : Heap} {a : Addr} {cls : Value} {d : Option Addr} (ok : HOk P w H h) (e : H a = some (heldE a cls d)) : ∃ (oe : Obj) (vs : Array Value), h.get? a = some oe ∧ Zc cls d oe ∧ oe.data = .fields vs := (ok a _ e).1
section
variable {X : Cx} {pins : List (Addr × Obj)} {σ : L2.St} {H : Hp} {s : Shared}
/-- an untracked object that is younger than the entry is tracked from now on -/
theorem inv_track {a : Addr} {oe : Obj} {vs : Array Value} {cls : Value} {d : Option Addr} (I : Inv X pins σ H s) (ha : s.heap.get? a = some oe) (hz : Zc cls d oe) (hd : oe.data = .fields vs) (n0 : X.s_0.heap.get? a = none)
    (hn : H a = none) (nL : a ≠ X.env.locals) (np : ∀ p ∈ X.pn ++ pins, p.1 ≠ a) : Inv X pins σ (upd H a (heldE a cls d)) s := by
  have some_ne : ∀ {b : Addr} {u : HO}, H b = some u → b ≠ a := fun {b u} e => ne_of_none e hn
  have old_ne : ∀ {b : Addr} {o : Obj}, X.s_0.heap.get? b = some o → b ≠ a := fun {b o} e z => by rw [z, n0] at e; cases e
  have up : ∀ {b : Addr}, b ≠ a → upd H a (heldE a cls d) b = H b := fun h => upd_ne h
  have cn : ∀ x c, X.env.cells.lookup x = some c → c ≠ a := fun x c e z => by
    obtain ⟨v, o, ho, hv⟩ := I.cell x c e
    rw [z, ha] at ho
    cases ho
    rw [hd] at hv
    cases hv
  refine ⟨I.ok, I.os, I.bare, ⟨I.base.keep, I.base.slot, fun b o e n hx => ?_, I.base.there, fun b xs e => ?_, fun b o u e => ?_, fun b ps e => ?_⟩, I.loc, I.cell, ?_, fun x c e => ?_, fun p hp => ?_, ?_, I.len⟩
  · rw [up (old_ne e)]; exact I.base.free b o e n hx
  · have q := I.base.tups b xs e
    rw [up (some_ne q)]; exact q
  · have q := I.base.frzs b o u e
    rw [up (some_ne q)]; exact q
  · obtain ⟨m, q⟩ := I.base.tbls b ps e
    exact ⟨m, by rw [up (some_ne q)]; exact q⟩
  · rw [up (Ne.symm nL)]; exact I.free
  · rw [up (cn x c e)]; exact I.freeC x c e
  · obtain ⟨e, n, ne, nf, dd⟩ := I.pin p hp
    exact ⟨e, by rw [up (np p hp)]; exact n, ne, nf, dd⟩
  · refine HOk.laidN I.hok (fun _ _ e => e) hn ?_
    exact ⟨⟨oe, vs, ha, hz, hd⟩, ⟨oe, ha⟩, fun h1 h2 z k => by
      obtain ⟨o, v, q, r⟩ := z
      exact ⟨o, v, k o q, r⟩⟩
end
/-- what flies, where all objects are kept -/
theorem fly_kept {base h h' : Heap} {l : List Env} {e : Addr} {Z : Obj → Prop} (x : HandSPX.FlyingZ base l e Z h) (k : ∀ b o, h.get? b = some o → h'.get? b = some o) : HandSPX.FlyingZ base l e Z h' := by
  obtain ⟨h1, h2, h3, oe, vs, T, oT, ts, he, hz, hd, hv, hnT, hTe, hT, hdT, hf⟩ := x
  exact ⟨fun b o q => k b o (h1 b o q), h2, h3.of_keeps fun b o q _ => ⟨o, k b o q, rfl⟩, oe, vs, T, oT, ts, k _ _ he, hz, hd, hv, hnT, hTe, k _ _ hT, hdT, hf⟩

/-- what a clause over the classes c1, c2, c3 wishes of an error of the body, that it keeps at slot j; slot i is the clause's own name -/
def wKeep (K : PySem.W.Frag) (c1 c2 c3 : Value) (i j : Nat) (D : Ends) : WX := fun cls d σ H =>
  PySem.W.exmAny K cls [c1, c2, c3] = some true ∧ ∀ a, H a = none → i < σ.length → j < σ.length → D.nx (((σ.set i (some (.ref a))).set j (some (.ref a))).set i none) (upd H a (heldE a cls d))

section
variable {X : Cx} {x1 x2 x3 n y : Str} {C1 C2 C3 : Addr} {i j kt : Nat} {body : List Stmt} {q1 q2 q3 qt pos pos' ap py pn : Pos} {tb : WX → TS}
theorem ps_try_keep (hs : X.stack = X.env :: X.outer) (hf : X.env.frame = some X.env.locals) (hex : X.ex = []) (hN : X.N.Nodup) (hi : X.N[i]? = some n) (hj : X.N[j]? = some y) (hij : i ≠ j) (hln : X.env.kindOf n = some .local) (hly : X.env.kindOf y = some .local)
    (g1 : Gl X x1) (g2 : Gl X x2) (g3 : Gl X x3) (m1 : X.mg x1 = some (.ref C1)) (m2 : X.mg x2 = some (.ref C2)) (m3 : X.mg x3 = some (.ref C3))
    (b1 : (x1 == ("__debug__" : Str)) = false) (b2 : (x2 == ("__debug__" : Str)) = false) (b3 : (x3 == ("__debug__" : Str)) = false) (bn : (n == ("__debug__" : Str)) = false) (bc : (n == ("__classdict__" : Str)) = false)
    (hb : ∀ (W : WX) (pn : List (Addr × Obj)) (xe : Value → Shared → Prop), Takes (X.tr pn xe) W → PassesOwn (model X.prog X.w) X.A X.env xe → PSs (X.tr pn xe) body (tb W))
    (hst : starEach [.Name x1 q1, .Name x2 q2, .Name x3 q3] X.env = [(false, eval (.Name x1 q1) X.env), (false, eval (.Name x2 q2) X.env), (false, eval (.Name x3 q3) X.env)] := by rfl)
    (hsw : swapsWith (.Name n pn) (some (.Name y py)) ap.line X.env = pure false := by rfl) :
    PS X (.Try body [.ExceptHandler (some (.Tuple [.Name x1 q1, .Name x2 q2, .Name x3 q3] kt qt)) (some n) [.Assign [.Name y py] (.Name n pn) ap] pos'] [] [] pos)
      (fun D σ H => tb (wKeep X.K (.ref C1) (.ref C2) (.ref C3) i j D) D σ H) := by
  refine ⟨fun pins s σ H D I h => ?_⟩
  have ok := I.ok
  have hfr : X.A.frames = some (X.env :: X.outer) := by rw [ok.frames, hs]
  have hloc : Loc X.env.scope n := .inl hln
  refine wpAny_Try_except ?_
  refine wpAny_mono ((hb (wKeep X.K (.ref C1) (.ref C2) (.ref C3) i j D) (X.pn ++ pins) (fun e s₁ => wpAny (model X.prog X.w) X.A (noteFrame e X.env) (fun _ s₂ => wpAny (model X.prog X.w) X.A (setFlight e none) (fun _ s₃ =>
    wpAny (model X.prog X.w) X.A (handleBy e X.env [.ExceptHandler (some (.Tuple [.Name x1 q1, .Name x2 q2, .Name x3 q3] kt qt)) (some n) [.Assign [.Name y py] (.Name n pn) ap] pos']) (SP X pins D) X.xe s₃) X.xe s₂) X.xe s₁) (fun u s' xx => ?_) PassesOwn.looking).run [] s σ H D (I.toTry _) h) (fun f s1 hsp => ?_) (fun e s1 he => he)
  · obtain ⟨a, B, sI, pins', σ', H', cls, d, rfl, J', nb, up, sky, na, os, ag, hyes, hgo⟩ := xx
    have J : Inv X pins σ' H' sI := J'.ofTry ok
    have sky' : Sky B (X.env :: X.outer) a (Zc cls d) X.env.locals s'.heap := by rw [← hs]; exact sky
    show wpAny (model X.prog X.w) X.A (noteFrame (.ref a) X.env) _ _ _
    refine Sky.land Zc.steady hfr hf sky' fun h3 fl3 up3 => ?_
    have J3 : Inv X pins σ' H' { s' with heap := h3 } := J.landed nb fl3.1 (up.trans up3) os ag
    obtain ⟨oe3, vs3, he3, hz3, hd3⟩ := fl3.there
    have nfr : a ∉ frs (X.env :: X.outer) := fun hm => by
      obtain ⟨_, o', e', hnf⟩ := fl3.2.2.1.mem hm
      rw [he3] at e'
      cases e'
      exact hnf _ hd3
    have nL : a ≠ X.env.locals := fun z => nfr (List.mem_filterMap.mpr ⟨X.env, List.mem_cons_self, by rw [hf, z]⟩)
    have nF : a ∉ X.fs := fun hm => by
      obtain ⟨e, he, q⟩ := List.mem_filterMap.mp hm
      exact nfr (List.mem_filterMap.mpr ⟨e, List.mem_cons_of_mem _ he, q⟩)
    have aB : B.get? a = none := fl3.2.1
    -- what stood at the entry, what is pinned: none of it stands at a
    have inI : ∀ {o : Obj}, sI.heap.get? a = some o → False := fun {o} e => by
      have z := nb a o e (by rw [hs]; exact nfr)
      rw [aB] at z
      cases z
    have n0 : X.s_0.heap.get? a = none := by
      cases e : X.s_0.heap.get? a with
      | none => rfl
      | some o =>
        obtain ⟨o', q⟩ := J.base.there a o e (by rw [hex]; simp)
        exact (inI q).elim
    have np : ∀ p ∈ X.pn ++ pins, p.1 ≠ a := fun p hp z => by
      have q := (J.pin p hp).1
      rw [z] at q
      exact inI q
    have S3 := J3.suite he3 hd3 na nL nF
    refine wpAny_handleBy_cons (codeAny_handlers_test ?_) (by intro q; cases q)
    refine Tuple_ ?_
    rw [hst]
    show wpAny _ _ (spliced (backTo qt [(false, eval (.Name x1 q1) X.env), (false, eval (.Name x2 q2) X.env), (false, eval (.Name x3 q3) X.env)])) _ _ _
    refine Calls.spliced_cons (ld_glob (X := X.suite a ((a, oe3) :: (X.pn ++ pins))) S3 g1 m1 ?_ b1)
    refine Calls.spliced_cons (ld_glob (X := X.suite a ((a, oe3) :: (X.pn ++ pins))) S3 g2 m2 ?_ b2)
    refine Calls.spliced_cons (ld_glob (X := X.suite a ((a, oe3) :: (X.pn ++ pins))) S3 g3 m3 ?_ b3)
    refine Calls.spliced_nil ?_
    refine wpAny_newTuple ?_
    have kp : ∀ b o, h3.get? b = some o → (h3.push { cls := .type "tuple", data := .seq [Value.ref C1, Value.ref C2, Value.ref C3].toArray }).get? b = some o := fun b o e => Heap.get?_push_of_some _ e
    have hT : (h3.push { cls := .type "tuple", data := .seq [Value.ref C1, Value.ref C2, Value.ref C3].toArray }).get? h3.objs.size = some { cls := .type "tuple", data := .seq [Value.ref C1, Value.ref C2, Value.ref C3].toArray } := Heap.get?_push_size _ rfl
    have LT : PySem.W.Looks (model X.prog X.w) (h3.push { cls := .type "tuple", data := .seq [Value.ref C1, Value.ref C2, Value.ref C3].toArray }) (typeOf (.ref a)) cls := fun A Q E s k q => wpAny_typeOf_ref (k _ _ (kp _ _ he3)) (by rw [hz3.1]; exact q)
    have LM := PySem.W.exm_tup3 (M := model X.prog X.w) (J3.kIn.keeps kp) LT hT hyes
    refine LM.here ?_
    show codeAny _ _ (.handlers (.ref a) [.ExceptHandler none (some n) [.Assign [.Name y py] (.Name n pn) ap] pos'] X.env) _ _
    refine codeAny_handlers_suite_as ?_
    refine HandSPX.lands_againZ (fly_kept fl3 kp) fun h4 fl4 up4 => ?_
    have J4 : Inv X pins σ' H' { s' with heap := h4 } := J.landed nb fl4.1 (((up.trans up3).trans (Heap.UpToSlots.of_keeps kp)).trans up4) os ag
    obtain ⟨oe4, vs4, he4, hz4, hd4⟩ := fl4.there
    have S4 := J4.suite he4 hd4 na nL nF
    have li : i < σ'.length := by rw [S4.len]; exact (List.getElem?_eq_some_iff.mp hi).1
    have lj : j < σ'.length := by rw [S4.len]; exact (List.getElem?_eq_some_iff.mp hj).1
    refine store_ok (X := X.suite a ((a, oe4) :: (X.pn ++ pins))) (v := .ref a) S4 hN hi hloc rfl (fun s5 S5 => ?_) (.inr hln)
    have hσ : (σ'.set i (some (V.ref a)))[i]? = some (some (V.ref a)) := by
      have e1 := S4.len
      have e2 := (List.getElem?_eq_some_iff.mp hi).1
      exact List.getElem?_set_self (by rw [e1]; exact e2)
    have suite : PSs (X.suite a ((a, oe4) :: (X.pn ++ pins))) [.Assign [.Name y py] (.Name n pn) ap] (tSeq (tAsg (tVar i) (gName j)) tNext) :=
      pss_cons (ps_asg (pe_var hi (.inl hln) bn bc) (pg_name hN hj (.inl hly) (.inr hly)) hsw) pss_nil
    refine wpAny_mono (suite.run [] s5 _ H' { nx := fun σ6 H6 => σ6 = (σ'.set i (some (.ref a))).set j (some (.ref a)) ∧ H6 = H', rt := fun _ _ => False } S5 ⟨_, hσ, rfl, rfl⟩) (fun f s6 hsp => ?_) (fun _ _ z => False.elim z)
    cases f with
    | brk =>
      obtain ⟨_, _, _, z⟩ := hsp
      exact False.elim z
    | cont =>
      obtain ⟨_, _, _, z⟩ := hsp
      exact False.elim z
    | ret u =>
      obtain ⟨_, _, _, _, _, z⟩ := hsp
      exact False.elim z
    | next =>
      obtain ⟨σ6, H6, S6, e6, e7⟩ := hsp
      subst e6 e7
      refine gone_ok (X := X.suite a ((a, oe4) :: (X.pn ++ pins))) S6 hN hi hln fun s7 S7 => ?_
      obtain ⟨p1, p2, p3, p4, p5⟩ := S7.pin (a, oe4) (List.mem_append_left _ List.mem_cons_self)
      have J7 := S7.unsuite ok
      exact ⟨_, _, inv_track J7 p1 hz4 hd4 n0 p2 nL np, hgo a na li lj⟩
  · cases f with
    | next =>
      obtain ⟨σ', H', J', q⟩ := hsp
      exact wpAny_execs_nil ⟨σ', H', J'.ofTry ok, q⟩
    | brk =>
      obtain ⟨σ', H', J', q⟩ := hsp
      exact ⟨σ', H', J'.ofTry ok, q⟩
    | cont =>
      obtain ⟨σ', H', J', q⟩ := hsp
      exact ⟨σ', H', J'.ofTry ok, q⟩
    | ret u =>
      obtain ⟨v, σ', H', J', r, q⟩ := hsp
      exact ⟨v, σ', H', J'.ofTry ok, r, q⟩
end

/-! ### asked of the kept error -/
theorem isi_self {M : Program} {w : World} {A : Around} {E : Value → Shared → Prop} {s : Shared} {Q : Value → Shared → Prop} {a C : Addr} {o : Obj} (ho : s.heap.get? a = some o) (hc : o.cls = .ref C) (h : Q (.bool true) s) :
    wpAny (model M w) A (call (.builtin "isinstance") [.ref a, .ref C]) Q E s := by
  refine call_isinstance_of ?_
  unfold Builtin.«isinstance.nested»
  refine wpAny_bind (m := typeOf (.ref a)) (wpAny_typeOf_ref ho ?_)
  rw [hc]
  show wpAny _ _ (if (Value.ref C == Value.ref C) = true then _ else _) _ _ s
  rw [if_pos (by simp)]
  repeat (first | refine wpAny_pure ?_ | refine wpAny_rule ?_ | refine wpAny_bind ?_)
  exact h
section
variable {X : Cx}
theorem call_isHeld : CallR X (.builtin "isinstance") (fun xs H Q => ∃ (a C : Addr) (d : Option Addr), xs = [.ref a, .ref C] ∧ H a = some (heldE a (.ref C) d) ∧ Q (.bl true) H) := by
  intro pins s σ H xs us Q I r h
  obtain ⟨a, C, d, rfl, ha, q⟩ := h
  cases r with
  | cons r1 r =>
    cases r with
    | cons r2 r =>
      cases r
      cases r1
      cases r2
      obtain ⟨oe, vs, ho, hz, _⟩ := heldE_at I.hok ha
      exact isi_self ho hz.1 ⟨.bl true, H, I, rfl, q⟩
/-- e.f of the kept error -/
def tHeldF (K : PySem.W.Frag) (f : Str) (te : TE) : TE := fun σ H Q => te σ H fun x H1 => ∃ (a C dd : Addr) (fs : List (Str × V)) (v : V), x = .ref a ∧ XfC K C ∧ PySem.W.findIn K (.ref C) f = some none ∧ H1 a = some (heldE a (.ref C) (some dd)) ∧ H1 dd = some (.xd fs) ∧ fs.lookup f = some v ∧ Q v H1
theorem pe_heldF {e : Expr} {te : TE} {f : Str} {pos : Pos} (he : PE X e te) (hb : attributeBase e f X.env (eval e X.env) = eval e X.env := by rfl) : PE X (.Attribute e f pos) (tHeldF X.K f te) := by
  refine ⟨fun pins s σ H Q I h => ?_⟩
  refine attr_of hb (thn (he.run pins s σ H _ I h) fun u s1 hh => ?_)
  obtain ⟨x, H1, I1, rx, a, C, dd, fs, v, ex, T, hno, ha, hd, l, q⟩ := hh
  subst ex
  obtain rfl : u = Value.ref a := rx
  obtain ⟨oe, vs, ho, hz, hv⟩ := heldE_at I1.hok ha
  have hx : ObjOk X.prog X.w H1 s1.heap dd (.xd fs) := I1.hok dd _ hd
  obtain ⟨mA, hns, hr⟩ := hx
  obtain ⟨od, ho2, hl⟩ := lookIn_ns hns
  obtain ⟨u, hu, ru⟩ := RelO.some_of (v := v) (o := mA f) (by rw [← l]; exact hr f)
  have J : PySem.W.InstAt s1.heap a oe C (some od) := ⟨ho, hz.1, by unfold PySem.W.notCls; rw [hv] <;> rfl, by rw [hz.2]; exact ho2⟩
  exact HandSPX.exc_get I1.kIn J T.ga T.gg T.exC (PySem.W.findObj_own T.hdC hno rfl (by rw [hl, hu])) (handed_of ru) ⟨v, H1, I1.tok _, ru, q⟩
end
end Fl
-- R5
/-! own rules, 5: repr of a graph -/
namespace Fl
open PySem PySem.Spec PyProof.Rows L2
theorem callR_or {X : Cx} {f : Value} {r1 r2 : List V → Hp → VK → Prop} (h1 : CallR X f r1) (h2 : CallR X f r2) : CallR X f (fun xs H Q => r1 xs H Q ∨ r2 xs H Q) := by
  intro pins s σ H xs us Q I r h
  rcases h with h | h
  · exact h1 pins s σ H xs us Q I r h
  · exact h2 pins s σ H xs us Q I r h
/-- a graph's data -/
def rotD (r : List Int) : PyData := .tuple (r.map .int)
def grD (g : List (List Int)) : PyData := .tuple (g.map rotD)
theorem shownAll_map {α : Type} (f : α → PyData) : ∀ l : List α, PyData.shownAll (l.map f) = l.map fun x => (f x).shown
  | [] => by simp only [List.map_nil, PyData.shownAll]
  | x :: l => by simp only [List.map_cons, PyData.shownAll, shownAll_map f l]
theorem showableAll_map {α : Type} (f : α → PyData) : ∀ l : List α, (∀ x ∈ l, (f x).showable = true) → PyData.showableAll (l.map f) = true
  | [], _ => by simp only [List.map_nil, PyData.showableAll]
  | x :: l, h => by
    simp only [List.map_cons, PyData.showableAll, h x List.mem_cons_self, showableAll_map f l fun y hy => h y (List.mem_cons_of_mem _ hy), Bool.and_self]
theorem hasDictAll_map {α : Type} (f : α → PyData) : ∀ l : List α, (∀ x ∈ l, (f x).hasDict = false) → PyData.hasDictAll (l.map f) = false
  | [], _ => by simp only [List.map_nil, PyData.hasDictAll]
  | x :: l, h => by
    simp only [List.map_cons, PyData.hasDictAll, h x List.mem_cons_self, hasDictAll_map f l fun y hy => h y (List.mem_cons_of_mem _ hy), Bool.or_self]
theorem depthAll_map {α : Type} (f : α → PyData) {n : Nat} : ∀ l : List α, (∀ x ∈ l, (f x).depth ≤ n) → PyData.depthAll (l.map f) ≤ n
  | [], _ => by simp only [List.map_nil, PyData.depthAll]; exact Nat.zero_le _
  | x :: l, h => by
    simp only [List.map_cons, PyData.depthAll]
    exact Nat.max_le.mpr ⟨h x List.mem_cons_self, depthAll_map f l fun y hy => h y (List.mem_cons_of_mem _ hy)⟩
theorem log_small {d : Int} (h : 0 ≤ d ∧ d < 1000) : d.natAbs.log2 < 1920 := by
  have h1 : d.natAbs < 1024 := by omega
  by_cases h0 : d.natAbs = 0
  · rw [h0]; decide
  · have : d.natAbs.log2 < 10 := (Nat.log2_lt h0).mpr h1
    omega
theorem int_shown {d : Int} (h : 0 ≤ d ∧ d < 1000) : (PyData.shown (.int d)).length ≤ 3 := by
  obtain ⟨m, rfl⟩ := Int.eq_ofNat_of_zero_le h.1
  show (Str.ofString (toString ((m : Nat) : Int))).length ≤ 3
  rw [TL.len_tl, TL.tl_num]
  exact TL.numL_len (by decide) (by have := h.2; omega)
theorem sum_le_len {α : Type} (f : α → Nat) (n : Nat) : ∀ l : List α, (∀ x ∈ l, f x ≤ n) → (l.map f).sum ≤ l.length * n
  | [], _ => Nat.zero_le _
  | x :: l, h => by
    have := sum_le_len f n l fun y hy => h y (List.mem_cons_of_mem _ hy)
    have := h x List.mem_cons_self
    rw [List.map_cons, List.sum_cons, List.length_cons, Nat.succ_mul]; omega
theorem rot_shown {r : List Int} (hl : r.length ≤ 1000) (h : ∀ d ∈ r, 0 ≤ d ∧ d < 1000) : (rotD r).shown.length ≤ 6000 := by
  show (PyData.shown (.tuple _)).length ≤ _
  simp only [PyData.shown]
  rw [shownAll_map]
  refine Nat.le_trans (tupleText_len_le _) ?_
  rw [List.map_map, List.length_map]
  have := sum_le_len (fun x => (PyData.shown (.int x)).length) 3 r fun x hx => int_shown (h x hx)
  have e : (List.map ((fun x => x.length) ∘ fun x => PyData.shown (.int x)) r).sum = (r.map fun x => (PyData.shown (.int x)).length).sum := rfl
  rw [e]; omega
theorem gr_shown {g : List (List Int)} (hl : g.length ≤ 1000) (h : ∀ r ∈ g, r.length ≤ 1000 ∧ ∀ d ∈ r, 0 ≤ d ∧ d < 1000) : (grD g).shown.length ≤ sizeLine := by
  show (PyData.shown (.tuple _)).length ≤ _
  simp only [PyData.shown]
  rw [shownAll_map]
  refine Nat.le_trans (tupleText_len_le _) ?_
  rw [List.map_map, List.length_map, sizeLine_eq]
  have := sum_le_len (fun x => (rotD x).shown.length) 6000 g fun x hx => rot_shown (h x hx).1 (h x hx).2
  have e : (List.map ((fun x => x.length) ∘ fun x => (rotD x).shown) g).sum = (g.map fun x => (rotD x).shown.length).sum := rfl
  rw [e]; omega
theorem rot_showable {r : List Int} (h : ∀ d ∈ r, 0 ≤ d ∧ d < 1000) : (rotD r).showable = true := by
  show PyData.showable (.tuple _) = true
  simp only [PyData.showable]
  exact showableAll_map _ r fun d hd => by simp only [PyData.showable]; exact decide_eq_true (log_small (h d hd))
theorem rot_noDict (r : List Int) : (rotD r).hasDict = false := by
  show PyData.hasDict (.tuple _) = false
  simp only [PyData.hasDict]
  exact hasDictAll_map _ r fun d hd => by simp only [PyData.hasDict]
theorem rot_depth (r : List Int) : (rotD r).depth ≤ 1 := by
  show PyData.depth (.tuple _) ≤ 1
  simp only [PyData.depth]
  exact Nat.succ_le_succ (depthAll_map _ r fun d hd => by simp only [PyData.depth]; exact Nat.le_refl 0)
theorem gr_showable {g : List (List Int)} (h : ∀ r ∈ g, ∀ d ∈ r, 0 ≤ d ∧ d < 1000) : (grD g).showable = true := by
  show PyData.showable (.tuple _) = true
  simp only [PyData.showable]
  exact showableAll_map _ g fun r hr => rot_showable (h r hr)
theorem gr_noDict (g : List (List Int)) : (grD g).hasDict = false := by
  show PyData.hasDict (.tuple _) = false
  simp only [PyData.hasDict]
  exact hasDictAll_map _ g fun r hr => rot_noDict r
theorem gr_depth (g : List (List Int)) : (grD g).depth ≤ 2 := by
  show PyData.depth (.tuple _) ≤ 2
  simp only [PyData.depth]
  exact Nat.succ_le_succ (depthAll_map _ g fun r hr => rot_depth r)
/-- at p stands the graph g: a tuple of tuples of ints -/
def GrAt (H : Hp) (p : Addr) (g : List (List Int)) : Prop :=
  ∃ ps : List Addr, H p = some (.tup (ps.map V.ref)) ∧ Paired (fun q (r : List Int) => H q = some (.tup (r.map V.int))) ps g
theorem DpAll.ints {K : PySem.W.Frag} {H : Hp} : ∀ r : List Int, DpAll K H (r.map V.int) (r.map .int)
  | [] => .nil
  | d :: r => .cons (.int d) (DpAll.ints r)
theorem GrAt.dp {K : PySem.W.Frag} {H : Hp} {p : Addr} {g : List (List Int)} (h : GrAt H p g) : Dp K H (.ref p) (grD g) := by
  obtain ⟨ps, h1, h2⟩ := h
  refine .tup (SqT.of h1) ?_
  clear h1
  induction h2 with
  | nil => exact .nil
  | cons r _ ih => exact .cons (.tup (SqT.of r) (DpAll.ints _)) ih
theorem GrAt.same {H H' : Hp} {p : Addr} {g : List (List Int)} (s : Same H H') (h : GrAt H p g) : GrAt H' p g := by
  obtain ⟨ps, h1, h2⟩ := h
  exact ⟨ps, s _ _ h1, Paired.mapP h2 fun _ _ e => s _ _ e⟩
/-- small ints, few of them: what repr needs -/
def GrSm (g : List (List Int)) : Prop := g.length ≤ 1000 ∧ ∀ r ∈ g, r.length ≤ 1000 ∧ ∀ d ∈ r, 0 ≤ d ∧ d < 1000
section
variable {X : Cx}
/-- repr of a graph -/
theorem call_reprG (hg : X.A.guards = some []) (hu : X.A.units + 8 < cLine) : CallR X (.builtin "repr") (fun xs H Q => ∃ p g, xs = [.ref p] ∧ GrAt H p g ∧ GrSm g ∧ Q (.str (grD g).shown) H) := by
  intro pins s σ H xs us Q I r h
  obtain ⟨p, g, rfl, ha, ⟨hs1, hs2⟩, q⟩ := h
  cases r with
  | cons r1 r =>
    cases r
    cases r1
    obtain ⟨as, rd⟩ := Dp.reads I (grD g) (.ref p) (.ref p) ha.dp rfl
    have hd := gr_depth g
    exact repr_of_reads' rd (gr_showable fun r hr => (hs2 r hr).2) (noDict_of (gr_noDict g)) hg (by omega) (fun _ _ e => e) (fun h' u tk k => ⟨.str _, H, I.kept (t' := tk) k, ⟨u, rfl⟩, q⟩) (gr_shown hs1 hs2)
where noDict_of {d : PyData} {as : List Addr} (h : d.hasDict = false) : d.hasDict = true → sysModules ∉ as := fun h' => by rw [h] at h'; cases h'
end
end Fl
-- D1
namespace Fl
open PySem PySem.Spec PyProof.Rows L2
/-! ### the text -/
def topS (i : Nat) : Stmt := PySem.Challenge.pw_flatsum_k54_whole_texts_of_no_graph.main.body.getD i (.Pass ⟨0, 0, 0, 0⟩)
abbrev sPNum : Stmt := topS 16
theorem scPNum : FnScope ["word", "digit"] ["word"] (defScope sPNum) := ⟨rfl, rfl, rfl, by decide +kernel, rfl, by decide +kernel, by decide +kernel⟩

/-! ### small readings -/
theorem lc_its {x : Str} {g : TG} {tt : TT} {te : TE} {vs : List Nat} {σ : L2.St} {H1 : Hp} {D : Addr} {Qd : Hp → Prop} (Pv : Nat → Hp → Prop) (h0 : Pv 0 (upd H1 D (.lst [])))
    (hs : ∀ i c H, x.cps[i]? = some c → Pv i H → g (.str ⟨#[c]⟩) (wipe σ vs) H fun σ2 H2 => wipe σ2 vs = wipe σ vs ∧ tt σ2 H2 fun b H3 =>
      if b = true then te σ2 H3 fun y H4 => ∃ acc, H4 D = some (.lst acc) ∧ acc.length < sizeLine ∧ Pv (i + 1) (upd H4 D (.lst (acc ++ [y]))) else Pv (i + 1) H3) (hd : ∀ H, Pv x.cps.size H → Qd H) :
    ∃ W : Nat → Nat → Hp → Prop, (∃ m, W 0 m (upd H1 D (.lst []))) ∧ ∀ i m H, W i m H →
      ((Its x).stop i H ∧ Qd H) ∨ ((Its x).go i H ∧ ∃ Nx : Hp → Prop, (∀ H', Nx H' → ∃ m', m' < m ∧ W (i + 1) m' H') ∧ ∀ v H', (Its x).yld i H v H' → g v (wipe σ vs) H' fun σ2 H2 => wipe σ2 vs = wipe σ vs ∧ tt σ2 H2 fun b H3 =>
        if b = true then te σ2 H3 fun y H4 => ∃ acc, H4 D = some (.lst acc) ∧ acc.length < sizeLine ∧ Nx (upd H4 D (.lst (acc ++ [y]))) else Nx H3) := by
  refine ⟨fun i m H => m = x.cps.size - i ∧ i ≤ x.cps.size ∧ Pv i H, ⟨x.cps.size, by simp, Nat.zero_le _, h0⟩, ?_⟩
  rintro i m H ⟨rfl, hi, p⟩
  by_cases hlt : i < x.cps.size
  · refine .inr ⟨hlt, Pv (i + 1), fun H' p' => ⟨x.cps.size - (i + 1), by omega, rfl, hlt, p'⟩, fun v H' y => ?_⟩
    obtain ⟨rfl, c, hc, rfl⟩ := y
    exact hs i c _ hc p
  · have e : i = x.cps.size := by omega
    subst e
    exact .inl ⟨Nat.le_refl _, hd H p⟩
theorem tYes_of {σ : L2.St} {H : Hp} {Q : Bool → Hp → Prop} (h : Q true H) : tYes σ H Q := h
theorem lit0 : ("0" : Str) = SX.S [48] := by decide +kernel
theorem litD : ("0123456789" : Str) = SX.S [48, 49, 50, 51, 52, 53, 54, 55, 56, 57] := by decide +kernel
theorem dig_mem (c : Nat) : decide (c ∈ [48, 49, 50, 51, 52, 53, 54, 55, 56, 57]) = dig c := by
  unfold dig
  rw [Bool.eq_iff_iff]
  simp only [decide_eq_true_eq, Bool.and_eq_true, List.mem_cons, List.not_mem_nil, or_false]
  omega
theorem S_get (l : List Nat) (i : Nat) : (SX.S l).cps[i]? = l[i]? := by simp [SX.S]
theorem S_size (l : List Nat) : (SX.S l).cps.size = l.length := by simp [SX.S]
theorem str_eq {a b : List Nat} : decide (V.str (SX.S a) = V.str (SX.S b)) = decide (a = b) := by
  by_cases h : a = b
  · rw [decide_eq_true h, h, decide_eq_true rfl]
  · rw [decide_eq_false h]
    exact decide_eq_false fun z => h (SX.S_inj (V.str.inj z))
section
variable {P : Program} {w : World} {K : PySem.W.Frag} {mg : Str → Option Value} {base : Heap}
/-! ### parsed_number -/
def spPNum : Sp := fun vs H Q _ => ∃ l : List Nat, vs = [.str (SX.S l)] ∧ l.length ≤ 16000000 ∧ ∀ H', Same H H' → Q (.int (pnum l)) H'
theorem same_upd {H : Hp} {p : Addr} {o : HO} (h : H p = none) : Same H (upd H p o) := fun b x e => by
  rw [upd_ne (ne_of_none e h)]
  exact e
theorem same_upd2 {H0 H : Hp} {p : Addr} {o : HO} (h0 : H0 p = none) (s : Same H0 H) : Same H0 (upd H p o) := fun b x e => by
  rw [upd_ne (ne_of_none e h0)]
  exact s b x e
theorem take_more {α : Type} {l : List α} {i : Nat} {x : α} (h : l[i]? = some x) : l.take (i + 1) = l.take i ++ [x] := by
  rw [List.take_add_one, h]
  rfl
theorem ok_pnum {f : Addr} {fd : FuncData} {k : Nat} (F : Fun K "parsed_number" "parsed_number" sPNum f fd) (nd : NoDig base) (ml : mg "len" = none) (ma : mg "all" = none) (mi : mg "int" = none)
    (mD : ∃ t, mg "MAX_DIGITS" = some (.int 1000 t)) (mS : ∃ t, mg "DIGITS" = some (.str "0123456789" t)) : FnOk P w K mg base CX0 (k + 1) f fd ["word"] spPNum := by
  obtain ⟨t1, mD⟩ := mD
  obtain ⟨t2, mS⟩ := mS
  refine F.ok scPNum (fun vs H Q E h => ?_) (fun cdv A outer s H vs Q E hr h => ?_)
  · obtain ⟨l, rfl, _⟩ := h
    rfl
  · obtain ⟨l, rfl, hl, q⟩ := h
    refine ⟨_, pss_cons (ps_if (PW.pt (pw_or (pt_not (pt_chain op_le op_le pe_int (pe_callB call_len_str (by rfl) ml PySem.boot_len (pa_cons (pv 0) pa_nil)) (pe_glob (v := .int 1000) (by rfl) mD ⟨_, rfl⟩)))
        (pw_or1 (pt_not (pt_val (pe_callB (cr_all rfl) (by rfl) ma (by decide +kernel) (pa_cons (pe_lc (own := [("digit", 1)]) (g := gName 1) (tt := tYes) rfl scPNum.nd (pi_str (pv 0)) (blkOk_by (own := [("digit", 1)]) (N := ["word", "digit"]) (sc := defScope sPNum) (by decide +kernel))
          (fun _ _ _ _ _ => pg_name (i := 1) scPNum.nd rfl (Or.inl rfl)) (fun _ _ _ _ _ => pts_nil) (fun _ _ _ _ _ => pe_cmpR op_in_sign (pv 1) (pe_glob (v := .str "0123456789") (by rfl) mS ⟨_, rfl⟩) (by rfl))) pa_nil)))))))
        (pss_one (ps_ret (pe_un un_neg pe_int))) pss_nil)
      (pss_one (ps_ret (pe_ifExp (PW.pt (pw_and (pt_cmpR op_eq (pe_ix ix_str (pv 0) pe_int (fun _ _ => rfl)) pe_str (nomark _)) (pw_and1 (pt_cmpR op_ne (pv 0) pe_str (nomark _)))))
        (pe_un un_neg pe_int) (pe_callTy (call_intL nd) (by rfl) mi (by decide +kernel) (pa_cons (pv 0) pa_nil))))), ?_⟩
    have hz : (SX.S l).length ≤ sizeLine := by rw [SX.S_len, sizeLine_eq]; omega
    have hlen : (((SX.S l).length : Nat) : Int) = (l.length : Int) := by rw [SX.S_len]
    -- what stands behind the two tests
    have last : ∀ H', Same H H' → (1 ≤ l.length ∧ l.length ≤ 1000) → l.all dig = true → tRet
        (tIf (tAnd (tTest (tOp rEq (tOp rIxS (tVar 0) (tC (V.int 0))) (tC (V.str (Str.ofString "0"))))) (tTest (tOp rNe (tVar 0) (tC (V.str (Str.ofString "0"))))))
          (tUn (rU fun i => V.int (-i)) (tC (V.int 1))) (tCB rInt (tCons (tVar 0) tNil))) { nx := fun x H' => Q V.non H', rt := Q } (L2.start [Str.ofString "word", Str.ofString "digit"] [V.str (SX.S l)]) H' := by
      intro H' hs h1 h2
      have hc : (decide (1 ≤ l.length) && decide (l.length ≤ 1000) && l.all dig) = true := by simp [h1.1, h1.2, h2]
      obtain ⟨c, r, el⟩ : ∃ c r, l = c :: r := by
        cases l with
        | nil => simp at h1
        | cons c r => exact ⟨c, r, rfl⟩
      refine ⟨_, rfl, SX.S l, 0, c, rfl, rfl, hz, ?_, rfl, _, rfl, ?_⟩
      · show atI l (((0 : Nat) : Int)) = some c
        exact atI_nat (by rw [el]; rfl)
      have e1 : decide (V.str ⟨#[c]⟩ = V.str (Str.ofString "0")) = decide (c = 48) := by
        rw [lit0]
        rw [show (V.str ⟨#[c]⟩) = V.str (SX.S [c]) from rfl, str_eq]
        simp
      rw [e1]
      have e2 : (!decide (V.str (SX.S l) = V.str (Str.ofString "0"))) = !decide (l = [48]) := by rw [lit0, str_eq]
      have val : pnum l = if c = 48 ∧ l ≠ [48] then -1 else (NumText.digitsVal l : Int) := by
        unfold pnum
        rw [if_pos hc]
        rw [show l.headD 0 = c by rw [el]; rfl]
      have fin : ¬ (c = 48 ∧ l ≠ [48]) → (tCB rInt (tCons (tVar 0) tNil)) (L2.start [Str.ofString "word", Str.ofString "digit"] [V.str (SX.S l)]) H' Q := by
        intro hn
        refine ⟨_, rfl, l, rfl, h2, by rw [el]; simp, by omega, ?_⟩
        have qq := q H' hs
        rw [val, if_neg hn] at qq
        exact qq
      by_cases h48 : c = 48
      · rw [decide_eq_true h48]
        refine iteT ⟨_, rfl, rfl, _, rfl, ?_⟩
        rw [e2]
        by_cases hl48 : l = [48]
        · rw [decide_eq_true hl48]
          exact iteF (fin fun z => z.2 hl48)
        · rw [decide_eq_false hl48]
          refine iteT ⟨1, rfl, ?_⟩
          have qq := q H' hs
          rw [val, if_pos ⟨h48, hl48⟩] at qq
          exact qq
      · rw [decide_eq_false h48]
        refine iteF (iteF (fin fun z => h48 z.1))
    have neg : ∀ H', Same H H' → pnum l = -1 → (tRet (tUn (rU fun i => V.int (-i)) (tC (V.int 1)))) { nx := fun x H' => Q V.non H', rt := Q } (L2.start [Str.ofString "word", Str.ofString "digit"] [V.str (SX.S l)]) H' := by
      intro H' hs e
      refine ⟨1, rfl, ?_⟩
      have qq := q H' hs
      rw [e] at qq
      exact qq
    have none_of : ¬ (1 ≤ l.length ∧ l.length ≤ 1000 ∧ l.all dig = true) → pnum l = -1 := fun hn => by
      unfold pnum
      rw [if_neg]
      simp only [Bool.and_eq_true, decide_eq_true_eq]
      exact fun z => hn ⟨z.1.1, z.1.2, z.2⟩
    -- the first test
    refine ⟨_, rfl, _, rfl, hz, _, _, rfl, rfl, _, rfl, ?_⟩
    rw [hlen]
    by_cases h1 : (1 : Int) ≤ (l.length : Int)
    · rw [decide_eq_true h1]
      refine iteT ⟨_, _, rfl, rfl, _, rfl, ?_⟩
      by_cases h2 : (l.length : Int) ≤ 1000
      · rw [decide_eq_true h2]
        refine iteF ?_
        -- all([digit in DIGITS for digit in word])
        refine ⟨_, rfl, _, rfl, fun D hD => ?_⟩
        refine lc_its (x := SX.S l) (fun i H' => H' = upd H D (.lst ((l.take i).map fun c => .bl (dig c)))) rfl ?_ ?_
        · rintro i c H' hc rfl
          rw [S_get] at hc
          have hi := (List.getElem?_eq_some_iff.mp hc).1
          refine ⟨rfl, ?_⟩
          refine tYes_of (iteT ?_)
          refine ⟨_, rfl, c, _, rfl, rfl, _, upd_same, ?_, ?_⟩
          · rw [List.length_map, List.length_take]
            exact Nat.lt_of_le_of_lt (Nat.min_le_left _ _) (by rw [sizeLine_eq]; omega)
          · rw [upd_upd, litD, show (SX.S [48, 49, 50, 51, 52, 53, 54, 55, 56, 57]).cps.toList = [48, 49, 50, 51, 52, 53, 54, 55, 56, 57] from rfl, dig_mem, take_more hc, List.map_append]
            rfl
        · rintro H' rfl
          rw [S_size, List.take_length]
          refine ⟨D, l.map dig, rfl, SqL.of (by rw [upd_same, List.map_map]; rfl), _, rfl, ?_⟩
          have ea : (l.map dig).all id = l.all dig := by rw [List.all_map]; rfl
          rw [ea]
          cases hd : l.all dig
          · exact iteT (neg _ (same_upd hD) (none_of fun z => by rw [hd] at z; exact Bool.false_ne_true z.2.2))
          · exact iteF (last _ (same_upd hD) ⟨by omega, by omega⟩ hd)
      · rw [decide_eq_false h2]
        exact iteT (iteT (neg _ (Same.refl H) (none_of fun z => h2 (by omega))))
    · rw [decide_eq_false h1]
      exact iteF ⟨_, rfl, iteT (iteT (neg _ (Same.refl H) (none_of fun z => h1 (by omega))))⟩
end
end Fl
-- D2
namespace Fl
open PySem PySem.Spec PyProof.Rows L2
def inCls (s : Stmt) (j : Nat) : Stmt := inClass s j
abbrev sInit : Stmt := inClass (topS 5) 0
abbrev sLines : Stmt := topS 17
abbrev sHead : Stmt := topS 18
theorem scInit : FnScope ["self", "line"] ["self", "line"] (defScope sInit) := ⟨rfl, rfl, rfl, by decide +kernel, rfl, by decide +kernel, by decide +kernel⟩
theorem scLines : FnScope ["text"] ["text"] (defScope sLines) := ⟨rfl, rfl, rfl, by decide +kernel, rfl, by decide +kernel, by decide +kernel⟩
theorem scHead : FnScope ["line", "words", "numbers", "word"] ["line"] (defScope sHead) := ⟨rfl, rfl, rfl, by decide +kernel, rfl, by decide +kernel, by decide +kernel⟩
theorem nl10 : ("\n" : Str) = SX.S [10] := by decide +kernel
theorem sp32 : (" " : Str) = SX.S [32] := by decide +kernel
theorem strs_S (ls : List (List Nat)) : (ls.map SX.S).map V.str = ls.map fun l => V.str (SX.S l) := by rw [List.map_map]; rfl
/-- a list of texts -/
abbrev txs (ls : List (List Nat)) : List V := ls.map fun l => V.str (SX.S l)
section
variable {P : Program} {w : World} {K : PySem.W.Frag} {mg : Str → Option Value} {base : Heap}
/-! ### lines_of -/
def spLines : Sp := fun vs H Q _ => ∃ t : List Nat, vs = [.str (SX.S t)] ∧ t.length ≤ 250000 ∧ ∀ H' p, Same H H' → H p = none → H' p = some (.lst (txs (cutAt 10 t))) → Q (.ref p) H'
theorem kit_self (T : String) : PySem.W.kitOne K (.type T) (.type T) = some true := by
  unfold PySem.W.kitOne
  exact if_pos (beq_self_eq_true _)
theorem ok_lines {f : Addr} {fd : FuncData} {k : Nat} (F : Fun K "lines_of" "lines_of" sLines f fd) (mis : mg "isinstance" = none) (mst : mg "str" = none) (ml : mg "len" = none)
    (mM : ∃ t, mg "MAX_CHARACTERS" = some (.int 250000 t)) : FnOk P w K mg base CX0 (k + 1) f fd ["text"] spLines := by
  obtain ⟨t1, mM⟩ := mM
  refine F.ok scLines (fun vs H Q E h => ?_) (fun cdv A outer s H vs Q E hr h => ?_)
  · obtain ⟨l, rfl, _⟩ := h
    rfl
  · obtain ⟨l, rfl, hl, q⟩ := h
    refine ⟨_, pss_cons (ps_if (PW.pt (pw_or (pt_not (pt_val (pe_callB call_isi (by rfl) mis (by decide +kernel) (pa_cons (pv 0) (pa_cons (pe_bltn (v := .ty "str") (by rfl) mst (by decide +kernel) rfl) pa_nil)))))
        (pw_or1 (pt_cmpR op_gt (pe_callB call_len_str (by rfl) ml PySem.boot_len (pa_cons (pv 0) pa_nil)) (pe_glob (v := .int 250000) (by rfl) mM ⟨_, rfl⟩) (nomark _)))))
        (pss_one ps_never) pss_nil)
      (pss_one (ps_ret (pe_split (pv 0) pe_str))), ?_⟩
    have hz : (SX.S l).length ≤ sizeLine := by rw [SX.S_len, sizeLine_eq]; omega
    refine ⟨_, rfl, _, _, _, _, true, rfl, .ty "str", .base (.str _), kit_self "str", true, rfl, ?_⟩
    refine iteF ⟨_, rfl, _, rfl, hz, _, _, rfl, rfl, _, rfl, ?_⟩
    have h1 : decide ((250000 : Int) < ((SX.S l).length : Int)) = false := decide_eq_false (by rw [SX.S_len]; omega)
    rw [h1]
    refine iteF ⟨_, rfl, ⟨_, rfl⟩, _, _, rfl, rfl, by decide +kernel, by rw [SX.S_len, sizeLine_eq]; omega, fun p hp => ?_⟩
    refine q _ p (same_upd hp) hp ?_
    rw [upd_same, nl10, split_is 10 l (by decide), strs_S]
/-! ### BadText(line) -/
def spInit (C : Addr) : Sp := fun vs H Q _ => ∃ (a : Addr) (y : V), vs = [.ref a, y] ∧ H a = some (exo a C none) ∧ ∀ dx, H dx = none → dx ≠ a → Q .non (upd (upd H dx (exd dx [(("line" : Str), y)])) a (exo a C (some dx)))
/-- what the written part says of BadText, at C, its __init__ at fI -/
structure BadC (K : PySem.W.Frag) (mg : Str → Option Value) (C fI : Addr) (fdI : FuncData) : Prop where
  g : mg "BadText" = some (.ref C)
  oc : OexC K C
  noL : PySem.W.findIn K (.ref C) "line" = some none
  ini : PySem.W.findIn K (.ref C) "__init__" = some (some (.ref fI))
  tyI : PySem.W.typeIn K (.ref fI) = some (.type "function")
  fn : Fun K "__init__" "BadText.__init__" sInit fI fdI
theorem ok_init {C fI : Addr} {fdI : FuncData} {k : Nat} (B : BadC K mg C fI fdI) : FnOk P w K mg base CX0 (k + 1) fI fdI ["self", "line"] (spInit C) := by
  refine B.fn.ok scInit (fun vs H Q E h => ?_) (fun cdv A outer s H vs Q E hr h => ?_)
  · obtain ⟨a, y, rfl, _⟩ := h
    rfl
  · obtain ⟨a, y, rfl, ha, q⟩ := h
    refine ⟨_, pss_one (ps_ost (pv 0) (pv 1)), ?_⟩
    exact ⟨_, rfl, _, rfl, a, C, rfl, B.oc, B.noL, .inl ⟨ha, fun dx hn ne => q dx hn ne⟩⟩
theorem bindsI {C fI : Addr} {fdI : FuncData} (B : BadC K mg C fI fdI) : Binds K fdI ["self", "line"] [] := B.fn.binds (ps := ["self", "line"]) fun _ _ _ _ _ _ us hl => match us, hl with | [_, _], _ => rfl
theorem made_bad {H1 : Hp} {C : Addr} {v : V} {Q : XK} (q : ∀ d H', Same H1 H' → H' d = some (.xd [(("line" : Str), v)]) → Q (.ref C) (some d) H') :
    ∀ a, H1 a = none → spInit C (.ref a :: ([v] ++ [])) (upd H1 a (exo a C none)) (fun u H2 => u = .non ∧ ∃ (d : Addr) (fs : List (Str × V)), H2 a = some (exo a C (some d)) ∧ H2 d = some (exd d fs) ∧ H1 d = none ∧ Q (.ref C) (some d) (upd (del H2 a) d (.xd fs))) (fun _ _ _ => False) := by
  intro a ha
  refine ⟨a, v, rfl, upd_same, fun dx hn ne => ⟨rfl, dx, [(("line" : Str), v)], upd_same, by rw [upd_ne ne, upd_same], ?_, ?_⟩⟩
  · rw [upd_ne ne] at hn
    exact hn
  · have hd : H1 dx = none := by
      rw [upd_ne ne] at hn
      exact hn
    refine q dx _ (fun b o e => ?_) upd_same
    have nd : b ≠ dx := ne_of_none e hd
    have na : b ≠ a := ne_of_none e ha
    rw [upd_ne nd, del_ne na, upd_ne na, upd_ne nd, upd_ne na]
    exact e
/-! ### comprehensions over texts -/
theorem cut1 (xs : List V) : cutV xs (some 1) none = xs.drop 1 := by
  unfold cutV
  rw [show HT.sIx xs.length 0 (some 1) = min 1 xs.length from HT.sIx_nat xs.length 0 1, HT.sIx_none]
  cases xs with
  | nil => rfl
  | cons x r =>
    rw [show min 1 (x :: r).length = 1 by rw [List.length_cons]; omega]
    show (List.take ((x :: r).length - 1) r) = r
    rw [List.length_cons, Nat.add_sub_cancel]
    exact List.take_length
theorem wipe1 (σ : L2.St) (i : Nat) (x : Option V) : wipe ((wipe σ [i]).set i x) [i] = wipe σ [i] := by
  show ((σ.set i none).set i x).set i none = σ.set i none
  rw [List.set_set, List.set_set]
/-- [f(x) for x in xs], f a def that changes nothing that stood: the list of its values -/
theorem lc_map {α : Type} {a D : Addr} {xs : List α} {v g : α → V} {i : Nat} {te : TE} {σ : L2.St} {H1 : Hp} {Qd : Hp → Prop} (hS : SqL K H1 a (xs.map v)) (hD : H1 D = none) (hlen : xs.length < sizeLine)
    (he : ∀ x H' Q, x ∈ xs → Same H1 H' → (∀ H'', Same H' H'' → Q (g x) H'') → te ((wipe σ [i]).set i (some (v x))) H' Q)
    (hd : ∀ H', Same H1 H' → H' D = some (.lst (xs.map g)) → Qd H') :
    ∃ W : Nat → Nat → Hp → Prop, (∃ m, W 0 m (upd H1 D (.lst []))) ∧ ∀ j m H, W j m H →
      ((Itl K a).stop j H ∧ Qd H) ∨ ((Itl K a).go j H ∧ ∃ Nx : Hp → Prop, (∀ H', Nx H' → ∃ m', m' < m ∧ W (j + 1) m' H') ∧ ∀ x H', (Itl K a).yld j H x H' → gName i x (wipe σ [i]) H' fun σ2 H2 => wipe σ2 [i] = wipe σ [i] ∧ tYes σ2 H2 fun b H3 =>
        if b = true then te σ2 H3 fun y H4 => ∃ acc, H4 D = some (.lst acc) ∧ acc.length < sizeLine ∧ Nx (upd H4 D (.lst (acc ++ [y]))) else Nx H3) := by
  refine lc_list (xs := xs.map v) (fun j H' => Same H1 H' ∧ H' D = some (.lst ((xs.take j).map g))) ⟨same_upd hD, upd_same⟩ (fun j H' _ p => p.1.seq hS) ?_ (fun H' p => ?_)
  · rintro j y H' hy ⟨p1, p2⟩
    rw [List.getElem?_map] at hy
    cases hx : xs[j]? with
    | none => rw [hx] at hy; cases hy
    | some x =>
      rw [hx] at hy
      have ey : v x = y := Option.some.inj hy
      subst ey
      have hj := (List.getElem?_eq_some_iff.mp hx).1
      refine ⟨wipe1 σ i _, tYes_of (iteT ?_)⟩
      refine he x H' _ (List.mem_of_getElem? hx) p1 fun H'' s2 => ⟨_, s2 _ _ p2, ?_, same_upd2 hD (p1.trans s2), ?_⟩
      · rw [List.length_map, List.length_take]
        exact Nat.lt_of_le_of_lt (Nat.min_le_left _ _) (Nat.lt_trans hj hlen)
      · rw [upd_same, take_more hx, List.map_append]
        rfl
  · obtain ⟨p1, p2⟩ := p
    rw [List.length_map, List.take_length] at p2
    exact hd H' p1 p2
/-! ### parsed_head -/
/-- an error BadText(k) leaves -/
def Bad (C : Addr) (H : Hp) (k : Int) (E : XK) : Prop := ∀ d H', Same H H' → H' d = some (.xd [(("line" : Str), .int k)]) → E (.ref C) (some d) H'
def spHead (C : Addr) : Sp := fun vs H Q E => ∃ l : List Nat, vs = [.str (SX.S l)] ∧ l.length ≤ 250000 ∧ (headM l = none → Bad C H 1 E) ∧
  ∀ n m, headM l = some (n, m) → ∀ p H', Same H H' → H p = none → H' p = some (.lst [.int n, .int m]) → Q (.ref p) H'
theorem ok_head {C fI f fN : Addr} {fd fdI fdN : FuncData} {k : Nat} (F : Fun K "parsed_head" "parsed_head" sHead f fd) (B : BadC K mg C fI fdI) (FN : FnOk P w K mg base CX0 1 fN fdN ["word"] spPNum) (bN : Binds K fdN ["word"] []) (gN : mg "parsed_number" = some (.ref fN)) (kN : PySem.W.keepIn K (.ref fN) = true)
    (ml : mg "len" = none) (m60 : ∃ t, mg "MAX_NODES" = some (.int 60 t)) (m120 : ∃ t, mg "MAX_EDGES" = some (.int 120 t)) : FnOk P w K mg base (L2.CX P w) 3 f fd ["line"] (spHead C) := by
  obtain ⟨t1, m60⟩ := m60
  obtain ⟨t2, m120⟩ := m120
  refine F.okX scHead (fun vs H Q E h => ?_) (fun cdv A outer s H vs Q E hr h => ?_)
  · obtain ⟨l, rfl, _⟩ := h
    rfl
  · obtain ⟨l, rfl, hl, qE, qQ⟩ := h
    have hr1 : Room 1 _ := hr.mono (by decide)
    refine ⟨_, pss_cons (ps_set (i := 1) scHead.nd rfl (.inl rfl) (pe_split (pv 0) pe_str))
      (pss_cons (ps_setLc (i := 2) (own := [("word", 3)]) (g := gName 3) (tt := tYes) rfl scHead.nd rfl rfl (sw_true rfl rfl rfl (by decide +kernel)) (pi_list (pe_slice sl_list (pv 1) (po_some pe_int) po_none)) (blkOk_by (own := [("word", 3)]) (N := ["line", "words", "numbers", "word"]) (sc := defScope sHead) (by decide +kernel))
          (fun _ _ _ _ _ => pg_name (i := 3) scHead.nd rfl (Or.inl rfl)) (fun _ _ _ _ _ => pts_nil) (fun _ _ _ _ _ => pe_call FN hr1 (by rfl) gN kN bN .nil pass0 (pa_cons (pv 3) pa_nil)))
      (pss_cons (ps_if (PW.pt (pw_or (pt_cmpR op_ne (pe_ix ix_list (pv 1) pe_int (fun _ _ => rfl)) pe_str (nomark _)) (pw_or1 (pt_cmpR op_ne (pe_callB call_len_seq (by rfl) ml PySem.boot_len (pa_cons (pv 2) pa_nil)) pe_int (nomark _)))))
        (pss_one (ps_raise rfl (takes_of rfl rfl rfl rfl) (pmk_oex B.oc B.ini B.tyI (ok_init (k := 0) B) hr (bindsI B) .nil pass0 (by rfl) B.g (pa_cons pe_int pa_nil)))) pss_nil)
      (pss_cons (ps_if (PW.pt (pw_or (pt_not (pt_chain op_le op_le pe_int (pe_ix ix_list (pv 2) pe_int (fun _ _ => rfl)) (pe_glob (v := .int 60) (by rfl) m60 ⟨_, rfl⟩)))
          (pw_or1 (pt_not (pt_chain op_le op_le pe_int (pe_ix ix_list (pv 2) pe_int (fun _ _ => rfl)) (pe_glob (v := .int 120) (by rfl) m120 ⟨_, rfl⟩))))))
        (pss_one (ps_raise rfl (takes_of rfl rfl rfl rfl) (pmk_oex B.oc B.ini B.tyI (ok_init (k := 0) B) hr (bindsI B) .nil pass0 (by rfl) B.g (pa_cons pe_int pa_nil)))) pss_nil)
      (pss_one (ps_ret (pv 2)))))), ?_⟩
    -- words = line.split(" ")
    refine ⟨_, rfl, ⟨_, rfl⟩, _, _, rfl, rfl, by decide +kernel, by rw [SX.S_len, sizeLine_eq]; omega, fun p hp => ?_⟩
    rw [sp32, split_is 32 l (by decide), strs_S]
    have s1 : Same H (upd H p (.lst (txs (cutAt 32 l)))) := same_upd hp
    have hlen : (cutAt 32 l).length ≤ 250001 := by
      have h1 := len_wt (cutAt 32 l)
      rw [cut_wt] at h1
      omega
    have wlen : ∀ w ∈ cutAt 32 l, w.length ≤ 250000 := fun w hw => by
      have h1 := mem_wt hw
      rw [cut_wt] at h1
      omega
    -- numbers
    refine ⟨.ref p, rfl, 1, rfl, p, _, rfl, SqL.of upd_same, fun c nc => ?_⟩
    rw [cut1, ← List.map_drop]
    refine ⟨c, rfl, ⟨_, SqL.of upd_same⟩, fun D hD => ?_⟩
    have s2 := s1.trans (same_upd (o := .lst (((cutAt 32 l).drop 1).map fun l => V.str (SX.S l))) nc)
    have hpD : p ≠ D := fun z => by
      rw [← z, upd_ne (fun y : p = c => by rw [← y, upd_same] at nc; cases nc), upd_same] at hD
      cases hD
    have hcp : c ≠ p := fun y => by rw [y, upd_same] at nc; cases nc
    refine lc_map (K := K) (xs := (cutAt 32 l).drop 1) (v := fun l => V.str (SX.S l)) (g := fun l => V.int (pnum l)) (SqL.of upd_same) hD (Nat.lt_of_le_of_lt (Nat.le_trans (by rw [List.length_drop]; omega) hlen) (by rw [sizeLine_eq]; omega)) ?_ ?_
    · intro x H' Q' hx hs' hq
      refine ⟨_, rfl, x, rfl, Nat.le_trans (wlen x (List.mem_of_mem_drop hx)) (by decide), hq⟩
    · intro H' hs' hDl
      have hp' : H' p = some (.lst (txs (cutAt 32 l))) := hs' _ _ (by rw [upd_ne hcp.symm, upd_same])
      have sA : Same H H' := s2.trans hs'
      -- what headM says
      obtain ⟨a, ws, ec⟩ : ∃ a ws, cutAt 32 l = a :: ws := by
        cases q : cutAt 32 l with
        | nil => exact absurd q (cutAt_ne 32 l)
        | cons a ws => exact ⟨a, ws, rfl⟩
      rw [ec] at hp' hDl
      have hDl2 : H' D = some (.lst ((ws.map pnum).map V.int)) := by
        rw [hDl, List.map_map]
        rfl
      have err : headM l = none → tMkO C (spInit C) [] (tCons (tC (V.int 1)) tNil) [some (.str (SX.S l)), some (.ref p), some (.ref D), none] H' fun cls d H' => E cls d H' := by
        intro hn
        refine ⟨by decide, made_bad fun d H'' s'' e => qE hn d H'' (sA.trans s'') e⟩
      -- words[0] != "graph"
      refine ⟨_, rfl, p, _, 0, .str (SX.S a), rfl, rfl, SqL.of hp', atI_nat rfl, rfl, _, rfl, ?_⟩
      have e1 : (!decide (V.str (SX.S a) = V.str (Str.ofString "graph"))) = !decide (a = wGraph) := by
        rw [show Str.ofString "graph" = SX.S wGraph by decide +kernel, str_eq]
      rw [e1]
      by_cases ha : a = wGraph
      · rw [decide_eq_true ha]
        refine iteF ?_
        -- len(numbers) != 2
        refine ⟨_, rfl, D, _, rfl, .inl (SqL.of hDl2), rfl, _, rfl, ?_⟩
        have el : (((ws.map pnum).map V.int).length : Int) = (ws.length : Int) := by rw [List.length_map, List.length_map]
        rw [el]
        by_cases h2 : ws.length = 2
        · have e2 : (!decide (V.int (ws.length : Int) = V.int 2)) = false := by rw [h2]; rfl
          rw [e2]
          refine iteF ?_
          obtain ⟨b, c', ew⟩ : ∃ b c', ws = [b, c'] := by
            match ws, h2 with
            | [b, c'], _ => exact ⟨b, c', rfl⟩
          subst ew
          have hm : headM l = if (0 ≤ pnum b ∧ pnum b ≤ 60) ∧ 0 ≤ pnum c' ∧ pnum c' ≤ 120 then some (pnum b, pnum c') else none := by
            unfold headM
            rw [ec]
            simp [ha]
          have out : ¬ ((0 ≤ pnum b ∧ pnum b ≤ 60) ∧ 0 ≤ pnum c' ∧ pnum c' ≤ 120) → headM l = none := fun hn => by rw [hm, if_neg hn]
          have good : ((0 ≤ pnum b ∧ pnum b ≤ 60) ∧ 0 ≤ pnum c' ∧ pnum c' ≤ 120) → Q (.ref D) H' := fun hy => by
            refine qQ _ _ (by rw [hm, if_pos hy]) D H' sA ?_ hDl2
            cases q : H D with
            | none => rfl
            | some o =>
              have z := s2 _ _ q
              rw [z] at hD
              cases hD
          have ix0 : atI (([b, c'].map pnum).map V.int) 0 = some (.int (pnum b)) := atI_nat (j := 0) rfl
          have ix1 : atI (([b, c'].map pnum).map V.int) 1 = some (.int (pnum c')) := atI_nat (j := 1) rfl
          refine ⟨_, rfl, D, _, 0, .int (pnum b), rfl, rfl, SqL.of hDl2, ix0, _, _, rfl, rfl, _, rfl, ?_⟩
          by_cases k1 : 0 ≤ pnum b
          · rw [decide_eq_true k1]
            refine iteT ⟨_, _, rfl, rfl, _, rfl, ?_⟩
            by_cases k2 : pnum b ≤ 60
            · rw [decide_eq_true k2]
              refine iteF ⟨_, rfl, D, _, 1, .int (pnum c'), rfl, rfl, SqL.of hDl2, ix1, _, _, rfl, rfl, _, rfl, ?_⟩
              by_cases k3 : 0 ≤ pnum c'
              · rw [decide_eq_true k3]
                refine iteT ⟨_, _, rfl, rfl, _, rfl, ?_⟩
                by_cases k4 : pnum c' ≤ 120
                · rw [decide_eq_true k4]
                  exact iteF ⟨.ref D, rfl, good ⟨⟨k1, k2⟩, k3, k4⟩⟩
                · rw [decide_eq_false k4]
                  exact iteT (err (out fun z => k4 z.2.2))
              · rw [decide_eq_false k3]
                exact iteF ⟨_, rfl, iteT (err (out fun z => k3 z.2.1))⟩
            · rw [decide_eq_false k2]
              exact iteT (iteT (err (out fun z => k2 z.1.2)))
          · rw [decide_eq_false k1]
            exact iteF ⟨_, rfl, iteT (iteT (err (out fun z => k1 z.1.1)))⟩
        · have e2 : (!decide (V.int (ws.length : Int) = V.int 2)) = true := by
            rw [decide_eq_false (fun z => h2 (by have := V.int.inj z; omega))]; rfl
          rw [e2]
          refine iteT (err ?_)
          unfold headM
          rw [ec]
          match ws, h2 with
          | [], _ => rfl
          | [_], _ => rfl
          | _ :: _ :: _ :: _, _ => rfl
      · rw [decide_eq_false ha]
        refine iteT (iteT (err ?_))
        unfold headM
        rw [ec]
        match ws with
        | [] => rfl
        | [_] => rfl
        | [_, _] => exact if_neg fun z => ha z.1
        | _ :: _ :: _ :: _ => rfl
end
end Fl
-- D3
namespace Fl
open PySem PySem.Spec PyProof.Rows L2
abbrev sParse : Stmt := topS 19
abbrev nParse : List Str := ["text", "lines", "nodes", "edges", "rotations", "seen", "number", "line", "words", "darts", "dart", "word"]
theorem scParse : FnScope nParse ["text"] (defScope sParse) := ⟨rfl, rfl, rfl, by decide +kernel, rfl, by decide +kernel, by decide +kernel⟩
section
variable {P : Program} {w : World} {K : PySem.W.Frag} {mg : Str → Option Value} {base : Heap}
theorem for_start {k : Int} {a : Addr} {xs : List V} {g : TG} {tb : TS} {D : Ends} {σ : L2.St} {H : Hp} (Pv : Nat → L2.St → Hp → Prop) (h0 : Pv 0 σ H) (hl : ∀ i σ H, i ≤ xs.length → Pv i σ H → SqL K H a xs)
    (hs : ∀ i x T σ H, xs[i]? = some x → Pv i σ H → H T = none → g (.ref T) σ (upd H T (.tup [.int (k + i), x])) fun σ2 H2 => tb { D with nx := Pv (i + 1), ct := Pv (i + 1), bk := D.nx } σ2 H2) (hd : ∀ σ H, Pv xs.length σ H → D.nx σ H) :
    ∃ W : Nat → Nat → L2.St → Hp → Prop, (∃ m, W 0 m σ H) ∧ ∀ i m σ H, W i m σ H →
      ((ItS K k a).stop i H ∧ D.nx σ H) ∨ ((ItS K k a).go i H ∧ ∃ N : L2.St → Hp → Prop, (∀ σ' H', N σ' H' → ∃ m', m' < m ∧ W (i + 1) m' σ' H') ∧ ∀ x H', (ItS K k a).yld i H x H' → g x σ H' fun σ2 H2 => tb { D with nx := N, ct := N, bk := D.nx } σ2 H2) := by
  refine ⟨fun i m σ H => m = xs.length - i ∧ i ≤ xs.length ∧ Pv i σ H, ⟨xs.length, by simp, Nat.zero_le _, h0⟩, ?_⟩
  rintro i m σ H ⟨rfl, hi, p⟩
  have q := hl i σ H hi p
  by_cases hlt : i < xs.length
  · refine .inr ⟨⟨xs, xs[i], q, by simp [hlt]⟩, Pv (i + 1), fun σ' H' p' => ⟨xs.length - (i + 1), by omega, rfl, hlt, p'⟩, fun x H' y => ?_⟩
    obtain ⟨T, z, rfl, hT, rfl, hz⟩ := y
    exact hs i z T σ H (hz xs q) p hT
  · have e : i = xs.length := by omega
    subst e
    exact .inl ⟨⟨xs, q, rfl⟩, hd σ H p⟩
theorem upd_self {H : Hp} {a : Addr} {o : HO} (h : H a = some o) : upd H a o = H := by
  funext b
  by_cases e : b = a
  · rw [e, upd_same, h]
  · rw [upd_ne e]
/-- the dict of the darts that occurred -/
def seenK (l : List Int) : List (Key × V) := l.map fun d => (Sum.inl d, V.bl true)
theorem seenK_any (l : List Int) (d : Int) : ((seenK l).any fun kv => decide (kv.1 = (Sum.inl d : Key))) = decide (d ∈ l) := by
  induction l with
  | nil => rfl
  | cons x l ih =>
    show (decide ((Sum.inl x : Key) = Sum.inl d) || (seenK l).any fun kv => decide (kv.1 = (Sum.inl d : Key))) = _
    rw [ih, key_ll]
    by_cases e : x = d
    · subst e; simp
    · have e2 : ¬ d = x := fun z => e z.symm
      simp [e, e2]
theorem seenK_get (l : List Int) (d : Int) : (valV (seenK l) (Sum.inl d : Key)).isSome = decide (d ∈ l) := by rw [← valV_any, seenK_any]
theorem seenK_put {l : List Int} {d : Int} (h : d ∉ l) : putK (seenK l) (Sum.inl d : Key) (V.bl true) = seenK (l ++ [d]) := by
  unfold putK
  rw [seenK_any, decide_eq_false h, if_neg Bool.false_ne_true]
  unfold seenK
  rw [List.map_append]
  rfl
theorem seenK_len (l : List Int) : (seenK l).length = l.length := by unfold seenK; rw [List.length_map]
theorem lineM_cons {n m : Int} {cnt : Nat} {seen : List Int} {l a : List Nat} {ws : List (List Nat)} (e : cutAt 32 l = a :: ws) :
    lineM n m cnt seen l = if a = wNode ∧ (cnt : Int) ≠ n ∧ (∀ d ∈ ws.map pnum, 0 ≤ d ∧ d < 2 * m) ∧ (seen ++ ws.map pnum).Nodup then some (ws.map pnum) else none := by
  unfold lineM
  rw [e]
theorem cutAt_cons (s : Nat) (l : List Nat) : ∃ a ws, cutAt s l = a :: ws := by
  cases q : cutAt s l with
  | nil => exact absurd q (cutAt_ne s l)
  | cons a ws => exact ⟨a, ws, rfl⟩
theorem drop_at {α : Type} {l : List α} {i : Nat} {x : α} (h : l[i]? = some x) : l.drop i = x :: l.drop (i + 1) := by
  obtain ⟨hi, e⟩ := List.getElem?_eq_some_iff.mp h
  rw [List.drop_eq_getElem_cons hi, e]
theorem Paired.snoc {α β : Type} {F : α → β → Prop} {a : α} {b : β} (h : F a b) : ∀ {l1 : List α} {l2 : List β}, Paired F l1 l2 → Paired F (l1 ++ [a]) (l2 ++ [b])
  | _, _, .nil => .cons h .nil
  | _, _, .cons r t => .cons r (Paired.snoc h t)
/-! ### parse_graph -/
def spParse (C : Addr) : Sp := fun vs H Q E => ∃ t : List Nat, vs = [.str (SX.S t)] ∧ t.length ≤ 250000 ∧ (∀ k : Nat, parseM t = .bad k → Bad C H k E) ∧
  ∀ g, parseM t = .ok g → ∀ p H', Same H H' → GrAt H' p g → Q (.ref p) H'
theorem ok_parse {C fI f fN fL fH : Addr} {fd fdI fdN fdL fdH : FuncData} (F : Fun K "parse_graph" "parse_graph" sParse f fd) (B : BadC K mg C fI fdI)
    (FN : FnOk P w K mg base CX0 1 fN fdN ["word"] spPNum) (bN : Binds K fdN ["word"] []) (gN : mg "parsed_number" = some (.ref fN)) (kN : PySem.W.keepIn K (.ref fN) = true)
    (FL : FnOk P w K mg base CX0 1 fL fdL ["text"] spLines) (bL : Binds K fdL ["text"] []) (gL : mg "lines_of" = some (.ref fL)) (kL : PySem.W.keepIn K (.ref fL) = true)
    (FH : FnOk P w K mg base (L2.CX P w) 3 fH fdH ["line"] (spHead C)) (bH : Binds K fdH ["line"] []) (gH : mg "parsed_head" = some (.ref fH)) (kH : PySem.W.keepIn K (.ref fH) = true)
    (ml : mg "len" = none) (me : mg "enumerate" = none) (mt : mg "tuple" = none) : FnOk P w K mg base (L2.CX P w) 4 f fd ["text"] (spParse C) := by
  refine F.okX scParse (fun vs H Q E h => ?_) (fun cdv A outer s H vs Q E hr h => ?_)
  · obtain ⟨l, rfl, _⟩ := h
    rfl
  · obtain ⟨t, rfl, hl, qE, qQ⟩ := h
    have hr1 : Room 1 _ := hr.mono (by decide)
    have hr2 : Room 2 _ := hr.mono (by decide)
    have hu := hu_of hr
    refine ⟨_, pss_cons (ps_set (i := 1) scParse.nd rfl (.inl rfl) (pe_call FL hr1 (by rfl) gL kL bL .nil pass0 (pa_cons (pv 0) pa_nil)))
      (pss_cons (ps_asg (pe_call FH hr (by rfl) gH kH bH .nil (passes_call (takes_of rfl rfl rfl rfl) fun _ _ _ _ h => h) (pa_cons (pe_ix ix_list (pv 1) pe_int (fun _ _ => rfl)) pa_nil))
          (pg_unl rfl (pgs_cons (pg_name (i := 2) scParse.nd rfl (.inl rfl)) (pgs_cons (pg_name (i := 3) scParse.nd rfl (.inl rfl)) pgs_nil))))
      (pss_cons (ps_par (i := 4) (j := 5) rfl scParse.nd rfl rfl (by decide) rfl rfl (pa_cons (pe_lst pa_nil) (pa_cons pe_dnewK pa_nil)) (by rfl))
      (pss_cons (ps_for (passes_of rfl) rfl (pi_start (by decide) (by decide) (by rfl) me (pa_cons (pe_slice sl_list (pv 1) (po_some pe_int) po_none) pa_nil) (pk_cons pe_int pk_nil))
          (pg_tup rfl (pgs_cons (pg_name (i := 6) scParse.nd rfl (.inl rfl)) (pgs_cons (pg_name (i := 7) scParse.nd rfl (.inl rfl)) pgs_nil)))
        (pss_cons (ps_set (i := 8) scParse.nd rfl (.inl rfl) (pe_split (pv 7) pe_str))
        (pss_cons (ps_if (PW.pt (pw_or (pt_cmpR op_ne (pe_ix ix_list (pv 8) pe_int (fun _ _ => rfl)) pe_str (nomark _)) (pw_or1 (pt_cmpR op_eq (pe_callB call_len_seq (by rfl) ml PySem.boot_len (pa_cons (pv 4) pa_nil)) (pv 2) (nomark _)))))
          (pss_one (ps_raise rfl (takes_of rfl rfl rfl rfl) (pmk_oex B.oc B.ini B.tyI (ok_init (k := 0) B) hr2 (bindsI B) .nil pass0 (by rfl) B.g (pa_cons (pv 6) pa_nil)))) pss_nil)
        (pss_cons (ps_setLc (i := 9) (own := [("word", 11)]) (g := gName 11) (tt := tYes) rfl scParse.nd rfl rfl (sw_true rfl rfl rfl (by decide +kernel)) (pi_list (pe_slice sl_list (pv 8) (po_some pe_int) po_none)) (blkOk_by (own := [("word", 11)]) (N := nParse) (sc := defScope sParse) (by decide +kernel))
          (fun _ _ _ _ _ => pg_name (i := 11) scParse.nd rfl (Or.inl rfl)) (fun _ _ _ _ _ => pts_nil) (fun _ _ _ _ _ => pe_call FN hr1 (by rfl) gN kN bN .nil pass0 (pa_cons (pv 11) pa_nil)))
        (pss_cons (ps_for (passes_of rfl) rfl (pi_list (pv 9)) (pg_name (i := 10) scParse.nd rfl (.inl rfl))
          (pss_cons (ps_if (PW.pt (pw_or (pt_not (pt_chain op_le op_lt pe_int (pv 10) (pe_op op_mul pe_int (pv 3)))) (pw_or1 (pt_cmp (pc_din hu (pv 10) (pv 5))))))
            (pss_one (ps_raise rfl (takes_of rfl rfl rfl rfl) (pmk_oex B.oc B.ini B.tyI (ok_init (k := 0) B) hr2 (bindsI B) .nil pass0 (by rfl) B.g (pa_cons (pv 6) pa_nil)))) pss_nil)
          (pss_one (ps_dput hu (pv 5) (pv 10) pe_bl rfl))))
        (pss_one (ps_expr (pe_bm PySem.F.plainAttrs_list PySem.F.slot_list_append PySem.F.type_list_append mt_append (pv 4) (pa_cons (pe_callTy call_tuple_of (by rfl) mt (by decide +kernel) (pa_cons (pv 9) pa_nil)) pa_nil)))))))))
      (pss_cons (ps_if (PW.pt (pw_or (pt_cmpR op_lt (pe_callB call_len_seq (by rfl) ml PySem.boot_len (pa_cons (pv 4) pa_nil)) (pv 2) (nomark _)) (pw_or1 (pt_cmpR op_lt (pe_callB call_lenD (by rfl) ml PySem.boot_len (pa_cons (pv 5) pa_nil)) (pe_op op_mul pe_int (pv 3)) (nomark _)))))
        (pss_one (ps_raise rfl (takes_of rfl rfl rfl rfl) (pmk_oex B.oc B.ini B.tyI (ok_init (k := 0) B) hr2 (bindsI B) .nil pass0 (by rfl) B.g (pa_cons (pe_op op_add (pe_callB call_len_seq (by rfl) ml PySem.boot_len (pa_cons (pv 1) pa_nil)) pe_int) pa_nil)))) pss_nil)
      (pss_one (ps_ret (pe_callTy call_tuple_of (by rfl) mt (by decide +kernel) (pa_cons (pv 4) pa_nil)))))))), ?_⟩
    obtain ⟨l0, ls, ec⟩ := cutAt_cons 10 t
    have wl : ∀ x ∈ cutAt 10 t, x.length ≤ 250000 := fun x hx => by
      have h1 := mem_wt hx
      rw [cut_wt] at h1
      omega
    have nl : (cutAt 10 t).length ≤ 250001 := by
      have h1 := len_wt (cutAt 10 t)
      rw [cut_wt] at h1
      omega
    rw [ec] at wl nl
    -- lines = lines_of(text)
    refine ⟨_, rfl, t, rfl, hl, fun H1 p s1 np e1 => ?_⟩
    rw [ec] at e1
    -- nodes, edges = parsed_head(lines[0])
    refine ⟨_, rfl, p, _, 0, .str (SX.S l0), rfl, rfl, SqL.of e1, atI_nat (j := 0) rfl, l0, rfl, wl l0 List.mem_cons_self, fun hn d H' s' e' => ?_, fun n m hm q H2 s2 nq e2 => ?_⟩
    · refine qE 1 ?_ d H' (s1.trans s') e'
      unfold parseM
      rw [ec]
      show (match headM l0 with | none => Out.bad 1 | some (n, m) => goM n m ls 2 [] []) = _
      rw [hn]
    have pm : parseM t = goM n m ls 2 [] [] := by
      unfold parseM
      rw [ec]
      show (match headM l0 with | none => Out.bad 1 | some (n, m) => goM n m ls 2 [] []) = _
      rw [hm]
    obtain ⟨n0, n60, m0, m120, _⟩ := headM_some hm
    refine ⟨q, _, rfl, SqL.of e2, rfl, _, _, rfl, _, _, rfl, rfl, ?_⟩
    -- rotations, seen = [], {}
    refine ⟨Nat.zero_le _, fun R nR Sd nS => ⟨_, _, rfl, ?_⟩⟩
    have hH2 : Same H H2 := s1.trans s2
    have hR : H R = none := by
      cases z : H R with
      | none => rfl
      | some o => rw [hH2 _ _ z] at nR; cases nR
    have hRS : R ≠ Sd := fun z => by rw [← z, upd_same] at nS; cases nS
    have nS2 : H2 Sd = none := by rw [upd_ne hRS.symm] at nS; exact nS
    have hSd : H Sd = none := by
      cases z : H Sd with
      | none => rfl
      | some o => rw [hH2 _ _ z] at nS2; cases nS2
    have ep2 : H2 p = some (.lst (txs (l0 :: ls))) := s2 _ _ e1
    have hpR : p ≠ R := ne_of_none ep2 nR
    have hpS : p ≠ Sd := ne_of_none ep2 nS2
    -- the loop's list
    refine ⟨.ref p, rfl, 1, rfl, p, txs (l0 :: ls), rfl, SqL.of (by rw [upd_ne hpS, upd_ne hpR]; exact ep2), fun c nc => ?_⟩
    have hcS : c ≠ Sd := fun z => by rw [z, upd_same] at nc; cases nc
    have hcR : c ≠ R := fun z => by rw [z, upd_ne hRS, upd_same] at nc; cases nc
    rw [cut1]
    show ∃ a xs, _ ∧ _ ∧ _
    refine ⟨c, txs ls, rfl, SqL.of upd_same, ?_⟩
    refine for_start (K := K) (k := 2) (a := c) (xs := txs ls) (fun i σ H' => ∃ (v6 v7 v8 v9 v10 v11 : Option V) (rots : List (List Int)) (seen : List Int) (ps : List Addr),
      σ = [some (.str (SX.S t)), some (.ref p), some (.int n), some (.int m), some (.ref R), some (.ref Sd), v6, v7, v8, v9, v10, v11] ∧ Same H H' ∧ H' p = some (.lst (txs (l0 :: ls))) ∧ H' c = some (.lst (txs ls)) ∧
      H' R = some (.lst (ps.map V.ref)) ∧ H' Sd = some (.dK (seenK seen)) ∧ Paired (fun q r => H' q = some (.tup (r.map V.int))) ps rots ∧ goM n m (ls.drop i) (i + 2) rots seen = goM n m ls 2 [] [] ∧
      seen.Nodup ∧ (∀ d ∈ seen, 0 ≤ d ∧ d < 2 * m) ∧ (rots.length : Int) ≤ n) ?_ ?_ ?_ ?_
    · refine ⟨none, none, none, none, none, none, [], [], [], rfl, ?_, ?_, upd_same, ?_, ?_, .nil, rfl, by simp, by simp, by simpa using n0⟩
      · exact same_upd2 (by
          cases z : H c with
          | none => rfl
          | some o =>
            have y := hH2 _ _ z
            rw [upd_ne hcS, upd_ne hcR, y] at nc
            cases nc) (same_upd2 hSd (same_upd2 hR hH2))
      · rw [upd_ne (fun z : p = c => by rw [← z, upd_ne hpS, upd_ne hpR, ep2] at nc; cases nc), upd_ne hpS, upd_ne hpR]
        exact ep2
      · rw [upd_ne hcR.symm, upd_ne hRS, upd_same]
        rfl
      · rw [upd_ne hcS.symm, upd_same]
        rfl
    · rintro i σ H' _ ⟨v6, v7, v8, v9, v10, v11, rots, seen, ps, rfl, sH, ep, ecL, eR, eS, eP, eg, nd, rg, rl⟩
      exact SqL.of ecL
    · rintro i x T σ H' hx ⟨v6, v7, v8, v9, v10, v11, rots, seen, ps, rfl, sH, ep, ecL, eR, eS, eP, eg, nd, rg, rl⟩ nT
      rw [List.getElem?_map] at hx
      obtain ⟨l, hlx, rfl⟩ : ∃ l, ls[i]? = some l ∧ x = V.str (SX.S l) := by
        cases z : ls[i]? with
        | none => rw [z] at hx; cases hx
        | some l => rw [z] at hx; exact ⟨l, rfl, (Option.some.inj hx).symm⟩
      have hlm : l ∈ ls := List.mem_of_getElem? hlx
      have hll := wl l (List.mem_cons_of_mem _ hlm)
      rw [drop_at hlx] at eg
      obtain ⟨a, ws, ew⟩ := cutAt_cons 32 l
      have hw : (a :: ws).length ≤ 250001 ∧ ∀ y ∈ a :: ws, y.length ≤ 250000 := by
        rw [← ew]
        refine ⟨?_, fun y hy => ?_⟩
        · have h1 := len_wt (cutAt 32 l)
          rw [cut_wt] at h1
          omega
        · have h1 := mem_wt hy
          rw [cut_wt] at h1
          omega
      -- number, line = the pair
      refine ⟨T, _, rfl, SqT.of upd_same, rfl, _, _, rfl, _, _, rfl, rfl, ?_⟩
      have sT : Same H' (upd H' T (.tup [.int (2 + (i : Int)), .str (SX.S l)])) := same_upd nT
      -- words = line.split(" ")
      refine ⟨_, rfl, ⟨_, rfl⟩, _, _, rfl, rfl, by decide +kernel, by rw [SX.S_len, sizeLine_eq]; omega, fun W nW => ?_⟩
      rw [sp32, split_is 32 l (by decide), strs_S, ew]
      have sW := sT.trans (same_upd (o := .lst (txs (a :: ws))) nW)
      -- an error in this line
      have bad : lineM n m rots.length seen l = none → ∀ (Hx : Hp) (σ : L2.St), Same H Hx → σ[6]? = some (some (.int (2 + (i : Int)))) → tMkO C (spInit C) [] (tCons (tVar 6) tNil) σ Hx fun cls d H' => E cls d H' := by
        intro hn Hx σ sx h6
        refine ⟨_, h6, by show 1 ≤ 1000; decide, made_bad fun d H'' s'' e => ?_⟩
        refine qE (i + 2) ?_ d H'' (sx.trans s'') ?_
        · rw [pm, ← eg]
          show (match lineM n m rots.length seen l with | none => Out.bad (i + 2) | some ds => goM n m (ls.drop (i + 1)) (i + 2 + 1) (rots ++ [ds]) (seen ++ ds)) = _
          rw [hn]
        · rw [e, show ((i + 2 : Nat) : Int) = 2 + (i : Int) by omega]
      have lm := lineM_cons (n := n) (m := m) (cnt := rots.length) (seen := seen) ew
      -- words[0] != "node"
      refine ⟨_, rfl, W, _, 0, .str (SX.S a), rfl, rfl, SqL.of upd_same, atI_nat (j := 0) rfl, rfl, _, rfl, ?_⟩
      have e1' : (!decide (V.str (SX.S a) = V.str (Str.ofString "node"))) = !decide (a = wNode) := by
        rw [show Str.ofString "node" = SX.S wNode by decide +kernel, str_eq]
      rw [e1']
      by_cases ha : a = wNode
      case neg =>
        rw [decide_eq_false ha]
        exact iteT (iteT (bad (by rw [lm, if_neg (fun z => ha z.1)]) _ _ (sH.trans sW) rfl))
      rw [decide_eq_true ha]
      refine iteF ?_
      -- len(rotations) == nodes
      have plen : ps.length = rots.length := eP.length
      refine ⟨_, rfl, R, _, rfl, .inl (SqL.of (sW _ _ eR)), _, rfl, rfl, _, rfl, ?_⟩
      have e2' : decide (V.int ((ps.map V.ref).length : Int) = V.int n) = decide ((rots.length : Int) = n) := by
        rw [dec_int, List.length_map, plen]
        by_cases z : (rots.length : Int) = n
        · rw [z]; simp
        · simp [z]
      rw [e2']
      by_cases hn : (rots.length : Int) = n
      case pos =>
        rw [decide_eq_true hn]
        exact iteT (bad (by rw [lm, if_neg (fun z => z.2.1 hn)]) _ _ (sH.trans sW) rfl)
      rw [decide_eq_false hn]
      refine iteF ?_
      -- darts
      refine ⟨.ref W, rfl, 1, rfl, W, _, rfl, SqL.of upd_same, fun c2 nc2 => ?_⟩
      rw [cut1]
      have s3 := sW.trans (same_upd (o := .lst (txs ws)) nc2)
      refine ⟨c2, rfl, ⟨_, SqL.of upd_same⟩, fun D hD => ?_⟩
      refine lc_map (K := K) (xs := ws) (v := fun l => V.str (SX.S l)) (g := fun l => V.int (pnum l)) (SqL.of upd_same) hD (by have := hw.1; rw [List.length_cons] at this; rw [sizeLine_eq]; omega) ?_ ?_
      · intro x H'' Q' hx' hs' hq
        exact ⟨_, rfl, x, rfl, Nat.le_trans (hw.2 x (List.mem_cons_of_mem _ hx')) (by decide), hq⟩
      intro Hb sB eD
      have sb : Same H' Hb := s3.trans sB
      have eD2 : Hb D = some (.lst ((ws.map pnum).map V.int)) := by
        rw [eD, List.map_map]
        rfl
      have eSb := sb _ _ eS
      have eRb := sb _ _ eR
      -- for dart in darts
      refine ⟨_, rfl, D, rfl, ⟨_, SqL.of eD2⟩, ?_⟩
      have hDS : D ≠ Sd := ne_of eD2 eSb (by intro z; cases z)
      have hRS' : R ≠ Sd := hRS
      have dlen : (ws.map pnum).length ≤ 250000 := by
        have := hw.1
        rw [List.length_cons] at this
        rw [List.length_map]
        omega
      refine for_list (K := K) (a := D) (xs := (ws.map pnum).map V.int) (fun j σ H'' => ∃ v10 : Option V, σ = [some (.str (SX.S t)), some (.ref p), some (.int n), some (.int m), some (.ref R), some (.ref Sd), some (.int (2 + (i : Int))), some (.str (SX.S l)), some (.ref W), some (.ref D), v10, v11] ∧
        H'' = upd Hb Sd (.dK (seenK (seen ++ (ws.map pnum).take j))) ∧ (∀ d ∈ (ws.map pnum).take j, 0 ≤ d ∧ d < 2 * m) ∧ (seen ++ (ws.map pnum).take j).Nodup) ?_ ?_ ?_ ?_
      · refine ⟨v10, rfl, ?_, by simp, by simpa using nd⟩
        rw [List.take_zero, List.append_nil, upd_self eSb]
      · rintro j σ H'' _ ⟨v10', rfl, rfl, _, _⟩
        exact SqL.of (by rw [upd_ne hDS]; exact eD2)
      · rintro j y σ H'' hy ⟨v10', rfl, rfl, r1, nd1⟩
        rw [List.getElem?_map] at hy
        obtain ⟨d, hd, rfl⟩ : ∃ d, (ws.map pnum)[j]? = some d ∧ y = V.int d := by
          cases z : (ws.map pnum)[j]? with
          | none => rw [z] at hy; cases hy
          | some d => rw [z] at hy; exact ⟨d, rfl, (Option.some.inj hy).symm⟩
        have hdm : d ∈ ws.map pnum := List.mem_of_getElem? hd
        have sx : Same H (upd Hb Sd (.dK (seenK (seen ++ (ws.map pnum).take j)))) := same_upd2 hSd (sH.trans sb)
        have out : ¬ (0 ≤ d ∧ d < 2 * m) → lineM n m rots.length seen l = none := fun hno => by rw [lm, if_neg (fun z => hno (z.2.2.1 d hdm))]
        refine ⟨_, rfl, _, _, rfl, rfl, _, rfl, ?_⟩
        by_cases k1 : 0 ≤ d
        case neg =>
          rw [decide_eq_false k1]
          exact iteF ⟨_, rfl, iteT (iteT (bad (out fun z => k1 z.1) _ _ sx rfl))⟩
        rw [decide_eq_true k1]
        refine iteT ⟨_, rfl, _, _, rfl, rfl, .inl ⟨by decide, by decide⟩, _, _, rfl, rfl, _, rfl, ?_⟩
        by_cases k2 : d < 2 * m
        case neg =>
          rw [decide_eq_false k2]
          exact iteT (iteT (bad (out fun z => k2 z.2) _ _ sx rfl))
        rw [decide_eq_true k2]
        refine iteF ?_
        refine ⟨_, rfl, _, rfl, Sd, _, rfl, DGet.k (k := Sum.inl d) upd_same, _, rfl, ?_⟩
        rw [seenK_get]
        by_cases k3 : d ∈ seen ++ (ws.map pnum).take j
        · rw [decide_eq_true k3]
          refine iteT (bad ?_ _ _ sx rfl)
          rw [lm, if_neg]
          intro z
          have z4 := z.2.2.2
          rw [← List.take_append_drop j (ws.map pnum), drop_at hd, ← List.append_assoc] at z4
          exact (List.nodup_append.mp z4).2.2 d k3 d List.mem_cons_self rfl
        · rw [decide_eq_false k3]
          refine iteF ?_
          refine ⟨_, rfl, _, rfl, Sd, _, rfl, DPut.k (k := Sum.inl d) upd_same ?_, ?_⟩
          · rw [seenK_len, List.length_append, List.length_take]
            have hz := nodup_le 240 seen nd fun d hd => by have := rg d hd; omega
            refine Nat.lt_of_le_of_lt (Nat.add_le_add hz (Nat.min_le_right _ _)) ?_
            rw [sizeLine_eq]
            omega
          · refine ⟨_, rfl, ?_, ?_, ?_⟩
            · rw [upd_upd, seenK_put k3, take_more hd, List.append_assoc]
            · intro d' hd'
              rw [take_more hd] at hd'
              rcases List.mem_append.mp hd' with z | z
              · exact r1 d' z
              · rw [List.mem_singleton.mp z]; exact ⟨k1, k2⟩
            · rw [take_more hd, ← List.append_assoc]
              refine List.nodup_append.mpr ⟨nd1, by simp, fun x hx y hy => ?_⟩
              rw [List.mem_singleton.mp hy]
              exact fun z => k3 (z ▸ hx)
      · rintro σ H'' ⟨v10', rfl, rfl, r1, nd1⟩
        rw [List.length_map, List.take_length] at r1 nd1 ⊢
        have lsome : lineM n m rots.length seen l = some (ws.map pnum) := by rw [lm, if_pos ⟨ha, hn, r1, nd1⟩]
        -- rotations.append(tuple(darts))
        have eR2 : (upd Hb Sd (.dK (seenK (seen ++ ws.map pnum)))) R = some (.lst (ps.map V.ref)) := by rw [upd_ne hRS]; exact eRb
        refine ⟨_, rfl, .inl ⟨rfl, _, SqL.of eR2⟩, _, rfl, D, _, rfl, .inl ⟨SqL.of (by rw [upd_ne hDS]; exact eD2), fun L nL => ?_⟩⟩
        have sL : Same (upd Hb Sd (.dK (seenK (seen ++ ws.map pnum)))) (upd (upd Hb Sd (.dK (seenK (seen ++ ws.map pnum)))) L (.tup ((ws.map pnum).map V.int))) := same_upd nL
        have hn60 : rots.length ≤ 60 := by omega
        refine ⟨R, _, _, rfl, rfl, sL _ _ eR2, ?_, ?_⟩
        · rw [List.length_map, plen, sizeLine_eq]
          omega
        have hLS : L ≠ Sd := fun z => by rw [z, upd_same] at nL; cases nL
        have hLR : L ≠ R := fun z => by rw [z, eR2] at nL; cases nL
        -- what stood, but seen and rotations, stands
        have st : ∀ b o, b ≠ Sd → b ≠ R → H' b = some o → (upd (upd (upd Hb Sd (.dK (seenK (seen ++ ws.map pnum)))) L (.tup ((ws.map pnum).map V.int))) R (.lst (ps.map V.ref ++ [V.ref L]))) b = some o := fun b o h1 h2 e => by
          rw [upd_ne h2]
          exact sL _ _ (by rw [upd_ne h1]; exact sb _ _ e)
        refine ⟨_, _, _, _, v10', v11, rots ++ [ws.map pnum], seen ++ ws.map pnum, ps ++ [L], rfl, ?_, st _ _ hpS hpR ep, st _ _ hcS hcR ecL, ?_, ?_, ?_, ?_, nd1, ?_, ?_⟩
        · exact same_upd2 hR ((same_upd2 hSd (sH.trans sb)).trans sL)
        · rw [upd_same, List.map_append]
          rfl
        · rw [upd_ne hRS.symm, upd_ne hLS.symm, upd_same]
        · refine Paired.snoc ?_ (Paired.mapP eP fun q r e => st q _ (ne_of e eS (by intro z; cases z)) (ne_of e eR (by intro z; cases z)) e)
          rw [upd_ne hLR, upd_same]
        · rw [← eg]
          show _ = (match lineM n m rots.length seen l with | none => Out.bad (i + 2) | some ds => goM n m (ls.drop (i + 1)) (i + 2 + 1) (rots ++ [ds]) (seen ++ ds))
          rw [lsome]
        · intro d hd
          exact (List.mem_append.mp hd).elim (rg d) (r1 d)
        · rw [List.length_append, List.length_singleton]
          omega
    · rintro σ H' ⟨v6, v7, v8, v9, v10, v11, rots, seen, ps, rfl, sH, ep, ecL, eR, eS, eP, eg, nd, rg, rl⟩
      have plen : ps.length = rots.length := eP.length
      rw [List.length_map, List.drop_length] at eg
      have fin : goM n m [] (ls.length + 2) rots seen = if (rots.length : Int) < n ∨ (seen.length : Int) < 2 * m then Out.bad (ls.length + 2) else Out.ok rots := rfl
      have bad : ((rots.length : Int) < n ∨ (seen.length : Int) < 2 * m) → tMkO C (spInit C) []
          (tCons (tOp (rI0 fun i j => V.int (i + j)) (tCB (fun xs H_2 Q => ∃ p ys, xs = [V.ref p] ∧ (SqL K H_2 p ys ∨ SqT K H_2 p ys) ∧ Q (V.int ↑ys.length) H_2) (tCons (tVar 1) tNil)) (tC (V.int 1))) tNil)
          [some (.str (SX.S t)), some (.ref p), some (.int n), some (.int m), some (.ref R), some (.ref Sd), v6, v7, v8, v9, v10, v11] H' fun cls d H' => E cls d H' := by
        intro hb
        refine ⟨_, rfl, p, _, rfl, .inl (SqL.of ep), _, _, rfl, rfl, by show 1 ≤ 1000; decide, made_bad fun d H'' s'' e => ?_⟩
        refine qE (ls.length + 2) (by rw [pm, ← eg, fin, if_pos hb]) d H'' (sH.trans s'') ?_
        rw [e, List.length_map, List.length_cons]
        rw [show ((ls.length + 2 : Nat) : Int) = ((ls.length + 1 : Nat) : Int) + 1 by omega]
      refine ⟨_, rfl, R, _, rfl, .inl (SqL.of eR), _, rfl, _, _, rfl, rfl, _, rfl, ?_⟩
      rw [List.length_map, plen]
      by_cases k1 : (rots.length : Int) < n
      · rw [decide_eq_true k1]
        exact iteT (iteT (bad (.inl k1)))
      rw [decide_eq_false k1]
      refine iteF ⟨_, rfl, Sd, _, rfl, eS, _, rfl, _, _, rfl, rfl, .inl ⟨by decide, by decide⟩, _, _, rfl, rfl, _, rfl, ?_⟩
      rw [seenK_len]
      by_cases k2 : (seen.length : Int) < 2 * m
      · rw [decide_eq_true k2]
        exact iteT (bad (.inr k2))
      rw [decide_eq_false k2]
      refine iteF ⟨_, rfl, R, _, rfl, .inl ⟨SqL.of eR, fun L nL => ?_⟩⟩
      refine qQ rots (by rw [pm, ← eg, fin, if_neg (fun z => z.elim k1 k2)]) L _ (same_upd2 ?_ sH) ⟨ps, upd_same, ?_⟩
      · cases z : H L with
        | none => rfl
        | some o => rw [sH _ _ z] at nL; cases nL
      · exact Paired.mapP eP fun q r e => by rw [upd_ne (ne_of_none e nL)]; exact e
end
end Fl
-- D4a
namespace Fl
open PySem PySem.Spec PyProof.Rows L2
theorem Paired.getL {α β : Type} {F : α → β → Prop} : ∀ {l1 : List α} {l2 : List β} {i : Nat} {a : α}, Paired F l1 l2 → l1[i]? = some a → ∃ b, l2[i]? = some b ∧ F a b
  | _, _, i, a, .nil, h => by cases i <;> cases h
  | _, _, 0, a, .cons r t, h => ⟨_, rfl, by cases h; exact r⟩
  | _ :: l1, _ :: l2, i + 1, a, .cons r t, h => Paired.getL (l1 := l1) (l2 := l2) (i := i) t h
theorem Paired.getR {α β : Type} {F : α → β → Prop} : ∀ {l1 : List α} {l2 : List β} {i : Nat} {b : β}, Paired F l1 l2 → l2[i]? = some b → ∃ a, l1[i]? = some a ∧ F a b
  | _, _, i, a, .nil, h => by cases i <;> cases h
  | _, _, 0, a, .cons r t, h => ⟨_, rfl, by cases h; exact r⟩
  | _ :: l1, _ :: l2, i + 1, a, .cons r t, h => Paired.getR (l1 := l1) (l2 := l2) (i := i) t h
theorem same_seqT {K : PySem.W.Frag} {H H' : Hp} {a : Addr} {xs : List V} (e : Same H H') (h : SqT K H a xs) : SqT K H' a xs := by
  rcases h with (h | ⟨o, h⟩) | h
  · exact .inl (.inl (e _ _ h))
  · exact .inl (.inr ⟨o, e _ _ h⟩)
  · exact .inr h
/-- [f(x) for x in xs], f a def that changes nothing that stood, over a tuple -/
theorem lc_mapT {K : PySem.W.Frag} {a D : Addr} {xs ys : List V} {k : Nat} {te : TE} {σ : L2.St} {H1 : Hp} {Qd : Hp → Prop} (hS : SqT K H1 a xs) (hD : H1 D = none) (hlen : xs.length < sizeLine) (hxy : ys.length = xs.length)
    (he : ∀ (i : Nat) (x y : V) H' Q, xs[i]? = some x → ys[i]? = some y → Same H1 H' → (∀ H'', Same H' H'' → Q y H'') → te ((wipe σ [k]).set k (some x)) H' Q)
    (hd : ∀ H', Same H1 H' → H' D = some (.lst ys) → Qd H') :
    ∃ W : Nat → Nat → Hp → Prop, (∃ m, W 0 m (upd H1 D (.lst []))) ∧ ∀ j m H, W j m H →
      ((Itt K a).stop j H ∧ Qd H) ∨ ((Itt K a).go j H ∧ ∃ Nx : Hp → Prop, (∀ H', Nx H' → ∃ m', m' < m ∧ W (j + 1) m' H') ∧ ∀ x H', (Itt K a).yld j H x H' → gName k x (wipe σ [k]) H' fun σ2 H2 => wipe σ2 [k] = wipe σ [k] ∧ tYes σ2 H2 fun b H3 =>
        if b = true then te σ2 H3 fun y H4 => ∃ acc, H4 D = some (.lst acc) ∧ acc.length < sizeLine ∧ Nx (upd H4 D (.lst (acc ++ [y]))) else Nx H3) := by
  refine lc_tup (xs := xs) (fun j H' => Same H1 H' ∧ H' D = some (.lst (ys.take j))) ⟨same_upd hD, upd_same⟩ (fun j H' _ p => same_seqT p.1 hS) ?_ (fun H' p => ?_)
  · rintro j x H' hx ⟨p1, p2⟩
    have hj : j < ys.length := by rw [hxy]; exact (List.getElem?_eq_some_iff.mp hx).1
    have hy : ys[j]? = some ys[j] := List.getElem?_eq_getElem hj
    refine ⟨wipe1 σ k _, tYes_of (iteT ?_)⟩
    refine he j x _ H' _ hx hy p1 fun H'' s2 => ⟨_, s2 _ _ p2, ?_, same_upd2 hD (p1.trans s2), ?_⟩
    · rw [List.length_take]
      exact Nat.lt_of_le_of_lt (Nat.min_le_left _ _) (Nat.lt_trans (hxy ▸ hj) hlen)
    · rw [upd_same, take_more hy]
  · obtain ⟨p1, p2⟩ := p
    rw [← hxy, List.take_length] at p2
    exact hd H' p1 p2
/-- the same over a list -/
theorem lc_mapL {K : PySem.W.Frag} {a D : Addr} {xs ys : List V} {k : Nat} {te : TE} {σ : L2.St} {H1 : Hp} {Qd : Hp → Prop} (hS : SqL K H1 a xs) (hD : H1 D = none) (hlen : xs.length < sizeLine) (hxy : ys.length = xs.length)
    (he : ∀ (i : Nat) (x y : V) H' Q, xs[i]? = some x → ys[i]? = some y → Same H1 H' → (∀ H'', Same H' H'' → Q y H'') → te ((wipe σ [k]).set k (some x)) H' Q)
    (hd : ∀ H', Same H1 H' → H' D = some (.lst ys) → Qd H') :
    ∃ W : Nat → Nat → Hp → Prop, (∃ m, W 0 m (upd H1 D (.lst []))) ∧ ∀ j m H, W j m H →
      ((Itl K a).stop j H ∧ Qd H) ∨ ((Itl K a).go j H ∧ ∃ Nx : Hp → Prop, (∀ H', Nx H' → ∃ m', m' < m ∧ W (j + 1) m' H') ∧ ∀ x H', (Itl K a).yld j H x H' → gName k x (wipe σ [k]) H' fun σ2 H2 => wipe σ2 [k] = wipe σ [k] ∧ tYes σ2 H2 fun b H3 =>
        if b = true then te σ2 H3 fun y H4 => ∃ acc, H4 D = some (.lst acc) ∧ acc.length < sizeLine ∧ Nx (upd H4 D (.lst (acc ++ [y]))) else Nx H3) := by
  refine lc_list (xs := xs) (fun j H' => Same H1 H' ∧ H' D = some (.lst (ys.take j))) ⟨same_upd hD, upd_same⟩ (fun j H' _ p => p.1.seq hS) ?_ (fun H' p => ?_)
  · rintro j x H' hx ⟨p1, p2⟩
    have hj : j < ys.length := by rw [hxy]; exact (List.getElem?_eq_some_iff.mp hx).1
    have hy : ys[j]? = some ys[j] := List.getElem?_eq_getElem hj
    refine ⟨wipe1 σ k _, tYes_of (iteT ?_)⟩
    refine he j x _ H' _ hx hy p1 fun H'' s2 => ⟨_, s2 _ _ p2, ?_, same_upd2 hD (p1.trans s2), ?_⟩
    · rw [List.length_take]
      exact Nat.lt_of_le_of_lt (Nat.min_le_left _ _) (Nat.lt_trans (hxy ▸ hj) hlen)
    · rw [upd_same, take_more hy]
  · obtain ⟨p1, p2⟩ := p
    rw [← hxy, List.take_length] at p2
    exact hd H' p1 p2
/-- the same over a range from 0 -/
theorem lc_mapR {lo : Int} {n : Nat} {D : Addr} {ys : List V} {k : Nat} {te : TE} {σ : L2.St} {H1 : Hp} {Qd : Hp → Prop} (hD : H1 D = none) (hlen : n < sizeLine) (hxy : ys.length = n)
    (he : ∀ (i : Nat) (y : V) H' Q, i < n → ys[i]? = some y → Same H1 H' → H' D = some (.lst (ys.take i)) → (∀ H'', Same H' H'' → Q y H'') → te ((wipe σ [k]).set k (some (.int (lo + (i : Nat))))) H' Q)
    (hd : ∀ H', Same H1 H' → H' D = some (.lst ys) → Qd H') :
    ∃ W : Nat → Nat → Hp → Prop, (∃ m, W 0 m (upd H1 D (.lst []))) ∧ ∀ j m H, W j m H →
      ((Itr lo n).stop j H ∧ Qd H) ∨ ((Itr lo n).go j H ∧ ∃ Nx : Hp → Prop, (∀ H', Nx H' → ∃ m', m' < m ∧ W (j + 1) m' H') ∧ ∀ x H', (Itr lo n).yld j H x H' → gName k x (wipe σ [k]) H' fun σ2 H2 => wipe σ2 [k] = wipe σ [k] ∧ tYes σ2 H2 fun b H3 =>
        if b = true then te σ2 H3 fun y H4 => ∃ acc, H4 D = some (.lst acc) ∧ acc.length < sizeLine ∧ Nx (upd H4 D (.lst (acc ++ [y]))) else Nx H3) := by
  refine lc_range (lo := lo) (n := n) (fun j H' => Same H1 H' ∧ H' D = some (.lst (ys.take j))) ⟨same_upd hD, upd_same⟩ ?_ (fun H' p => ?_)
  · rintro j H' hj' ⟨p1, p2⟩
    have hj : j < ys.length := by rw [hxy]; exact hj'
    have hy : ys[j]? = some ys[j] := List.getElem?_eq_getElem hj
    refine ⟨wipe1 σ k _, tYes_of (iteT ?_)⟩
    refine he j _ H' _ hj' hy p1 p2 fun H'' s2 => ⟨_, s2 _ _ p2, ?_, same_upd2 hD (p1.trans s2), ?_⟩
    · rw [List.length_take]
      exact Nat.lt_of_le_of_lt (Nat.min_le_left _ _) (Nat.lt_trans hj' hlen)
    · rw [upd_same, take_more hy]
  · obtain ⟨p1, p2⟩ := p
    rw [← hxy, List.take_length] at p2
    exact hd H' p1 p2
/-! ### the dict of the darts still missing -/
def remI (n : Nat) (done : List Int) : List Int := ((List.range n).map fun i : Nat => (i : Int)).filter fun d => decide (d ∉ done)
theorem remI_mem {n : Nat} {done : List Int} {d : Int} : d ∈ remI n done ↔ (0 ≤ d ∧ d < n) ∧ d ∉ done := by
  unfold remI
  rw [List.mem_filter, List.mem_map]
  constructor
  · rintro ⟨⟨i, hi, rfl⟩, h⟩
    have := List.mem_range.mp hi
    exact ⟨⟨by omega, by omega⟩, of_decide_eq_true h⟩
  · rintro ⟨⟨h1, h2⟩, h3⟩
    exact ⟨⟨d.toNat, List.mem_range.mpr (by omega), by omega⟩, decide_eq_true h3⟩
theorem seenK_val {l : List Int} {d : Int} (h : d ∈ l) : valV (seenK l) (Sum.inl d : Key) = some (.bl true) := by
  induction l with
  | nil => cases h
  | cons x l ih =>
    by_cases e : x = d
    · subst e
      exact valV_pos (p := ((Sum.inl x : Key), V.bl true)) rfl
    · have e2 : d ∈ l := by
        rcases List.mem_cons.mp h with z | z
        · exact absurd z.symm e
        · exact z
      rw [show seenK (x :: l) = ((Sum.inl x : Key), V.bl true) :: seenK l from rfl, valV_neg (by intro z; exact e (Sum.inl.inj z))]
      exact ih e2
theorem seenK_drop {n : Nat} {done : List Int} {d : Int} : dropK (seenK (remI n done)) (Sum.inl d : Key) = seenK (remI n (done ++ [d])) := by
  unfold dropK seenK remI
  rw [List.filter_map, List.filter_filter]
  congr 1
  apply List.filter_congr
  intro x hx
  show (decide ((Sum.inl x : Key) ≠ Sum.inl d) && decide (x ∉ done)) = decide (x ∉ done ++ [d])
  rw [Bool.eq_iff_iff]
  simp only [Bool.and_eq_true, decide_eq_true_eq, List.mem_append, List.mem_singleton, not_or, ne_eq]
  constructor
  · rintro ⟨h1, h2⟩
    exact ⟨h2, fun z => h1 (by rw [z])⟩
  · rintro ⟨h1, h2⟩
    exact ⟨fun z => h2 (Sum.inl.inj z), h1⟩
theorem seenK_range (n : Nat) : seenK ((List.range n).map fun i : Nat => (i : Int)) = seenK (remI n []) := by
  unfold remI
  congr 1
  symm
  apply List.filter_eq_self.mpr
  intro x _
  simp
theorem flat_take {g : List (List Int)} {i : Nat} {r : List Int} (h : g[i]? = some r) : (g.take (i + 1)).flatten = (g.take i).flatten ++ r := by
  rw [take_more h, List.flatten_append]
  simp
theorem flat_at {g : List (List Int)} {i : Nat} {r : List Int} (h : g[i]? = some r) : g.flatten = (g.take i).flatten ++ r ++ (g.drop (i + 1)).flatten := by
  conv => lhs; rw [← List.take_append_drop i g, drop_at h]
  rw [List.flatten_append, List.flatten_cons, List.append_assoc]
theorem sum_lens (g : List (List Int)) : ((g.map fun r => (r.length : Int)).sum) = (g.flatten.length : Int) := by
  induction g with
  | nil => rfl
  | cons r g ih => rw [List.map_cons, List.sum_cons, ih, List.flatten_cons, List.length_append]; omega
end Fl
-- D4
namespace Fl
open PySem PySem.Spec PyProof.Rows L2
/-! ### name = {k: v for ..}, a statement of its own -/
section
variable {X : Cx}
theorem swD {kx vx : Expr} {gs : List Comprehension} {scope : Scope} {pos py : Pos} {y : Str} {l : Nat} {env : Env} (hk : env.scope.kind = .function) (hy : env.scope.names.lookup y = some .local) (hl : (py.line == pos.line) = true)
    (ha : (scope.names.any fun (n, k) => n == y && (k == .local || k == .cell)) = false) : swapsWith (.DictComp kx vx gs scope pos) (some (.Name y py)) l env = pure true := by
  have ky : env.kindOf y = some .local := hy
  have hb : env.blockKind = .function := by unfold Env.blockKind; rw [hk]; rfl
  unfold swapsWith
  simp only [hb, ky, ha, Expr.pos, hl]
  rfl
theorem ps_setDc {i : Nat} {y : Str} {py : Pos} {kx vx tg iter : Expr} {ifs : List Expr} {scope : Scope} {own : List (Str × Nat)} {pos spos : Pos} {wi : TI} {g : TG} {tt : TT} {tk tv : TE} (hc : X.calm = true) (hN : X.N.Nodup) (hy : X.N[i]? = some y) (hyl : X.env.scope.names.lookup y = some .local)
    (hsw : swapsWith (.DictComp kx vx [⟨tg, iter, ifs, 0⟩] scope pos) (some (.Name y py)) spos.line X.env = pure true) (hi : PI X tg iter wi) (ok : BlkOk X.N X.env.scope scope own)
    (hg : ∀ (s : Shared) (H : Hp) (C : Addr) (cl : List (Str × Addr)) (fp : List Addr), PG (X.blk s H scope (compEnvC scope cl C X.env) fp) tg g) (ht : ∀ (s : Shared) (H : Hp) (C : Addr) (cl : List (Str × Addr)) (fp : List Addr), PTs (X.blk s H scope (compEnvC scope cl C X.env) fp) ifs tt)
    (hk : ∀ (s : Shared) (H : Hp) (C : Addr) (cl : List (Str × Addr)) (fp : List Addr), PE (X.blk s H scope (compEnvC scope cl C X.env) fp) kx tk)
    (he : ∀ (s : Shared) (H : Hp) (C : Addr) (cl : List (Str × Addr)) (fp : List Addr), PE (X.blk s H scope (compEnvC scope cl C X.env) fp) vx tv) (hs : ∀ x, foldedSetIterable iter X.env x = pure x := by intro _; rfl) :
    PS X (.Assign [.Name y py] (.DictComp kx vx [⟨tg, iter, ifs, 0⟩] scope pos) spos) (tAsg (tDc wi g tt tk tv (own.map (·.2))) (gName i)) := by
  refine ⟨fun pins s σ H D I h => ?_⟩
  rw [exec_Assign_Name_used _ _ _ _ hsw]
  refine wpAny_bind (wpAny_standAt (wpAny_bind ?_))
  show wpAny _ X.A (do let _ ← comprehension (.DictComp kx vx [⟨tg, iter, ifs, 0⟩] scope pos) scope X.env (firstIterPos [⟨tg, iter, ifs, 0⟩] pos) newDict false (eval iter X.env) (some (assign (.Name y py) X.env))) _ _ s
  have h : tDc wi g tt tk tv (own.map (·.2)) σ H (fun x H1 => gName i x σ H1 D.nx) := h
  refine wpAny_bind (thn (dc_core (Qf := fun _ s' => SP X pins D .next s') hc hN I hi ok hg ht hk he hs h fun L C s' m H' I' q hn f => ?_) fun _ s' hq => wpAny_pure (wpAny_pure hq))
  show wpAny _ _ (assign (.Name y py) X.env (.ref L)) _ _ _
  refine wpAny_assign_Name (store_ok2 (v := V.ref L) I' hN hy (.inl hyl) rfl (fun s2 I2 ⟨a, sb, ha⟩ => ?_) (.inr hyl))
  obtain ⟨f0, f1, f2, f3, f4, f5⟩ := f
  have haC : C ≠ a := by
    rcases ha with z | z
    · rw [z]; exact f1
    · exact fun e => f4 y a z e.symm
  exact ⟨m, hn.sameBut sb haC, fun h3 sb3 => ⟨_, H', I2.turned (t' := s2.toks) (fun b o hb e => (sb3.2 b hb).trans e) f0 f1 f3 f4 f5, q⟩⟩
end
/-- {i: True for i in range(n)} -/
theorem dc_range {n : Nat} {g : TG} {tt : TT} {tk tv : TE} {vs : List Nat} {σ : L2.St} {H1 : Hp} {D : Addr} {Qd : Hp → Prop} (Pv : Nat → Hp → Prop) (h0 : Pv 0 (upd H1 D (.dK [])))
    (hs : ∀ i H, i < n → Pv i H → g (.int (0 + (i : Nat))) (wipe σ vs) H fun σ2 H2 => wipe σ2 vs = wipe σ vs ∧ tt σ2 H2 fun b H3 =>
      if b = true then tk σ2 H3 fun y H4 => tv σ2 H4 fun z H5 => ∃ kvs k, y = kV k ∧ H5 D = some (.dK kvs) ∧ kvs.length < sizeLine ∧ Pv (i + 1) (upd H5 D (.dK (putK kvs k z))) else Pv (i + 1) H3) (hd : ∀ H, Pv n H → Qd H) :
    ∃ W : Nat → Nat → Hp → Prop, (∃ m, W 0 m (upd H1 D (.dK []))) ∧ ∀ i m H, W i m H →
      ((Itr 0 n).stop i H ∧ Qd H) ∨ ((Itr 0 n).go i H ∧ ∃ Nx : Hp → Prop, (∀ H', Nx H' → ∃ m', m' < m ∧ W (i + 1) m' H') ∧ ∀ x H', (Itr 0 n).yld i H x H' → g x (wipe σ vs) H' fun σ2 H2 => wipe σ2 vs = wipe σ vs ∧ tt σ2 H2 fun b H3 =>
        if b = true then tk σ2 H3 fun y H4 => tv σ2 H4 fun z H5 => ∃ kvs k, y = kV k ∧ H5 D = some (.dK kvs) ∧ kvs.length < sizeLine ∧ Nx (upd H5 D (.dK (putK kvs k z))) else Nx H3) := by
  refine ⟨fun i m H => m = n - i ∧ i ≤ n ∧ Pv i H, ⟨n, by simp, Nat.zero_le _, h0⟩, ?_⟩
  rintro i m H ⟨rfl, hi, p⟩
  by_cases hlt : i < n
  · refine .inr ⟨hlt, Pv (i + 1), fun H' p' => ⟨n - (i + 1), by omega, rfl, hlt, p'⟩, fun x H' y => ?_⟩
    obtain ⟨rfl, rfl⟩ := y
    exact hs i _ hlt p
  · have e : i = n := by omega
    subst e
    exact .inl ⟨Nat.le_refl _, hd H p⟩
abbrev sIdx : Stmt := topS 9
abbrev sFault : Stmt := topS 10
abbrev sCheck : Stmt := topS 11
abbrev sLine : Stmt := topS 21
abbrev sText : Stmt := topS 22
abbrev nFault : List Str := ["value", "rotation", "many", "dart", "missing"]
theorem scIdx : FnScope ["value", "many"] ["value", "many"] (defScope sIdx) := ⟨rfl, rfl, rfl, by decide +kernel, rfl, by decide +kernel, by decide +kernel⟩
theorem scFault : FnScope nFault ["value"] (defScope sFault) := ⟨rfl, rfl, rfl, by decide +kernel, rfl, by decide +kernel, by decide +kernel⟩
theorem scCheck : FnScope ["graph", "place"] ["graph"] (defScope sCheck) := ⟨rfl, rfl, rfl, by decide +kernel, rfl, by decide +kernel, by decide +kernel⟩
theorem scLine : FnScope ["words", "word"] ["words"] (defScope sLine) := ⟨rfl, rfl, rfl, by decide +kernel, rfl, by decide +kernel, by decide +kernel⟩
theorem scText : FnScope ["graph", "many", "lines", "rotation"] ["graph"] (defScope sText) := ⟨rfl, rfl, rfl, by decide +kernel, rfl, by decide +kernel, by decide +kernel⟩
section
variable {P : Program} {w : World} {K : PySem.W.Frag} {mg : Str → Option Value} {base : Heap}
theorem kit_int_bool : PySem.W.kitOne K (.type "int") (.type "bool") = some false := by kernel_rfl
def rLenS (K : PySem.W.Frag) : List V → Hp → VK → Prop := fun xs H Q => ∃ p ys, xs = [V.ref p] ∧ (SqL K H p ys ∨ SqT K H p ys) ∧ Q (.int (ys.length : Nat)) H
theorem call_lenS {X : Cx} : CallR X (.builtin "len") (rLenS X.K) := call_len_seq
/-! ### is_index, on ints -/
def spIdx : Sp := fun vs H Q _ => ∃ d n : Int, vs = [.int d, .int n] ∧ Q (.bl (decide (0 ≤ d ∧ d < n))) H
theorem ok_idx {f : Addr} {fd : FuncData} {k : Nat} (F : Fun K "is_index" "is_index" sIdx f fd) (mis : mg "isinstance" = none) (mi : mg "int" = none) (mb : mg "bool" = none) : FnOk P w K mg base CX0 (k + 1) f fd ["value", "many"] spIdx := by
  refine F.ok scIdx (fun vs H Q E h => ?_) (fun cdv A outer s H vs Q E hr h => ?_)
  · obtain ⟨d, n, rfl, _⟩ := h
    rfl
  · obtain ⟨d, n, rfl, q⟩ := h
    refine ⟨_, pss_one (ps_ret (pe_and (pe_callB call_isi (by rfl) mis (by decide +kernel) (pa_cons (pv 0) (pa_cons (pe_bltn (v := .ty "int") (by rfl) mi (by decide +kernel) rfl) pa_nil)))
      (pe_and (pe_not (pe_callB call_isi (by rfl) mis (by decide +kernel) (pa_cons (pv 0) (pa_cons (pe_bltn (v := .ty "bool") (by rfl) mb (by decide +kernel) rfl) pa_nil))))
      (pe_one (pe_chain op_le op_lt pe_int (pv 0) (pv 1)))))), ?_⟩
    refine ⟨_, rfl, _, _, _, _, true, rfl, .ty "int", .base (.int _), kit_self "int", true, rfl, iteT ?_⟩
    refine ⟨_, rfl, _, _, _, _, false, rfl, .ty "bool", .base (.int _), kit_int_bool, false, rfl, true, rfl, iteT ?_⟩
    refine ⟨_, rfl, _, _, rfl, rfl, _, rfl, ?_⟩
    by_cases h1 : 0 ≤ d
    · rw [decide_eq_true h1]
      refine iteT ⟨_, rfl, _, _, rfl, rfl, ?_⟩
      have e : decide (0 ≤ d ∧ d < n) = decide (d < n) := by simp [h1]
      rw [e] at q
      exact q
    · rw [decide_eq_false h1]
      have e : decide (0 ≤ d ∧ d < n) = false := by simp [h1]
      rw [e] at q
      exact iteF q
/-! ### graph_fault, on graphs -/
def spFault : Sp := fun vs H Q _ => ∃ (p : Addr) (g : List (List Int)), vs = [.ref p] ∧ GrAt H p g ∧ Gr g ∧ ∀ H', Same H H' → Q .non H'
theorem ok_fault {f fX : Addr} {fd fdX : FuncData} (F : Fun K "graph_fault" "graph_fault" sFault f fd) (FX : FnOk P w K mg base CX0 1 fX fdX ["value", "many"] spIdx) (bX : Binds K fdX ["value", "many"] []) (gX : mg "is_index" = some (.ref fX)) (kX : PySem.W.keepIn K (.ref fX) = true)
    (mis : mg "isinstance" = none) (mt : mg "tuple" = none) (ml : mg "len" = none) (ma : mg "all" = none) (ms : mg "sum" = none) (mr : mg "range" = none) (m60 : ∃ t, mg "MAX_NODES" = some (.int 60 t)) (m120 : ∃ t, mg "MAX_EDGES" = some (.int 120 t)) :
    FnOk P w K mg base CX0 2 f fd ["value"] spFault := by
  obtain ⟨t1, m60⟩ := m60
  obtain ⟨t2, m120⟩ := m120
  refine F.ok scFault (fun vs H Q E h => ?_) (fun cdv A outer s H vs Q E hr h => ?_)
  · obtain ⟨p, g, rfl, _⟩ := h
    rfl
  · obtain ⟨p, g, rfl, hg, G, q⟩ := h
    have hu := hu_of hr
    refine ⟨_, pss_cons (ps_if (PW.pt (pw_or (pt_not (pt_val (pe_callB call_isi (by rfl) mis (by decide +kernel) (pa_cons (pv 0) (pa_cons (pe_bltn (v := .ty "tuple") (by rfl) mt (by decide +kernel) rfl) pa_nil)))))
        (pw_or1 (pt_cmpR op_gt (pe_callB call_len_seq (by rfl) ml PySem.boot_len (pa_cons (pv 0) pa_nil)) (pe_glob (v := .int 60) (by rfl) m60 ⟨_, rfl⟩) (nomark _)))))
        (pss_one ps_never) pss_nil)
      (pss_cons (ps_if (pt_not (pt_val (pe_callB (cr_all rfl) (by rfl) ma (by decide +kernel) (pa_cons (pe_lc (own := [("rotation", 1)]) (g := gName 1) (tt := tYes) rfl scFault.nd (pi_tup (pv 0)) (blkOk_by (own := [("rotation", 1)]) (N := nFault) (sc := defScope sFault) (by decide +kernel))
          (fun _ _ _ _ _ => pg_name (i := 1) scFault.nd rfl (Or.inl rfl)) (fun _ _ _ _ _ => pts_nil) (fun _ _ _ _ _ => pe_callB (r := rIsi K) (id := "isinstance") call_isi (by rfl) mis (by decide +kernel) (pa_cons (pv 1) (pa_cons (pe_bltn (v := .ty "tuple") (by rfl) mt (by decide +kernel) rfl) pa_nil)))) pa_nil))))
        (pss_one ps_never) pss_nil)
      (pss_cons (ps_set (i := 2) scFault.nd rfl (.inl rfl) (pe_callB (cr_sum rfl) (by rfl) ms (by decide +kernel) (pa_cons (pe_lc (own := [("rotation", 1)]) (g := gName 1) (tt := tYes) rfl scFault.nd (pi_tup (pv 0)) (blkOk_by (own := [("rotation", 1)]) (N := nFault) (sc := defScope sFault) (by decide +kernel))
          (fun _ _ _ _ _ => pg_name (i := 1) scFault.nd rfl (Or.inl rfl)) (fun _ _ _ _ _ => pts_nil) (fun _ _ _ _ _ => pe_callB (r := rLenS K) call_lenS (by rfl) ml PySem.boot_len (pa_cons (pv 1) pa_nil))) pa_nil)))
      (pss_cons (ps_if (PW.pt (pw_or (pt_cmpR op_gt (pv 2) (pe_op op_mul pe_int (pe_glob (v := .int 120) (by rfl) m120 ⟨_, rfl⟩)) (nomark _)) (pw_or1 (pt_cmpR op_eq (pe_op op_mod (pv 2) pe_int) pe_int (nomark _)))))
        (pss_one ps_never) pss_nil)
      (pss_cons (ps_setDc (i := 4) (own := [("dart", 3)]) (g := gName 3) (tt := tYes) rfl scFault.nd rfl rfl (swD rfl rfl rfl (by decide +kernel)) (pi_range1 (by rfl) mr (pa_cons (pv 2) pa_nil)) (blkOk_by (own := [("dart", 3)]) (N := nFault) (sc := defScope sFault) (by decide +kernel))
          (fun _ _ _ _ _ => pg_name (i := 3) scFault.nd rfl (Or.inl rfl)) (fun _ _ _ _ _ => pts_nil) (fun _ _ _ _ _ => pv 3) (fun _ _ _ _ _ => pe_bl))
      (pss_cons (ps_for PassesOwn.never rfl (pi_tup (pv 0)) (pg_name (i := 1) scFault.nd rfl (.inl rfl))
        (pss_one (ps_for PassesOwn.never rfl (pi_tup (pv 1)) (pg_name (i := 3) scFault.nd rfl (.inl rfl))
          (pss_cons (ps_if (PW.pt (pw_or (pt_not (pt_val (pe_call FX hr (by rfl) gX kX bX .nil pass0 (pa_cons (pv 3) (pa_cons (pv 2) pa_nil))))) (pw_or1 (pt_cmp (pc_dnotin hu (pv 3) (pv 4))))))
            (pss_one ps_never) pss_nil)
          (pss_one (ps_expr (pe_dpop1 (pv 4) (pv 3) ⟨by rfl, by rfl, by rfl, by rfl⟩)))))))
      (pss_one (ps_ret pe_non))))))), ?_⟩
    obtain ⟨ps, eg, ePs⟩ := id hg
    have plen : ps.length = g.length := ePs.length
    have gl := G.n
    have fl := G.m
    have slen : (ps.map V.ref).length < sizeLine := by rw [List.length_map, plen, sizeLine_eq]; omega
    -- isinstance(value, tuple), len(value) > 60
    refine ⟨_, rfl, _, _, _, _, true, rfl, .ty "tuple", .base (.tup eg), kit_self "tuple", _, rfl, iteF ?_⟩
    refine ⟨_, rfl, p, _, rfl, .inr (SqT.of eg), _, _, rfl, rfl, _, rfl, ?_⟩
    rw [show decide ((60 : Int) < ((ps.map V.ref).length : Nat)) = false from decide_eq_false (by rw [List.length_map, plen]; omega)]
    refine iteF ?_
    -- all([isinstance(rotation, tuple) for ..])
    refine ⟨_, rfl, p, rfl, ⟨_, SqT.of eg⟩, fun D1 n1 => ?_⟩
    refine lc_mapT (K := K) (xs := ps.map V.ref) (ys := (List.replicate ps.length true).map V.bl) (SqT.of eg) n1 slen (by simp) ?_ ?_
    · intro i x y H' Q' hx hy s1 hq
      rw [List.getElem?_map] at hx
      obtain ⟨q', hq', rfl⟩ : ∃ q', ps[i]? = some q' ∧ x = V.ref q' := by
        cases z : ps[i]? with
        | none => rw [z] at hx; cases hx
        | some d => rw [z] at hx; exact ⟨d, rfl, (Option.some.inj hx).symm⟩
      obtain ⟨r, hr', er⟩ := Paired.getL ePs hq'
      have ey : y = V.bl true := by
        have := List.mem_of_getElem? hy
        rw [List.map_replicate] at this
        exact (List.mem_replicate.mp this).2
      subst ey
      refine ⟨_, rfl, _, _, _, _, true, rfl, .ty "tuple", .base (.tup (s1 _ _ er)), kit_self "tuple", hq _ (Same.refl _)⟩
    intro H1 s1 eD1
    refine ⟨D1, _, rfl, SqL.of eD1, _, rfl, ?_⟩
    rw [show (List.replicate ps.length true).all id = true by simp]
    refine iteF ?_
    -- many = sum([len(rotation) for ..])
    refine ⟨_, rfl, p, rfl, ⟨_, SqT.of (s1 _ _ eg)⟩, fun D2 n2 => ?_⟩
    refine lc_mapT (K := K) (xs := ps.map V.ref) (ys := (g.map fun r => (r.length : Int)).map V.int) (SqT.of (s1 _ _ eg)) n2 slen (by simp [plen]) ?_ ?_
    · intro i x y H' Q' hx hy s2 hq
      rw [List.getElem?_map] at hx
      obtain ⟨q', hq', rfl⟩ : ∃ q', ps[i]? = some q' ∧ x = V.ref q' := by
        cases z : ps[i]? with
        | none => rw [z] at hx; cases hx
        | some d => rw [z] at hx; exact ⟨d, rfl, (Option.some.inj hx).symm⟩
      obtain ⟨r, hr', er⟩ := Paired.getL ePs hq'
      rw [List.map_map, List.getElem?_map, hr'] at hy
      have ey : V.int (r.length : Int) = y := Option.some.inj hy
      subst ey
      refine ⟨_, rfl, q', _, rfl, .inr (SqT.of (s2 _ _ (s1 _ _ er))), ?_⟩
      rw [List.length_map]
      exact hq _ (Same.refl _)
    intro H2 s2 eD2
    have s12 := s1.trans s2
    refine ⟨D2, _, rfl, SqL.of eD2, ?_⟩
    rw [sum_lens]
    generalize hN : g.flatten.length = N at *
    -- many > 2 * 120 or many % 2 == 1
    refine ⟨_, rfl, _, _, rfl, rfl, .inl ⟨by decide, by decide⟩, _, _, rfl, rfl, _, rfl, ?_⟩
    rw [show decide ((2 : Int) * 120 < (N : Int)) = false from decide_eq_false (by omega)]
    refine iteF ⟨_, rfl, _, _, rfl, rfl, by show (0 : Int) < 2; decide, rfl, _, rfl, ?_⟩
    rw [show decide (V.int ((N : Int) % 2) = V.int 1) = false from decide_eq_false (fun z => by have := V.int.inj z; have := G.even; omega)]
    refine iteF ?_
    -- missing
    refine ⟨_, rfl, _, rfl, by omega, by omega, fun M nM => ?_⟩
    rw [show ((N : Int)).toNat = N by omega]
    refine dc_range (fun i H' => Same H H' ∧ H' M = some (.dK (seenK ((List.range i).map fun i : Nat => (i : Int))))) ⟨same_upd2 (s12.free nM) s12, by rw [upd_same]; rfl⟩ ?_ ?_
    · rintro i H' hi ⟨p1, p2⟩
      refine ⟨wipe1 _ 3 _, tYes_of (iteT ?_)⟩
      refine ⟨_, rfl, _, Sum.inl (0 + (i : Int)), rfl, p2, ?_, same_upd2 (s12.free nM) p1, ?_⟩
      · rw [seenK_len, List.length_map, List.length_range, sizeLine_eq]
        omega
      · rw [upd_same, show (0 : Int) + (i : Int) = (i : Int) by omega, seenK_put, List.range_succ, List.map_append]
        · rfl
        · intro z
          obtain ⟨j, hj, e⟩ := List.mem_map.mp z
          have := List.mem_range.mp hj
          omega
    rintro H3 ⟨s3, eM⟩
    rw [seenK_range] at eM
    -- for rotation in value
    have hMp : M ≠ p := (ne_of_none (s12 _ _ eg) nM).symm
    refine ⟨_, rfl, p, rfl, ⟨_, SqT.of (s3 _ _ eg)⟩, ?_⟩
    refine for_tup (K := K) (xs := ps.map V.ref) (fun i σ H' => ∃ v1 v3 : Option V, σ = [some (.ref p), v1, some (.int (N : Int)), v3, some (.ref M)] ∧ H' = upd H3 M (.dK (seenK (remI N (g.take i).flatten)))) ?_ ?_ ?_ ?_
    · refine ⟨none, none, rfl, ?_⟩
      exact (upd_self eM).symm
    · rintro i σ H' _ ⟨v1, v3, rfl, rfl⟩
      exact SqT.of (by rw [upd_ne hMp.symm]; exact s3 _ _ eg)
    · rintro i x σ H' hx ⟨v1, v3, rfl, rfl⟩
      rw [List.getElem?_map] at hx
      obtain ⟨q', hq', rfl⟩ : ∃ q', ps[i]? = some q' ∧ x = V.ref q' := by
        cases z : ps[i]? with
        | none => rw [z] at hx; cases hx
        | some d => rw [z] at hx; exact ⟨d, rfl, (Option.some.inj hx).symm⟩
      obtain ⟨r, hr', er⟩ := Paired.getL ePs hq'
      have er3 := s3 _ _ er
      have hq3 : q' ≠ M := ne_of er3 eM (by intro z; cases z)
      refine ⟨_, rfl, q', rfl, ⟨_, SqT.of (by rw [upd_ne hq3]; exact er3)⟩, ?_⟩
      refine for_tup (K := K) (xs := r.map V.int) (fun j σ H' => ∃ v3 : Option V, σ = [some (.ref p), some (.ref q'), some (.int (N : Int)), v3, some (.ref M)] ∧ H' = upd H3 M (.dK (seenK (remI N ((g.take i).flatten ++ r.take j))))) ?_ ?_ ?_ ?_
      · exact ⟨v3, rfl, by rw [List.take_zero, List.append_nil]⟩
      · rintro j σ H' _ ⟨v3', rfl, rfl⟩
        exact SqT.of (by rw [upd_ne hq3]; exact er3)
      · rintro j x σ H' hx ⟨v3', rfl, rfl⟩
        rw [List.getElem?_map] at hx
        obtain ⟨d, hd, rfl⟩ : ∃ d, r[j]? = some d ∧ x = V.int d := by
          cases z : r[j]? with
          | none => rw [z] at hx; cases hx
          | some d => rw [z] at hx; exact ⟨d, rfl, (Option.some.inj hx).symm⟩
        have ef : g.flatten = ((g.take i).flatten ++ r.take j) ++ d :: (r.drop (j + 1) ++ (g.drop (i + 1)).flatten) := by
          rw [flat_at hr']
          conv => lhs; rw [← List.take_append_drop j r, drop_at hd]
          simp only [List.append_assoc, List.cons_append]
        have hmem := G.mem d (by rw [ef]; simp)
        rw [hN] at hmem
        have hno : d ∉ (g.take i).flatten ++ r.take j := by
          intro z
          have := G.nd
          rw [ef] at this
          exact (List.nodup_append.mp this).2.2 d z d List.mem_cons_self rfl
        have hrem : d ∈ remI N ((g.take i).flatten ++ r.take j) := remI_mem.mpr ⟨hmem, hno⟩
        refine ⟨_, rfl, _, rfl, d, (N : Int), rfl, _, rfl, ?_⟩
        rw [decide_eq_true hmem]
        refine iteF ⟨_, rfl, _, rfl, M, _, rfl, DGet.k (k := Sum.inl d) upd_same, _, rfl, ?_⟩
        rw [seenK_get, decide_eq_true hrem]
        refine iteF ⟨_, rfl, M, rfl, .inl ⟨_, .inl upd_same⟩, _, rfl, _, Sum.inl d, _, upd_same, rfl, seenK_val hrem, ?_⟩
        refine ⟨_, rfl, ?_⟩
        rw [upd_upd, seenK_drop, take_more hd, List.append_assoc]
      · rintro σ H' ⟨v3', rfl, rfl⟩
        refine ⟨_, _, rfl, ?_⟩
        rw [List.length_map, List.take_length, flat_take hr']
    · rintro σ H' ⟨v1, v3, rfl, rfl⟩
      refine q _ (same_upd2 (s12.free nM) s3)
end
end Fl
-- D5
namespace Fl
open PySem PySem.Spec PyProof.Rows L2
theorem str_num (n : Nat) : Str.ofString (toString ((n : Nat) : Int)) = SX.S (TL.numL n) := TL.ext_tl (TL.tl_num n)
theorem join_lim (s : Nat) (ys : List (List Nat)) (h : wt ys ≤ 16777216) : ((ys.map SX.S).map (·.length)).sum + (ys.map SX.S).length * (SX.S [s]).length ≤ 16777216 := by
  refine Nat.le_trans (Nat.le_of_eq ?_) h
  clear h
  induction ys with
  | nil => rfl
  | cons y ys ih =>
    rw [List.map_cons, List.map_cons, List.sum_cons, List.length_cons, wt_cons, ← ih, SX.S_len, SX.S_len]
    simp only [List.length_map, List.length_cons, List.length_nil, Nat.zero_add, Nat.mul_one]
    omega
/-- a word of a line: a text or a number -/
def wv : List Nat ⊕ Nat → V
  | .inl l => .str (SX.S l)
  | .inr n => .int (n : Int)
def wl : List Nat ⊕ Nat → List Nat
  | .inl l => l
  | .inr n => TL.numL n
section
variable {P : Program} {w : World} {K : PySem.W.Frag} {mg : Str → Option Value} {base : Heap}
def spCheck : Sp := fun vs H Q _ => ∃ (p : Addr) (g : List (List Int)), vs = [.ref p] ∧ GrAt H p g ∧ Gr g ∧ ∀ H', Same H H' → Q .non H'
theorem ok_check {f fX : Addr} {fd fdX : FuncData} (F : Fun K "check_graph" "check_graph" sCheck f fd) (FX : FnOk P w K mg base CX0 2 fX fdX ["value"] spFault) (bX : Binds K fdX ["value"] []) (gX : mg "graph_fault" = some (.ref fX)) (kX : PySem.W.keepIn K (.ref fX) = true) :
    FnOk P w K mg base CX0 3 f fd ["graph"] spCheck := by
  refine F.ok scCheck (fun vs H Q E h => ?_) (fun cdv A outer s H vs Q E hr h => ?_)
  · obtain ⟨p, g, rfl, _⟩ := h
    rfl
  · obtain ⟨p, g, rfl, hg, G, q⟩ := h
    refine ⟨_, pss_cons (ps_set (i := 1) scCheck.nd rfl (.inl rfl) (pe_call FX hr (by rfl) gX kX bX .nil pass0 (pa_cons (pv 0) pa_nil)))
      (pss_one (ps_if (pt_cmp (pc_notN (pv 1))) (pss_one ps_never) pss_nil)), ?_⟩
    refine ⟨_, rfl, p, g, rfl, hg, G, fun H' s => ?_⟩
    exact ⟨_, rfl, _, rfl, iteF (q _ s)⟩
/-! ### line_of -/
def spLine : Sp := fun vs H Q _ => ∃ (p : Addr) (ws : List (List Nat ⊕ Nat)), vs = [.ref p] ∧ SqT K H p (ws.map wv) ∧ ws.length ≤ 1000 ∧ (∀ x ∈ ws, (wl x).length ≤ 100 ∧ ∀ n, x = .inr n → n < 1000) ∧ ∀ H', Same H H' → Q (.str (SX.S (TL.joinL [32] (ws.map wl)))) H'
theorem ok_line {f : Addr} {fd : FuncData} {k : Nat} (F : Fun K "line_of" "line_of" sLine f fd) (ms : mg "str" = none) : FnOk P w K mg base CX0 (k + 1) f fd ["words"] (spLine (K := K)) := by
  refine F.ok scLine (fun vs H Q E h => ?_) (fun cdv A outer s H vs Q E hr h => ?_)
  · obtain ⟨p, ws, rfl, _⟩ := h
    rfl
  · obtain ⟨p, ws, rfl, hp, hl, hw, q⟩ := h
    refine ⟨_, pss_one (ps_ret (pe_join pe_str (pe_lc (own := [("word", 1)]) (g := gName 1) (tt := tYes) rfl scLine.nd (pi_tup (pv 0)) (blkOk_by (own := [("word", 1)]) (N := ["words", "word"]) (sc := defScope sLine) (by decide +kernel))
          (fun _ _ _ _ _ => pg_name (i := 1) scLine.nd rfl (Or.inl rfl)) (fun _ _ _ _ _ => pts_nil) (fun _ _ _ _ _ => pe_callTy (r := fun xs H Q => (∃ a, xs = [.str a] ∧ Q (.str a) H) ∨ ∃ i, xs = [.int i] ∧ i.natAbs.log2 < 1920 ∧ Q (.str (toString i)) H) (callR_or SkE.call_str_str call_str_int) (by rfl) ms (by decide +kernel) (pa_cons (pv 1) pa_nil))))), ?_⟩
    refine ⟨⟨_, rfl⟩, _, rfl, p, rfl, ⟨_, hp⟩, fun D hD => ?_⟩
    refine lc_mapT (K := K) (xs := ws.map wv) (ys := (ws.map wl).map fun l => V.str (SX.S l)) hp hD (by rw [List.length_map, sizeLine_eq]; omega) (by simp) ?_ ?_
    · intro i x y H' Q' hx hy s1 hq
      rw [List.getElem?_map] at hx
      obtain ⟨u, hu, rfl⟩ : ∃ u, ws[i]? = some u ∧ x = wv u := by
        cases z : ws[i]? with
        | none => rw [z] at hx; cases hx
        | some d => rw [z] at hx; exact ⟨d, rfl, (Option.some.inj hx).symm⟩
      rw [List.map_map, List.getElem?_map, hu] at hy
      have ey : V.str (SX.S (wl u)) = y := Option.some.inj hy
      subst ey
      have hwu := hw u (List.mem_of_getElem? hu)
      cases u with
      | inl l => exact ⟨_, rfl, .inl ⟨_, rfl, hq _ (Same.refl _)⟩⟩
      | inr n =>
        refine ⟨_, rfl, .inr ⟨(n : Int), rfl, log_small ⟨by omega, by have := hwu.2 n rfl; omega⟩, ?_⟩⟩
        have e : Str.ofString (toString ((n : Nat) : Int)) = SX.S (TL.numL n) := str_num n
        show Q' (.str (Str.ofString (toString ((n : Nat) : Int)))) H'
        rw [e]
        exact hq _ (Same.refl _)
    intro H1 s1 eD
    refine ⟨SX.S [32], D, (ws.map wl).map SX.S, rfl, rfl, .inl (SqL.of ?_), ?_, ?_⟩
    · rw [eD]; simp
    · refine join_lim 32 _ ?_
      refine Nat.le_trans (wt_le (B := 100) fun x hx => ?_) ?_
      · obtain ⟨u, hu, rfl⟩ := List.mem_map.mp hx
        exact (hw u hu).1
      · rw [List.length_map]; omega
    · rw [SX.join_S]
      exact q _ s1
/-! ### graph_text -/
def spText : Sp := fun vs H Q _ => ∃ (p : Addr) (g : List (List Int)), vs = [.ref p] ∧ GrAt H p g ∧ Gr g ∧ ∀ H', Same H H' → Q (.str (SX.S (textM g))) H'
abbrev nText : List Str := ["graph", "many", "lines", "rotation"]
theorem ok_text {f fC fL : Addr} {fd fdC fdL : FuncData} (F : Fun K "graph_text" "graph_text" sText f fd) (FC : FnOk P w K mg base CX0 3 fC fdC ["graph"] spCheck) (bC : Binds K fdC ["graph"] []) (gC : mg "check_graph" = some (.ref fC)) (kC : PySem.W.keepIn K (.ref fC) = true)
    (FL : FnOk P w K mg base CX0 1 fL fdL ["words"] (spLine (K := K))) (bL : Binds K fdL ["words"] []) (gL : mg "line_of" = some (.ref fL)) (kL : PySem.W.keepIn K (.ref fL) = true) (ml : mg "len" = none) (ms : mg "sum" = none) :
    FnOk P w K mg base CX0 4 f fd ["graph"] spText := by
  refine F.ok scText (fun vs H Q E h => ?_) (fun cdv A outer s H vs Q E hr h => ?_)
  · obtain ⟨p, g, rfl, _⟩ := h
    rfl
  · obtain ⟨p, g, rfl, hg, G, q⟩ := h
    have hr1 : Room 1 _ := hr.mono (by decide)
    refine ⟨_, pss_cons (ps_expr (pe_call FC hr (by rfl) gC kC bC .nil pass0 (pa_cons (pv 0) pa_nil)))
      (pss_cons (ps_set (i := 1) scText.nd rfl (.inl rfl) (pe_op op_fdiv (pe_callB (cr_sum rfl) (by rfl) ms (by decide +kernel) (pa_cons (pe_lc (own := [("rotation", 3)]) (g := gName 3) (tt := tYes) rfl scText.nd (pi_tup (pv 0)) (blkOk_by (own := [("rotation", 3)]) (N := nText) (sc := defScope sText) (by decide +kernel))
          (fun _ _ _ _ _ => pg_name (i := 3) scText.nd rfl (Or.inl rfl)) (fun _ _ _ _ _ => pts_nil) (fun _ _ _ _ _ => pe_callB (r := rLenS K) call_lenS (by rfl) ml PySem.boot_len (pa_cons (pv 3) pa_nil))) pa_nil)) pe_int))
      (pss_cons (ps_setLc (i := 2) (own := [("rotation", 3)]) (g := gName 3) (tt := tYes) rfl scText.nd rfl rfl (sw_true rfl rfl rfl (by decide +kernel)) (pi_tup (pv 0)) (blkOk_by (own := [("rotation", 3)]) (N := nText) (sc := defScope sText) (by decide +kernel))
          (fun _ _ _ _ _ => pg_name (i := 3) scText.nd rfl (Or.inl rfl)) (fun _ _ _ _ _ => pts_nil) (fun _ _ _ _ _ => pe_call FL hr1 (by rfl) gL kL bL .nil pass0 (pa_cons (pe_op (r := rCatT K) op_catT (pe_tup (pa_cons pe_str pa_nil)) (pv 3)) pa_nil)))
      (pss_one (ps_ret (pe_join pe_str (pe_op op_cat (pe_lst (pa_cons (pe_call FL hr1 (by rfl) gL kL bL .nil pass0 (pa_cons (pe_tup (pa_cons pe_str (pa_cons (pe_callB call_len_seq (by rfl) ml PySem.boot_len (pa_cons (pv 0) pa_nil)) (pa_cons (pv 1) pa_nil)))) pa_nil)) pa_nil)) (pv 2))))))), ?_⟩
    obtain ⟨ps, eg, ePs⟩ := id hg
    have plen : ps.length = g.length := ePs.length
    have gl := G.n
    have fl := G.m
    have slen : (ps.map V.ref).length < sizeLine := by rw [List.length_map, plen, sizeLine_eq]; omega
    -- check_graph(graph)
    refine ⟨_, rfl, p, g, rfl, hg, G, fun H0 s0 => ?_⟩
    -- many
    refine ⟨_, rfl, p, rfl, ⟨_, SqT.of (s0 _ _ eg)⟩, fun D2 n2 => ?_⟩
    refine lc_mapT (K := K) (xs := ps.map V.ref) (ys := (g.map fun r => (r.length : Int)).map V.int) (SqT.of (s0 _ _ eg)) n2 slen (by simp [plen]) ?_ ?_
    · intro i x y H' Q' hx hy s2 hq
      rw [List.getElem?_map] at hx
      obtain ⟨q', hq', rfl⟩ : ∃ q', ps[i]? = some q' ∧ x = V.ref q' := by
        cases z : ps[i]? with
        | none => rw [z] at hx; cases hx
        | some d => rw [z] at hx; exact ⟨d, rfl, (Option.some.inj hx).symm⟩
      obtain ⟨r, hr', er⟩ := Paired.getL ePs hq'
      rw [List.map_map, List.getElem?_map, hr'] at hy
      have ey : V.int (r.length : Int) = y := Option.some.inj hy
      subst ey
      refine ⟨_, rfl, q', _, rfl, .inr (SqT.of (s2 _ _ (s0 _ _ er))), ?_⟩
      rw [List.length_map]
      exact hq _ (Same.refl _)
    intro H2 s2 eD2
    have s02 := s0.trans s2
    refine ⟨D2, _, rfl, SqL.of eD2, ?_⟩
    rw [sum_lens]
    refine ⟨_, _, rfl, rfl, ⟨by decide, by decide⟩, ?_⟩
    -- lines
    refine ⟨_, rfl, p, rfl, ⟨_, SqT.of (s02 _ _ eg)⟩, fun D3 n3 => ?_⟩
    refine lc_mapT (K := K) (xs := ps.map V.ref) (ys := (g.map rotL).map fun l => V.str (SX.S l)) (SqT.of (s02 _ _ eg)) n3 slen (by simp [plen]) ?_ ?_
    · intro i x y H' Q' hx hy s3 hq
      rw [List.getElem?_map] at hx
      obtain ⟨q', hq', rfl⟩ : ∃ q', ps[i]? = some q' ∧ x = V.ref q' := by
        cases z : ps[i]? with
        | none => rw [z] at hx; cases hx
        | some d => rw [z] at hx; exact ⟨d, rfl, (Option.some.inj hx).symm⟩
      obtain ⟨r, hr', er⟩ := Paired.getL ePs hq'
      have e3 := s3 _ _ (s02 _ _ er)
      rw [List.map_map, List.getElem?_map, hr'] at hy
      have ey : V.str (SX.S (rotL r)) = y := Option.some.inj hy
      subst ey
      have hmem : ∀ d ∈ r, 0 ≤ d ∧ d < 240 := fun d hd => by
        have := G.mem d (List.mem_flatten.mpr ⟨r, List.mem_of_getElem? hr', hd⟩)
        omega
      have hrl : r.length ≤ 240 := by
        have := flat_at hr'
        have e := congrArg List.length this
        rw [List.length_append, List.length_append] at e
        omega
      -- the words, and the line of them
      have words : ∀ (c : Addr) (Hc : Hp), Same H' Hc → SqT K Hc c ((.inl wNode :: r.map fun d => .inr d.toNat : List (List Nat ⊕ Nat)).map wv) → spLine (K := K) [.ref c] Hc Q' E0 := fun c Hc sc hc => by
        refine ⟨c, _, rfl, hc, by rw [List.length_cons, List.length_map]; omega, ?_, fun H'' s'' => ?_⟩
        · intro x hx
          rcases List.mem_cons.mp hx with z | z
          · subst z
            exact ⟨by show wNode.length ≤ 100; decide, fun n z => by cases z⟩
          · obtain ⟨d, hd, rfl⟩ := List.mem_map.mp z
            have := hmem d hd
            refine ⟨Nat.le_trans (TL.numL_len (k := 3) (by decide) (by omega)) (by decide), fun n z => ?_⟩
            cases z
            omega
        · have e : ((.inl wNode :: r.map fun d => .inr d.toNat : List (List Nat ⊕ Nat)).map wl) = wNode :: r.map fun d => TL.numL d.toNat := by
            rw [List.map_cons, List.map_map]
            rfl
          rw [e]
          exact hq _ (sc.trans s'')
      have vals : (.inl wNode :: r.map fun d => .inr d.toNat : List (List Nat ⊕ Nat)).map wv = [V.str (Str.ofString "node")] ++ r.map V.int := by
        rw [List.map_cons, List.map_map]
        show V.str (SX.S wNode) :: _ = V.str _ :: _
        rw [show Str.ofString "node" = SX.S wNode by decide +kernel]
        congr 1
        apply List.map_congr_left
        intro d hd
        show V.int (d.toNat : Int) = V.int d
        rw [Int.toNat_of_nonneg (hmem d hd).1]
      refine ⟨by show 1 ≤ sizeLine; rw [sizeLine_eq]; decide, fun c nc => ?_⟩
      refine ⟨_, rfl, c, q', _, _, rfl, rfl, SqT.of upd_same, SqT.of (by rw [upd_ne (ne_of_none e3 nc)]; exact e3), by simp, by rw [List.length_map, sizeLine_eq]; show 1 + _ ≤ _; omega, fun hn => ?_, fun hn c2 nc2 => ?_⟩
      · refine words c _ (same_upd nc) ?_
        rw [vals, hn, List.append_nil]
        exact SqT.of upd_same
      · refine words c2 _ ((same_upd nc).trans (same_upd nc2)) ?_
        rw [vals]
        exact SqT.of upd_same
    intro H3 s3 eD3
    have s03 := s02.trans s3
    -- the text
    refine ⟨⟨_, rfl⟩, _, rfl, p, _, rfl, .inr (SqT.of (s03 _ _ eg)), _, rfl, by show 3 ≤ sizeLine; rw [sizeLine_eq]; decide, fun c nc => ?_⟩
    have hN : (g.flatten.length : Int) / 2 = ((g.flatten.length / 2 : Nat) : Int) := by omega
    refine ⟨c, [.inl wGraph, .inr g.length, .inr (g.flatten.length / 2)], rfl, ?_, by show 3 ≤ 1000; decide, ?_, fun H4 s4 => ?_⟩
    · refine SqT.of ?_
      rw [upd_same, List.length_map, plen, show Str.ofString "graph" = SX.S wGraph by decide +kernel]
      show some (HO.tup [_, _, V.int ((g.flatten.length : Int) / 2)]) = _
      rw [hN]
      rfl
    · intro x hx
      simp only [List.mem_cons, List.not_mem_nil, or_false] at hx
      rcases hx with z | z | z
      · subst z
        exact ⟨by show wGraph.length ≤ 100; decide, fun n z => by cases z⟩
      · subst z
        exact ⟨Nat.le_trans (TL.numL_len (k := 3) (by decide) (by omega)) (by decide), fun n z => by cases z; omega⟩
      · subst z
        exact ⟨Nat.le_trans (TL.numL_len (k := 3) (by decide) (by omega)) (by decide), fun n z => by cases z; omega⟩
    have s04 := s03.trans ((same_upd nc).trans s4)
    have eD4 := (s4 _ _ ((same_upd nc) _ _ eD3))
    refine ⟨by show 1 ≤ sizeLine; rw [sizeLine_eq]; decide, fun l nl => ?_⟩
    refine ⟨_, rfl, l, D3, _, _, rfl, rfl, upd_same, same_upd nl _ _ eD4, ?_, fun l2 nl2 => ?_⟩
    · rw [List.length_map, List.length_map, sizeLine_eq]; show 1 + _ ≤ _; omega
    have et : textM g = TL.joinL [10] (TL.joinL [32] [wGraph, TL.numL g.length, TL.numL (g.flatten.length / 2)] :: g.map rotL) := rfl
    refine ⟨SX.S [10], l2, (TL.joinL [32] [wGraph, TL.numL g.length, TL.numL (g.flatten.length / 2)] :: g.map rotL).map SX.S, congrArg V.str nl10, rfl, .inl (SqL.of ?_), ?_, ?_⟩
    · rw [upd_same]
      simp [wl]
    · refine join_lim 10 _ ?_
      have hrot : ∀ r ∈ g, (rotL r).length ≤ 2000 := fun r hr => by
        unfold rotL
        refine Nat.le_trans (join_len _ _) ?_
        refine Nat.le_trans (wt_le (B := 4) fun x hx => ?_) ?_
        · rcases List.mem_cons.mp hx with z | z
          · rw [z]; decide
          · obtain ⟨d, hd, rfl⟩ := List.mem_map.mp z
            have := G.mem d (List.mem_flatten.mpr ⟨r, hr, hd⟩)
            exact Nat.le_trans (TL.numL_len (k := 3) (by decide) (by omega)) (by decide)
        · rw [List.length_cons, List.length_map]
          have : r.length ≤ 240 := by
            obtain ⟨i, hi⟩ := List.getElem?_of_mem hr
            have e := congrArg List.length (flat_at hi)
            rw [List.length_append, List.length_append] at e
            omega
          omega
      have hhead : (TL.joinL [32] [wGraph, TL.numL g.length, TL.numL (g.flatten.length / 2)]).length ≤ 2000 := by
        refine Nat.le_trans (join_len _ _) (Nat.le_trans (wt_le (B := 5) fun x hx => ?_) (by show 3 * (5 + 1) ≤ 2000; decide))
        simp only [List.mem_cons, List.not_mem_nil, or_false] at hx
        rcases hx with z | z | z
        · rw [z]; decide
        · rw [z]; exact Nat.le_trans (TL.numL_len (k := 3) (by decide) (by omega)) (by decide)
        · rw [z]; exact Nat.le_trans (TL.numL_len (k := 3) (by decide) (by omega)) (by decide)
      refine Nat.le_trans (wt_le (B := 2000) fun x hx => ?_) ?_
      · rcases List.mem_cons.mp hx with z | z
        · rw [z]; exact hhead
        · obtain ⟨r, hr, rfl⟩ := List.mem_map.mp z
          exact hrot r hr
      · rw [List.length_cons, List.length_map]; omega
    · rw [SX.join_S, ← et]
      exact q _ (s04.trans ((same_upd nl).trans (same_upd nl2)))
end
end Fl
-- R6
namespace Fl
open PySem PySem.Spec PyProof.Rows L2
/-! ### len(set(xs)) of any ints -/
theorem firstMet_mem (ns : List Int) : ∀ i, i ≤ ns.length → ∀ x, x ∈ PyProof.Rows.firstMet (fun i => ns.getD i 0) i ↔ x ∈ ns.take i
  | 0, _, x => by simp [PyProof.Rows.firstMet_zero]
  | i + 1, hi, x => by
    have hlt : i < ns.length := hi
    have e1 : ns.getD i 0 = ns[i] := by
      rw [List.getD_eq_getElem?_getD, List.getElem?_eq_getElem hlt] <;> rfl
    have e2 : ns.take (i + 1) = ns.take i ++ [ns[i]] := take_more (List.getElem?_eq_getElem hlt)
    have ih := firstMet_mem ns i (Nat.le_of_lt hlt)
    rw [PyProof.Rows.firstMet_succ, e2]
    show x ∈ (if (PyProof.Rows.firstMet (fun i => ns.getD i 0) i).any (· == ns.getD i 0) then _ else _ ++ [ns.getD i 0]) ↔ _
    rw [e1, List.mem_append, List.mem_singleton, ← ih]
    split
    · rename_i hb
      obtain ⟨y, hy, ey⟩ := List.any_eq_true.mp hb
      have ey2 : y = ns[i] := eq_of_beq ey
      constructor
      · exact .inl
      · rintro (z | z)
        · exact z
        · rw [z, ← ey2]; exact hy
    · rw [List.mem_append, List.mem_singleton]
theorem firstMet_full (ns : List Int) : ∀ i, i ≤ ns.length → (PyProof.Rows.firstMet (fun i => ns.getD i 0) i).length = i → (ns.take i).Nodup
  | 0, _, _ => by simp
  | i + 1, hi, h => by
    have hlt : i < ns.length := hi
    have e1 : ns.getD i 0 = ns[i] := by
      rw [List.getD_eq_getElem?_getD, List.getElem?_eq_getElem hlt] <;> rfl
    have e2 : ns.take (i + 1) = ns.take i ++ [ns[i]] := take_more (List.getElem?_eq_getElem hlt)
    have le := PyProof.Rows.firstMet_length_le (fun i => ns.getD i 0) i
    rw [PyProof.Rows.firstMet_succ] at h
    have h' : (if (PyProof.Rows.firstMet (fun i => ns.getD i 0) i).any (· == ns.getD i 0) then PyProof.Rows.firstMet (fun i => ns.getD i 0) i else PyProof.Rows.firstMet (fun i => ns.getD i 0) i ++ [ns.getD i 0]).length = i + 1 := h
    split at h'
    · omega
    · rename_i hb
      rw [List.length_append, List.length_singleton] at h'
      have ih := firstMet_full ns i (Nat.le_of_lt hlt) (by omega)
      rw [e2]
      refine List.nodup_append.mpr ⟨ih, by simp, fun x hx y hy z => hb ?_⟩
      rw [List.mem_singleton.mp hy] at z
      subst z
      exact List.any_eq_true.mpr ⟨_, (firstMet_mem ns i (Nat.le_of_lt hlt) _).mpr hx, by rw [e1]; exact beq_self_eq_true _⟩
def tLenSetA (K : PySem.W.Frag) (ta : TE) : TE := fun σ H Q => ta σ H fun x H1 => ∃ (l : Addr) (ns : List Int), x = .ref l ∧ SqL K H1 l (ns.map V.int) ∧ ns.length ≤ 4000 ∧ ∀ k : Nat, k ≤ ns.length → (k = ns.length ↔ ns.Nodup) → Q (.int (k : Nat)) H1
theorem pe_lenSetA {X : Cx} {a : Expr} {ta : TE} {p p2 q pos : Pos} (hg : Gl X "len") (hm : X.mg "len" = none) (hg2 : Gl X "set") (hm2 : X.mg "set" = none) (ha : PE X a ta) (hc : X.calm = true := by rfl)
    (na : starEach [a] X.env = (false, eval a X.env) :: starEach [] X.env := by rfl) : PE X (.Call (.Name "len" p) [.Call (.Name "set" p2) [a] [] q] [] pos) (tLenSetA X.K ta) := by
  refine ⟨fun pins s σ H Q I h => ?_⟩
  refine Call_ (ld_blt I hg hm boot_len ?_)
  refine PyProof.Rows.callWith_builtin1 (PyProof.Rows.args_cons ?_ rfl) rfl rfl
  refine Call_ (ld_blt I hg2 hm2 boot_set ?_)
  refine PyProof.Rows.callWith_type1 (PyProof.Rows.args_cons (thn (ha.run pins s σ H _ I h) fun v s1 ⟨x, H1, I1, r1, q1⟩ => PyProof.Rows.args_nil ?_) na) na rfl
  obtain ⟨l, ns, rfl, hq, hl, q1⟩ := q1
  cases r1
  obtain ⟨its, r, pl, hz⟩ := I1.list hq
  have hlen : its.toArray.size = ns.length := by rw [List.size_toArray, ← r.length, List.length_map]
  refine call_set_list (I1.ok.hd hc) pl.isList (by simpa using RZ.intsAre_vals r) (by rw [hlen]; unfold scanBound; omega) fun h' tk hS hk => ?_
  refine PyProof.Rows.args_nil ?_
  rw [hlen] at hS
  obtain ⟨o, es, ep, t, ho, hex, hd, _, _, _, hf, hn⟩ := hS
  have I2 : Inv X pins σ H1 { s1 with heap := h', toks := tk } := I1.kept fun b o e => hk b o (Heap.lt_size e) e
  have hle := PyProof.Rows.firstMet_length_le (fun i => ns.getD i 0) ns.length
  refine call_len_set ho hex hd hf (by rw [hn] <;> omega) ⟨.int (PyProof.Rows.firstMet (fun i => ns.getD i 0) ns.length).length, H1, I2.tok _, ⟨_, by rw [hn]⟩, q1 _ hle ⟨fun e => ?_, fun e => ?_⟩⟩
  · have := firstMet_full ns ns.length (Nat.le_refl _) e
    rwa [List.take_length] at this
  · rw [RZ.firstMet_nodup e ns.length (Nat.le_refl _), List.take_length]
/-! ### xs != [] -/
def rNeNil (K : PySem.W.Frag) : R2 := fun x y H Q => ∃ a b xs, x = V.ref a ∧ y = V.ref b ∧ SqL K H a xs ∧ SqL K H b [] ∧ Q (.bl (!decide (xs = []))) H
theorem op_neNil {X : Cx} (hu : X.A.units < cLine) : OpR X (compareOp .NotEq) (rNeNil X.K) := by
  intro pins s σ H x y v u Q I rx ry h
  obtain ⟨a, b, xs, rfl, rfl, ha, hb, q⟩ := h
  cases rx
  cases ry
  obtain ⟨its, r1, p1, _⟩ := I.list ha
  obtain ⟨its2, r2, p2, _⟩ := I.list hb
  cases r2
  by_cases hx : xs = []
  · subst hx
    cases r1
    exact SeqAt.RcNeAt.lists (e := fun _ => true) p1.isList p2.isList rfl hu (fun j h1 _ => absurd h1 (Nat.not_lt_zero _)) _ _ _ _ ⟨.bl false, H, I, rfl, q⟩
  · rw [decide_eq_false hx] at q
    refine SeqAt.RcNeAt.lists_lengths p1.isList p2.isList ?_ hu _ _ _ _ ⟨.bl true, H, I, rfl, q⟩
    have hl := r1.length
    have : its.toArray.size ≠ 0 := by
      rw [List.size_toArray, ← hl]
      exact fun z => hx (List.length_eq_zero_iff.mp z)
    simpa using this
/-! ### for i, x in enumerate(xs) -/
theorem for_enum {K : PySem.W.Frag} {a : Addr} {xs : List V} {g : TG} {tb : TS} {D : Ends} {σ : L2.St} {H : Hp} (Pv : Nat → L2.St → Hp → Prop) (h0 : Pv 0 σ H) (hl : ∀ i σ H, i ≤ xs.length → Pv i σ H → SqL K H a xs)
    (hs : ∀ (i : Nat) x T σ H, xs[i]? = some x → Pv i σ H → H T = none → g (.ref T) σ (upd H T (.tup [.int (i : Nat), x])) fun σ2 H2 => tb { D with nx := Pv (i + 1), ct := Pv (i + 1), bk := D.nx } σ2 H2) (hd : ∀ σ H, Pv xs.length σ H → D.nx σ H) :
    ∃ W : Nat → Nat → L2.St → Hp → Prop, (∃ m, W 0 m σ H) ∧ ∀ i m σ H, W i m σ H →
      ((Ite K a).stop i H ∧ D.nx σ H) ∨ ((Ite K a).go i H ∧ ∃ N : L2.St → Hp → Prop, (∀ σ' H', N σ' H' → ∃ m', m' < m ∧ W (i + 1) m' σ' H') ∧ ∀ x H', (Ite K a).yld i H x H' → g x σ H' fun σ2 H2 => tb { D with nx := N, ct := N, bk := D.nx } σ2 H2) := by
  refine ⟨fun i m σ H => m = xs.length - i ∧ i ≤ xs.length ∧ Pv i σ H, ⟨xs.length, by simp, Nat.zero_le _, h0⟩, ?_⟩
  rintro i m σ H ⟨rfl, hi, p⟩
  have q := hl i σ H hi p
  by_cases hlt : i < xs.length
  · refine .inr ⟨⟨xs, xs[i], q, by simp [hlt]⟩, Pv (i + 1), fun σ' H' p' => ⟨xs.length - (i + 1), by omega, rfl, hlt, p'⟩, fun x H' y => ?_⟩
    obtain ⟨T, z, rfl, hT, rfl, hz⟩ := y
    exact hs i z T σ H (hz xs q) p hT
  · have e : i = xs.length := by omega
    subst e
    exact .inl ⟨⟨xs, q, Nat.le_refl _⟩, hd σ H p⟩
end Fl
-- D6
namespace Fl
open PySem PySem.Spec PyProof.Rows L2
/-! ### counts -/
theorem cut_count (s : Nat) : ∀ l, (cutAt s l).length = l.count s + 1
  | [] => by simp [cutAt]
  | c :: l => by
    have ih := cut_count s l
    rw [List.count_cons]
    by_cases h : c = s
    · subst h
      simp [cutAt, ih]
    · have h' : (c == s) = false := by simp [h]
      rw [h']
      obtain ⟨p, r, q⟩ := cutAt_cons s l
      rw [q] at ih
      simp [cutAt, h, q]
      simpa using ih
theorem digitsVal_lt : ∀ (l : List Nat) (acc k : Nat), acc < 10 ^ k → l.all dig = true → l.foldl (fun n c => n * 10 + (c - 48)) acc < 10 ^ (k + l.length)
  | [], acc, k, h, _ => h
  | c :: l, acc, k, h, ha => by
    rw [List.all_cons, Bool.and_eq_true] at ha
    have hc := dig_iff.mp ha.1
    have := digitsVal_lt l (acc * 10 + (c - 48)) (k + 1) (by rw [Nat.pow_succ]; omega) ha.2
    rw [List.foldl_cons, List.length_cons, show k + (l.length + 1) = k + 1 + l.length by omega]
    exact this
theorem dv_lt {l : List Nat} (h : l.all dig = true) : NumText.digitsVal l < 10 ^ l.length := by
  have := digitsVal_lt l 0 0 (by decide) h
  rw [Nat.zero_add] at this
  exact this
theorem join_count_mem {s x : Nat} : ∀ {ps : List (List Nat)} {p : List Nat}, p ∈ ps → p.count x ≤ (TL.joinL [s] ps).count x
  | [], p, h => by cases h
  | [q], p, h => by
    rw [List.mem_singleton.mp h]
    exact Nat.le_refl _
  | q :: q' :: r, p, h => by
    have e : TL.joinL [s] (q :: q' :: r) = q ++ ([s] ++ TL.joinL [s] (q' :: r)) := rfl
    rw [e, List.count_append, List.count_append]
    rcases List.mem_cons.mp h with z | z
    · rw [z]; omega
    · have := join_count_mem (s := s) (x := x) z
      omega
theorem cut_count_mem {s x : Nat} {l p : List Nat} (h : p ∈ cutAt s l) : p.count x ≤ l.count x := by
  have := join_count_mem (s := s) (x := x) h
  rwa [join_cut] at this
/-! ### plain numbers against pnum -/
theorem plain_pos {w : List Nat} {most : Int} (hm : most < 100000) (h : 0 ≤ plain w most) : plain w most = pnum w ∧ 0 ≤ pnum w ∧ pnum w ≤ most := by
  rw [plain_is hm] at h ⊢
  split
  · rename_i z
    exact ⟨rfl, z.1, z.2⟩
  · rename_i z
    rw [if_neg z] at h
    exact absurd h (by decide)
theorem plain_neg {w : List Nat} {most : Int} (hm : most < 100000) (h : plain w most < 0) : ¬ (0 ≤ pnum w ∧ pnum w ≤ most) ∧ plain w most = -1 := by
  rw [plain_is hm] at h ⊢
  split
  · rename_i z
    rw [if_pos z] at h
    omega
  · rename_i z
    exact ⟨z, rfl⟩
theorem plains {ws : List (List Nat)} {m : Int} (hm : m ≤ 1000) (h : (-1 : Int) ∉ ws.map fun w => plain w (2 * m - 1)) : (ws.map fun w => plain w (2 * m - 1)) = ws.map pnum ∧ ∀ d ∈ ws.map pnum, 0 ≤ d ∧ d < 2 * m := by
  have all : ∀ w ∈ ws, plain w (2 * m - 1) = pnum w ∧ 0 ≤ pnum w ∧ pnum w < 2 * m := fun w hw => by
    have hp : 0 ≤ plain w (2 * m - 1) := by
      rcases Int.lt_or_le (plain w (2 * m - 1)) 0 with z | z
      · exact absurd (List.mem_map.mpr ⟨w, hw, (plain_neg (by omega) z).2⟩) h
      · exact z
    obtain ⟨h1, h2, h3⟩ := plain_pos (by omega) hp
    exact ⟨h1, h2, by omega⟩
  refine ⟨List.map_congr_left fun w hw => (all w hw).1, fun d hd => ?_⟩
  obtain ⟨w, hw, rfl⟩ := List.mem_map.mp hd
  exact (all w hw).2
theorem plains_bad {ws : List (List Nat)} {m : Int} (hm : m ≤ 1000) (h : (-1 : Int) ∈ ws.map fun w => plain w (2 * m - 1)) : ¬ ∀ d ∈ ws.map pnum, 0 ≤ d ∧ d < 2 * m := by
  obtain ⟨w, hw, e⟩ := List.mem_map.mp h
  intro z
  have := z (pnum w) (List.mem_map.mpr ⟨w, hw, rfl⟩)
  exact (plain_neg (w := w) (most := 2 * m - 1) (by omega) (by rw [e]; decide)).1 ⟨this.1, by omega⟩
theorem inV_ints (d : Int) (l : List Int) : inV (.int d) (l.map V.int) = decide (d ∈ l) := by
  unfold inV
  induction l with
  | nil => rfl
  | cons x l ih =>
    rw [List.map_cons, List.any_cons, ih]
    show ((x == d) || _) = _
    rw [Bool.eq_iff_iff]
    simp only [Bool.or_eq_true, beq_iff_eq, decide_eq_true_eq, List.mem_cons]
    constructor
    · rintro (z | z)
      · exact .inl z.symm
      · exact .inr z
    · rintro (z | z)
      · exact .inl z.symm
      · exact .inr z
abbrev sPlain : Stmt := topS 30
abbrev sLPar : Stmt := topS 31
abbrev sTold : Stmt := topS 32
abbrev nPlain : List Str := ["_law_word", "_law_most", "_law_found", "_law_sign"]
abbrev nLPar : List Str := ["_law_spelt", "_law_lines", "_law_rotations", "_law_every", "_law_words", "_law_nodes", "_law_edges", "_law_number", "_law_line", "_law_darts", "_law_word"]
abbrev nTold : List Str := ["_law_spelt", "_law_found", "_law_caught", "error"]
theorem scPlain : FnScope nPlain ["_law_word", "_law_most"] (defScope sPlain) := ⟨rfl, rfl, rfl, by decide +kernel, rfl, by decide +kernel, by decide +kernel⟩
theorem scLPar : FnScope nLPar ["_law_spelt"] (defScope sLPar) := ⟨rfl, rfl, rfl, by decide +kernel, rfl, by decide +kernel, by decide +kernel⟩
theorem scTold : FnScope nTold ["_law_spelt"] (defScope sTold) := ⟨rfl, rfl, rfl, by decide +kernel, rfl, by decide +kernel, by decide +kernel⟩
section
variable {P : Program} {w : World} {K : PySem.W.Frag} {mg : Str → Option Value} {base : Heap}
/-! ### _law_plain_number -/
def spPlain : Sp := fun vs H Q _ => ∃ (l : List Nat) (m : Int), vs = [.str (SX.S l), .int m] ∧ l.length ≤ 16000000 ∧ ∀ H', Same H H' → Q (.int (plain l m)) H'
theorem ok_plain {f : Addr} {fd : FuncData} {k : Nat} (F : Fun K "_law_plain_number" "_law_plain_number" sPlain f fd) (nd : NoDig base) (ml : mg "len" = none) (mi : mg "int" = none) (ms : mg "str" = none) : FnOk P w K mg base CX0 (k + 1) f fd ["_law_word", "_law_most"] spPlain := by
  refine F.ok scPlain (fun vs H Q E h => ?_) (fun cdv A outer s H vs Q E hr h => ?_)
  · obtain ⟨l, m, rfl, _⟩ := h
    rfl
  · obtain ⟨l, m, rfl, hl, q⟩ := h
    refine ⟨_, pss_cons (ps_if (PW.pt (pw_or (pt_not (pt_chain op_lt op_lt pe_int (pe_callB call_len_str (by rfl) ml PySem.boot_len (pa_cons (pv 0) pa_nil)) pe_int))
        (pw_or1 (pt_cmpR (op_neNil hr.units0) (pe_lc (own := [("_law_sign", 3)]) (g := gName 3) rfl scPlain.nd (pi_str (pv 0)) (blkOk_by (own := [("_law_sign", 3)]) (N := nPlain) (sc := defScope sPlain) (by decide +kernel))
          (fun _ _ _ _ _ => pg_name (i := 3) scPlain.nd rfl (Or.inl rfl)) (fun _ _ _ _ _ => pts_one (pt_cmpR op_notIn_sign (pv 3) pe_str (by rfl))) (fun _ _ _ _ _ => pv 3)) (pe_lst pa_nil) (nomark _)))))
        (pss_one (ps_ret (pe_op op_sub pe_int pe_int))) pss_nil)
      (pss_cons (ps_set (i := 2) scPlain.nd rfl (.inl rfl) (pe_callTy (call_intL nd) (by rfl) mi (by decide +kernel) (pa_cons (pv 0) pa_nil)))
      (pss_one (ps_ret (pe_ifExp (PW.pt (pw_and (pt_cmpR op_eq (pe_callTy call_str_int (by rfl) ms (by decide +kernel) (pa_cons (pv 2) pa_nil)) (pv 0) (nomark _)) (pw_and1 (pt_cmpR op_le (pv 2) (pv 1) (nomark _)))))
        (pv 2) (pe_op op_sub pe_int pe_int))))), ?_⟩
    have hz : (SX.S l).length ≤ sizeLine := by rw [SX.S_len, sizeLine_eq]; omega
    have hlen : (((SX.S l).length : Nat) : Int) = (l.length : Int) := by rw [SX.S_len]
    have neg : ∀ H', Same H H' → plain l m = -1 → (tRet (tOp (rI0 fun i j => V.int (i - j)) (tC (V.int 0)) (tC (V.int 1)))) { nx := fun x H' => Q V.non H', rt := Q } (L2.start nPlain [V.str (SX.S l), V.int m]) H' := by
      intro H' hs e
      refine ⟨_, _, rfl, rfl, ?_⟩
      have qq := q H' hs
      rw [e] at qq
      exact qq
    have none_of : ¬ (0 < l.length ∧ l.length < 6 ∧ l.all dig = true) → plain l m = -1 := fun hn => by
      unfold plain
      rw [if_neg]
      simp only [Bool.and_eq_true, decide_eq_true_eq]
      exact fun z => hn ⟨z.1.1, z.1.2, z.2⟩
    refine ⟨_, rfl, _, rfl, hz, _, _, rfl, rfl, _, rfl, ?_⟩
    rw [hlen]
    by_cases h1 : (0 : Int) < (l.length : Int)
    case neg =>
      rw [decide_eq_false h1]
      exact iteF ⟨_, rfl, iteT (iteT (neg _ (Same.refl H) (none_of fun z => h1 (by omega))))⟩
    rw [decide_eq_true h1]
    refine iteT ⟨_, _, rfl, rfl, _, rfl, ?_⟩
    by_cases h2 : (l.length : Int) < 6
    case neg =>
      rw [decide_eq_false h2]
      exact iteT (iteT (neg _ (Same.refl H) (none_of fun z => h2 (by omega))))
    rw [decide_eq_true h2]
    refine iteF ?_
    refine ⟨_, rfl, _, rfl, fun D hD => ?_⟩
    refine lc_its (x := SX.S l) (fun i H' => H' = upd H D (.lst (((l.take i).filter fun c => !dig c).map fun c => .str (SX.S [c])))) rfl ?_ ?_
    · rintro i c H' hc rfl
      rw [S_get] at hc
      have hi := (List.getElem?_eq_some_iff.mp hc).1
      refine ⟨rfl, ?_⟩
      refine ⟨_, rfl, c, _, rfl, rfl, _, rfl, ?_⟩
      rw [litD, show (SX.S [48, 49, 50, 51, 52, 53, 54, 55, 56, 57]).cps.toList = [48, 49, 50, 51, 52, 53, 54, 55, 56, 57] from rfl, dig_mem]
      rw [take_more hc, List.filter_append]
      cases hd : dig c
      · refine iteT ⟨_, rfl, _, upd_same, ?_, ?_⟩
        · rw [List.length_map]
          refine Nat.lt_of_le_of_lt (List.length_filter_le _ _) ?_
          rw [List.length_take]
          exact Nat.lt_of_le_of_lt (Nat.min_le_left _ _) (by rw [sizeLine_eq]; omega)
        · rw [upd_upd, List.map_append]
          simp [hd]
      · refine iteF ?_
        simp [hd]
    rintro H' rfl
    rw [S_size, List.take_length]
    refine ⟨by show 0 ≤ sizeLine; exact Nat.zero_le _, fun L nL => ?_⟩
    have hDL : D ≠ L := fun z => by rw [← z, upd_same] at nL; cases nL
    refine ⟨D, L, _, rfl, rfl, SqL.of (by rw [upd_ne hDL, upd_same]), SqL.of upd_same, _, rfl, ?_⟩
    have sH : Same H (upd (upd H D (.lst ((l.filter fun c => !dig c).map fun c => .str (SX.S [c])))) L (.lst [])) := (same_upd hD).trans (same_upd nL)
    have ef : decide (((l.filter fun c => !dig c).map fun c => V.str (SX.S [c])) = []) = l.all dig := by
      rw [Bool.eq_iff_iff, decide_eq_true_eq, List.map_eq_nil_iff, List.filter_eq_nil_iff, List.all_eq_true]
      simp
    rw [ef]
    cases hd : l.all dig
    · exact iteT (neg _ sH (none_of fun z => by rw [hd] at z; exact Bool.false_ne_true z.2.2))
    · have hc : (decide (0 < l.length) && decide (l.length < 6) && l.all dig) = true := by
        rw [hd]
        simp
        omega
      refine iteF ?_
      refine ⟨_, rfl, l, rfl, hd, fun z => by rw [z] at h1; exact absurd h1 (by decide), by omega, ?_⟩
      have hv := dv_lt hd
      have hv2 : NumText.digitsVal l < 10 ^ 5 := Nat.lt_of_lt_of_le hv (Nat.pow_le_pow_right (by decide) (by omega))
      have hlog : ((NumText.digitsVal l : Nat) : Int).natAbs.log2 < 1920 := by
        rw [Int.natAbs_natCast]
        by_cases h0 : NumText.digitsVal l = 0
        · rw [h0]; decide
        · have : (NumText.digitsVal l).log2 < 17 := (Nat.log2_lt h0).mpr (by omega)
          omega
      refine ⟨_, rfl, _, rfl, hlog, _, rfl, rfl, _, rfl, ?_⟩
      have e1 : decide (V.str (Str.ofString (toString ((NumText.digitsVal l : Nat) : Int))) = V.str (SX.S l)) = decide (TL.numL (NumText.digitsVal l) = l) := by rw [str_num, str_eq]
      rw [e1]
      have val : plain l m = if TL.numL (NumText.digitsVal l) = l ∧ (NumText.digitsVal l : Int) ≤ m then (NumText.digitsVal l : Int) else -1 := by
        unfold plain
        rw [if_pos hc]
      have qq := q _ sH
      rw [val] at qq
      have bad : ∀ (σ : L2.St) (H9 : Hp), Q (V.int (if TL.numL (NumText.digitsVal l) = l ∧ (NumText.digitsVal l : Int) ≤ m then (NumText.digitsVal l : Int) else -1)) H9 → ¬ (TL.numL (NumText.digitsVal l) = l ∧ (NumText.digitsVal l : Int) ≤ m) → (tOp (rI0 fun i j => V.int (i - j)) (tC (V.int 0)) (tC (V.int 1))) σ H9 Q := fun σ H9 q9 hn => by
        rw [if_neg hn] at q9
        exact ⟨_, _, rfl, rfl, q9⟩
      by_cases k1 : TL.numL (NumText.digitsVal l) = l
      · rw [decide_eq_true k1]
        refine iteT ⟨_, rfl, _, rfl, _, _, rfl, rfl, _, rfl, ?_⟩
        by_cases k2 : (NumText.digitsVal l : Int) ≤ m
        · rw [decide_eq_true k2]
          refine iteT ⟨_, rfl, ?_⟩
          rw [if_pos ⟨k1, k2⟩] at qq
          exact qq
        · rw [decide_eq_false k2]
          exact iteF (bad _ _ qq fun z => k2 z.2)
      · rw [decide_eq_false k1]
        exact iteF (bad _ _ qq fun z => k1 z.1)
end
end Fl
-- D7
namespace Fl
open PySem PySem.Spec PyProof.Rows L2
theorem split32 {l : List Nat} {H : Hp} {Q : VK} (hl : l.length ≤ 16000000) (h : ∀ p, H p = none → Q (.ref p) (upd H p (.lst (txs (cutAt 32 l))))) :
    ∃ a b, V.str (SX.S l) = V.str a ∧ [V.str (Str.ofString " ")] = [V.str b] ∧ (b.length == 0) = false ∧ a.length + 2 ≤ sizeLine ∧ rNewStrs (Txt.split a b) H Q :=
  ⟨_, _, rfl, rfl, by decide +kernel, by rw [SX.S_len, sizeLine_eq]; omega, fun p hp => by
    have e : Txt.split (SX.S l) (Str.ofString " ") = (cutAt 32 l).map SX.S := by
      rw [show Str.ofString " " = SX.S [32] from sp32]
      exact split_is 32 l (by decide)
    rw [e, strs_S]
    exact h p hp⟩
theorem split10 {l : List Nat} {H : Hp} {Q : VK} (hl : l.length ≤ 16000000) (h : ∀ p, H p = none → Q (.ref p) (upd H p (.lst (txs (cutAt 10 l))))) :
    ∃ a b, V.str (SX.S l) = V.str a ∧ [V.str (Str.ofString "\n")] = [V.str b] ∧ (b.length == 0) = false ∧ a.length + 2 ≤ sizeLine ∧ rNewStrs (Txt.split a b) H Q :=
  ⟨_, _, rfl, rfl, by decide +kernel, by rw [SX.S_len, sizeLine_eq]; omega, fun p hp => by
    have e : Txt.split (SX.S l) (Str.ofString "\n") = (cutAt 10 l).map SX.S := by
      rw [show Str.ofString "\n" = SX.S [10] from nl10]
      exact split_is 10 l (by decide)
    rw [e, strs_S]
    exact h p hp⟩
theorem headM_eq {l a b c : List Nat} (e : cutAt 32 l = [a, b, c]) : headM l = if a = wGraph ∧ (0 ≤ pnum b ∧ pnum b ≤ 60) ∧ 0 ≤ pnum c ∧ pnum c ≤ 120 then some (pnum b, pnum c) else none := by
  unfold headM
  rw [e]
theorem headM_no {l : List Nat} (e : (cutAt 32 l).length ≠ 3) : headM l = none := by
  unfold headM
  split
  · rename_i h
    rw [h] at e
    exact absurd rfl e
  · rfl
theorem all_flat (l : List Int) : (l.map V.int).all flatV = true := by
  rw [List.all_map, List.all_eq_true]
  intro x _
  rfl
theorem none_up {H H' : Hp} {a : Addr} (s : Same H H') (h : H' a = none) : H a = none := s.free h
section
variable {P : Program} {w : World} {K : PySem.W.Frag} {mg : Str → Option Value} {base : Heap}
def spLPar : Sp := fun vs H Q _ => ∃ t : List Nat, vs = [.str (SX.S t)] ∧ t.length ≤ 250000 ∧ t.count 32 ≤ 3700 ∧ (∀ k : Nat, parseM t = .bad k → ∀ H', Same H H' → Q (.int k) H') ∧
  ∀ g, parseM t = .ok g → ∀ p H', Same H H' → GrAt H' p g → Q (.ref p) H'
theorem ok_lpar {f fN : Addr} {fd fdN : FuncData} (F : Fun K "_law_parsed_graph" "_law_parsed_graph" sLPar f fd) 
    (FN : FnOk P w K mg base CX0 1 fN fdN ["_law_word", "_law_most"] spPlain) (bN : Binds K fdN ["_law_word", "_law_most"] []) (gN : mg "_law_plain_number" = some (.ref fN)) (kN : PySem.W.keepIn K (.ref fN) = true)
    (ml : mg "len" = none) (me : mg "enumerate" = none) (mt : mg "tuple" = none) (ms : mg "set" = none) : FnOk P w K mg base CX0 2 f fd ["_law_spelt"] spLPar := by
  refine F.ok scLPar (fun vs H Q E h => ?_) (fun cdv A outer s H vs Q E hr h => ?_)
  · obtain ⟨l, rfl, _⟩ := h
    rfl
  · obtain ⟨t, rfl, hl, hsp, qE, qQ⟩ := h
    have hu := hu_of hr
    refine ⟨_, pss_cons (ps_par3 (i := 1) (j := 2) (l := 3) rfl scLPar.nd rfl rfl rfl (by decide) (by decide) (by decide) rfl rfl rfl (pa_cons (pe_split (pv 0) pe_str) (pa_cons (pe_lst pa_nil) (pa_cons (pe_lst pa_nil) pa_nil))) (by rfl))
      (pss_cons (ps_set (i := 4) scLPar.nd rfl (.inl rfl) (pe_split (pe_ix ix_list (pv 1) pe_int (fun _ _ => rfl)) pe_str))
      (pss_cons (ps_if (PW.pt (pw_or (pt_cmpR op_ne (pe_callB call_len_seq (by rfl) ml PySem.boot_len (pa_cons (pv 4) pa_nil)) pe_int (nomark _)) (pw_or1 (pt_cmpR op_ne (pe_ix ix_list (pv 4) pe_int (fun _ _ => rfl)) pe_str (nomark _)))))
        (pss_one (ps_ret pe_int)) pss_nil)
      (pss_cons (ps_asg (pe_tup (pa_cons (pe_call FN hr (by rfl) gN kN bN .nil pass0 (pa_cons (pe_ix ix_list (pv 4) pe_int (fun _ _ => rfl)) (pa_cons pe_int pa_nil))) (pa_cons (pe_call FN hr (by rfl) gN kN bN .nil pass0 (pa_cons (pe_ix ix_list (pv 4) pe_int (fun _ _ => rfl)) (pa_cons pe_int pa_nil))) pa_nil)))
          (pg_tup rfl (pgs_cons (pg_name (i := 5) scLPar.nd rfl (.inl rfl)) (pgs_cons (pg_name (i := 6) scLPar.nd rfl (.inr rfl)) pgs_nil))))
      (pss_cons (ps_if (PW.pt (pw_or (pt_cmpR op_lt (pv 5) pe_int (nomark _)) (pw_or1 (pt_cmpR op_lt (pv 6) pe_int (nomark _)))))
        (pss_one (ps_ret pe_int)) pss_nil)
      (pss_cons (ps_for PassesOwn.never rfl (pi_enum (by rfl) me (pa_cons (pe_slice sl_list (pv 1) (po_some pe_int) po_none) pa_nil))
          (pg_tup rfl (pgs_cons (pg_name (i := 7) scLPar.nd rfl (.inl rfl)) (pgs_cons (pg_name (i := 8) scLPar.nd rfl (.inl rfl)) pgs_nil)))
        (pss_cons (ps_set (i := 4) scLPar.nd rfl (.inl rfl) (pe_split (pv 8) pe_str))
        (pss_cons (ps_setLc (i := 9) (own := [("_law_word", 10)]) (g := gName 10) (tt := tYes) rfl scLPar.nd rfl rfl (sw_true rfl rfl rfl (by decide +kernel)) (pi_list (pe_slice sl_list (pv 4) (po_some pe_int) po_none)) (blkOk_by (own := [("_law_word", 10)]) (N := nLPar) (sc := defScope sLPar) (by decide +kernel))
          (fun _ _ _ _ _ => pg_name (i := 10) scLPar.nd rfl (Or.inl rfl)) (fun _ _ _ _ _ => pts_nil) (fun _ _ _ _ _ => pe_call FN hr (by rfl) gN kN bN .nil pass0 (pa_cons (pv 10) (pa_cons (pe_op op_sub (pe_op op_mul pe_int (pv 6)) pe_int) pa_nil))))
        (pss_cons (ps_set (i := 3) scLPar.nd rfl (.inl rfl) (pe_op op_cat (pv 3) (pv 9)))
        (pss_cons (ps_if (PW.pt (pw_or (pt_cmpR op_ne (pe_ix ix_list (pv 4) pe_int (fun _ _ => rfl)) pe_str (nomark _)) (pw_or (pt_cmpR op_ge (pv 7) (pv 5) (nomark _))
            (pw_or (pt_cmpR op_in_seq (pe_op op_sub pe_int pe_int) (pv 9) (by rfl)) (pw_or1 (pt_cmpR op_ne (pe_callB call_len_seq (by rfl) ml PySem.boot_len (pa_cons (pv 3) pa_nil)) (pe_lenSetA (by rfl) ml (by rfl) ms (pv 3)) (nomark _)))))))
          (pss_one (ps_ret (pe_op op_add (pv 7) pe_int))) pss_nil)
        (pss_one (ps_expr (pe_bm PySem.F.plainAttrs_list PySem.F.slot_list_append PySem.F.type_list_append mt_append (pv 2) (pa_cons (pe_callTy call_tuple_of (by rfl) mt (by decide +kernel) (pa_cons (pv 9) pa_nil)) pa_nil)))))))))
      (pss_cons (ps_if (PW.pt (pw_or (pt_cmpR op_lt (pe_callB call_len_seq (by rfl) ml PySem.boot_len (pa_cons (pv 2) pa_nil)) (pv 5) (nomark _)) (pw_or1 (pt_cmpR op_lt (pe_callB call_len_seq (by rfl) ml PySem.boot_len (pa_cons (pv 3) pa_nil)) (pe_op op_mul pe_int (pv 6)) (nomark _)))))
        (pss_one (ps_ret (pe_op op_add (pe_callB call_len_seq (by rfl) ml PySem.boot_len (pa_cons (pv 1) pa_nil)) pe_int))) pss_nil)
      (pss_one (ps_ret (pe_callTy call_tuple_of (by rfl) mt (by decide +kernel) (pa_cons (pv 2) pa_nil)))))))))), ?_⟩
    obtain ⟨l0, ls, ec⟩ := cutAt_cons 10 t
    have wl : ∀ x ∈ l0 :: ls, x.length ≤ 250000 := fun x hx => by
      rw [← ec] at hx
      have h1 := mem_wt hx
      rw [cut_wt] at h1
      omega
    have wsp : ∀ x ∈ l0 :: ls, x.count 32 ≤ 3700 := fun x hx => by
      rw [← ec] at hx
      exact Nat.le_trans (cut_count_mem hx) hsp
    have nl : (l0 :: ls).length ≤ 250001 := by
      rw [← ec]
      have h1 := len_wt (cutAt 10 t)
      rw [cut_wt] at h1
      omega
    have q1 : headM l0 = none → ∀ H', Same H H' → Q (.int 1) H' := fun hn H' s => qE 1 (by
      unfold parseM
      rw [ec]
      show (match headM l0 with | none => Out.bad 1 | some (n, m) => goM n m ls 2 [] []) = _
      rw [hn]) H' s
    -- lines, rotations, every = text.split("\n"), [], []
    refine ⟨_, rfl, ⟨_, rfl⟩, split10 (by omega) fun p hp => ?_⟩
    rw [ec]
    have s1 : Same H (upd H p (.lst (txs (l0 :: ls)))) := same_upd hp
    refine ⟨by show 0 ≤ sizeLine; exact Nat.zero_le _, fun R nR => ?_⟩
    have s2 := s1.trans (same_upd (o := .lst []) nR)
    refine ⟨by show 0 ≤ sizeLine; exact Nat.zero_le _, fun Ev nE => ⟨_, _, _, rfl, ?_⟩⟩
    have s3 := s2.trans (same_upd (o := .lst []) nE)
    have hRE : Ev ≠ R := fun z => by rw [z, upd_same] at nE; cases nE
    have hpR : p ≠ R := fun z => by rw [← z, upd_same] at nR; cases nR
    have hpE : p ≠ Ev := fun z => by rw [← z, upd_ne hpR, upd_same] at nE; cases nE
    have hRn : H R = none := none_up s1 nR
    generalize hHa : upd (upd (upd H p (.lst (txs (l0 :: ls)))) R (.lst [])) Ev (.lst []) = Ha
    have ep : Ha p = some (.lst (txs (l0 :: ls))) := by rw [← hHa, upd_ne hpE, upd_ne hpR, upd_same]
    have eR : Ha R = some (.lst []) := by rw [← hHa, upd_ne hRE.symm, upd_same]
    have eE : Ha Ev = some (.lst []) := by rw [← hHa, upd_same]
    rw [hHa] at s3
    clear hHa
    -- words = lines[0].split(" ")
    refine ⟨_, rfl, p, _, 0, .str (SX.S l0), rfl, rfl, SqL.of ep, atI_nat (j := 0) rfl, ⟨_, rfl⟩, split32 (by have := wl l0 List.mem_cons_self; omega) fun W nW => ?_⟩
    have s4 := s3.trans (same_upd (o := .lst (txs (cutAt 32 l0))) nW)
    -- len(words) != 3
    refine ⟨_, rfl, W, _, rfl, .inl (SqL.of upd_same), rfl, _, rfl, ?_⟩
    by_cases h3 : (cutAt 32 l0).length = 3
    case neg =>
      rw [show (!decide (V.int ((txs (cutAt 32 l0)).length : Int) = V.int 3)) = true by rw [decide_eq_false (fun z => h3 (by have := V.int.inj z; rw [List.length_map] at this; omega))]; rfl]
      exact iteT (iteT (q1 (headM_no h3) _ s4))
    rw [show (!decide (V.int ((txs (cutAt 32 l0)).length : Int) = V.int 3)) = false by rw [decide_eq_true (by rw [List.length_map, h3]; rfl)]; rfl]
    refine iteF ?_
    obtain ⟨a, b, c', e0⟩ : ∃ a b c', cutAt 32 l0 = [a, b, c'] := by
      match hh : cutAt 32 l0, h3 with
      | [a, b, c'], _ => exact ⟨a, b, c', rfl⟩
    rw [e0] at s4 ⊢
    have hm := headM_eq e0
    have w0 : ∀ x ∈ [a, b, c'], x.length ≤ 250000 := fun x hx => by
      rw [← e0] at hx
      have h1 := mem_wt hx
      rw [cut_wt] at h1
      have := wl l0 List.mem_cons_self
      omega
    refine ⟨_, rfl, W, _, 0, .str (SX.S a), rfl, rfl, SqL.of upd_same, atI_nat (j := 0) rfl, rfl, _, rfl, ?_⟩
    have e1 : (!decide (V.str (SX.S a) = V.str (Str.ofString "graph"))) = !decide (a = wGraph) := by
      rw [show Str.ofString "graph" = SX.S wGraph by decide +kernel, str_eq]
    rw [e1]
    by_cases ha : a = wGraph
    case neg =>
      rw [decide_eq_false ha]
      exact iteT (q1 (by rw [hm, if_neg (fun z => ha z.1)]) _ s4)
    rw [decide_eq_true ha]
    refine iteF ?_
    -- nodes, edges
    refine ⟨_, rfl, W, _, 1, .str (SX.S b), rfl, rfl, SqL.of upd_same, atI_nat (j := 1) rfl, b, 60, rfl, Nat.le_trans (w0 b (by simp)) (by decide), fun Hc sc => ?_⟩
    have eW : Hc W = some (.lst (txs [a, b, c'])) := sc _ _ upd_same
    refine ⟨_, rfl, W, _, 2, .str (SX.S c'), rfl, rfl, SqL.of eW, atI_nat (j := 2) rfl, c', 120, rfl, Nat.le_trans (w0 c' (by simp)) (by decide), fun Hd sd => ?_⟩
    refine ⟨by show 2 ≤ sizeLine; rw [sizeLine_eq]; decide, fun T nT => ?_⟩
    refine ⟨T, _, rfl, SqT.of upd_same, rfl, _, _, rfl, _, _, rfl, rfl, ?_⟩
    have sab : Same Ha (upd Hd T (.tup [.int (plain b 60), .int (plain c' 120)])) := (same_upd nW).trans (sc.trans (sd.trans (same_upd nT)))
    generalize upd Hd T (.tup [.int (plain b 60), .int (plain c' 120)]) = He at sab
    have s5 := s3.trans sab
    have ep := sab _ _ ep
    have eR := sab _ _ eR
    have eE := sab _ _ eE
    clear sd sc eW nT s4 nW
    -- nodes < 0 or edges < 0
    refine ⟨_, rfl, _, _, rfl, rfl, _, rfl, ?_⟩
    by_cases k1 : plain b 60 < 0
    case pos =>
      rw [decide_eq_true k1]
      exact iteT (iteT (q1 (by rw [hm, if_neg (fun z => (plain_neg (by decide) k1).1 z.2.1)]) _ s5))
    rw [decide_eq_false k1]
    refine iteF ⟨_, rfl, _, _, rfl, rfl, _, rfl, ?_⟩
    by_cases k2 : plain c' 120 < 0
    case pos =>
      rw [decide_eq_true k2]
      exact iteT (q1 (by rw [hm, if_neg (fun z => (plain_neg (by decide) k2).1 z.2.2)]) _ s5)
    rw [decide_eq_false k2]
    refine iteF ?_
    obtain ⟨p1, n0, n60⟩ := plain_pos (w := b) (most := 60) (by decide) (by omega)
    obtain ⟨p2, m0, m120⟩ := plain_pos (w := c') (most := 120) (by decide) (by omega)
    rw [p1, p2]
    rw [if_pos ⟨ha, ⟨n0, n60⟩, m0, m120⟩] at hm
    generalize pnum b = n at *
    generalize pnum c' = m at *
    have pm : parseM t = goM n m ls 2 [] [] := by
      unfold parseM
      rw [ec]
      show (match headM l0 with | none => Out.bad 1 | some (n, m) => goM n m ls 2 [] []) = _
      rw [hm]
    clear q1 k1 k2 p1 p2 e1 w0 hm h3 e0
    -- the loop's list
    refine ⟨.ref p, rfl, 1, rfl, p, txs (l0 :: ls), rfl, SqL.of ep, fun c nc => ?_⟩
    rw [cut1]
    show ∃ a xs, _ ∧ _ ∧ _
    refine ⟨c, txs ls, rfl, SqL.of upd_same, ?_⟩
    have hpc : p ≠ c := ne_of_none ep nc
    have hRc : R ≠ c := ne_of_none eR nc
    have hEc : Ev ≠ c := ne_of_none eE nc
    refine for_enum (K := K) (a := c) (xs := txs ls) (fun i σ H' => ∃ (v4 v7 v8 v9 v10 : Option V) (ev : Addr) (rots : List (List Int)) (seen : List Int) (ps : List Addr),
      σ = [some (.str (SX.S t)), some (.ref p), some (.ref R), some (.ref ev), v4, some (.int n), some (.int m), v7, v8, v9, v10] ∧ Same H H' ∧ H' p = some (.lst (txs (l0 :: ls))) ∧ H' c = some (.lst (txs ls)) ∧
      H' R = some (.lst (ps.map V.ref)) ∧ H' ev = some (.lst (seen.map V.int)) ∧ ev ≠ R ∧ Paired (fun q r => H' q = some (.tup (r.map V.int))) ps rots ∧ goM n m (ls.drop i) (i + 2) rots seen = goM n m ls 2 [] [] ∧
      seen.Nodup ∧ (∀ d ∈ seen, 0 ≤ d ∧ d < 2 * m) ∧ rots.length = i ∧ (i : Int) ≤ n) ?_ ?_ ?_ ?_
    · refine ⟨_, none, none, none, none, Ev, [], [], [], rfl, same_upd2 (none_up s5 nc) s5, ?_, upd_same, ?_, ?_, hRE, .nil, rfl, by simp, by simp, rfl, n0⟩
      · rw [upd_ne hpc]; exact ep
      · rw [upd_ne hRc]; exact eR
      · rw [upd_ne hEc]; exact eE
    · rintro i σ H' _ ⟨v4, v7, v8, v9, v10, ev, rots, seen, ps, rfl, sH, ep, ecL, eR, eE, hER, eP, eg, nd, rg, rl, ri⟩
      exact SqL.of ecL
    · rintro i x T σ H' hx ⟨v4, v7, v8, v9, v10, ev, rots, seen, ps, rfl, sH, ep, ecL, eR, eE, hER, eP, eg, nd, rg, rl, ri⟩ nT
      rw [List.getElem?_map] at hx
      obtain ⟨l, hlx, rfl⟩ : ∃ l, ls[i]? = some l ∧ x = V.str (SX.S l) := by
        cases z : ls[i]? with
        | none => rw [z] at hx; cases hx
        | some l => rw [z] at hx; exact ⟨l, rfl, (Option.some.inj hx).symm⟩
      have hlm : l ∈ l0 :: ls := List.mem_cons_of_mem _ (List.mem_of_getElem? hlx)
      have hll := wl l hlm
      have hls := wsp l hlm
      rw [drop_at hlx] at eg
      obtain ⟨a, ws, ew⟩ := cutAt_cons 32 l
      have hw : (a :: ws).length ≤ 3701 ∧ ∀ y ∈ a :: ws, y.length ≤ 250000 := by
        rw [← ew]
        refine ⟨?_, fun y hy => ?_⟩
        · rw [cut_count]; omega
        · have h1 := mem_wt hy
          rw [cut_wt] at h1
          omega
      rw [List.length_cons] at hw
      refine ⟨T, _, rfl, SqT.of upd_same, rfl, _, _, rfl, _, _, rfl, rfl, ?_⟩
      have sT : Same H' (upd H' T (.tup [.int (i : Int), .str (SX.S l)])) := same_upd nT
      -- words
      refine ⟨_, rfl, ⟨_, rfl⟩, split32 (by omega) fun W nW => ?_⟩
      rw [ew]
      have sW := sT.trans (same_upd (o := .lst (txs (a :: ws))) nW)
      -- darts
      refine ⟨.ref W, rfl, 1, rfl, W, _, rfl, SqL.of upd_same, fun c2 nc2 => ?_⟩
      rw [cut1]
      have hW2 : W ≠ c2 := fun z => by rw [← z, upd_same] at nc2; cases nc2
      refine ⟨c2, rfl, ⟨_, SqL.of upd_same⟩, fun D hD => ?_⟩
      have s3 := sW.trans (same_upd (o := .lst (txs ws)) nc2)
      refine lc_map (K := K) (xs := ws) (v := fun l => V.str (SX.S l)) (g := fun l => V.int (plain l (2 * m - 1))) (SqL.of upd_same) hD (by rw [sizeLine_eq]; omega) ?_ ?_
      · intro x H'' Q' hx' hs' hq
        exact ⟨_, rfl, _, rfl, _, _, rfl, rfl, .inl ⟨by decide, by decide⟩, _, _, rfl, rfl, x, _, rfl, Nat.le_trans (hw.2 x (List.mem_cons_of_mem _ hx')) (by decide), hq⟩
      intro Hb sB eD
      have sb : Same H' Hb := s3.trans sB
      have eW : Hb W = some (.lst (txs (a :: ws))) := sB _ _ (by rw [upd_ne hW2, upd_same])
      generalize hds : (ws.map fun w => plain w (2 * m - 1)) = ds
      have eD2 : Hb D = some (.lst (ds.map V.int)) := by
        rw [eD, ← hds, List.map_map]
        rfl
      have dl : ds.length ≤ 3701 := by rw [← hds, List.length_map]; omega
      have hz := nodup_le 240 seen nd fun d hd => by have := rg d hd; omega
      -- every = every + darts
      refine ⟨_, rfl, _, rfl, ev, D, _, _, rfl, rfl, sb _ _ eE, eD2, by rw [List.length_map, List.length_map, sizeLine_eq]; omega, fun e2 n2 => ?_⟩
      rw [← List.map_append]
      have se := sb.trans (same_upd (o := .lst ((seen ++ ds).map V.int)) n2)
      have sx := sH.trans se
      have he2R : e2 ≠ R := fun z => by rw [z, sb _ _ eR] at n2; cases n2
      have hDe : D ≠ e2 := ne_of_none eD2 n2
      have hWe : W ≠ e2 := ne_of_none eW n2
      have eD3 : (upd Hb e2 (.lst ((seen ++ ds).map V.int))) D = some (.lst (ds.map V.int)) := by rw [upd_ne hDe]; exact eD2
      have eW3 : (upd Hb e2 (.lst ((seen ++ ds).map V.int))) W = some (.lst (txs (a :: ws))) := by rw [upd_ne hWe]; exact eW
      have eR3 := se _ _ eR
      have eE3 : (upd Hb e2 (.lst ((seen ++ ds).map V.int))) e2 = some (.lst ((seen ++ ds).map V.int)) := upd_same
      generalize upd Hb e2 (.lst ((seen ++ ds).map V.int)) = Hf at *
      -- a wrong line
      have bad : lineM n m rots.length seen l = none → ∀ (σ : L2.St), σ[7]? = some (some (.int (i : Int))) → (tRet (tOp (rI0 fun i j => V.int (i + j)) (tVar 7) (tC (V.int 2)))) { nx := fun _ _ => True, rt := Q } σ Hf := by
        intro hn σ h7
        refine ⟨_, h7, _, _, rfl, rfl, ?_⟩
        have := qE (i + 2) (by
          rw [pm, ← eg]
          show (match lineM n m rots.length seen l with | none => Out.bad (i + 2) | some ds => goM n m (ls.drop (i + 1)) (i + 2 + 1) (rots ++ [ds]) (seen ++ ds)) = _
          rw [hn]) Hf sx
        rwa [show ((i + 2 : Nat) : Int) = (i : Int) + 2 by omega] at this
      have lm := lineM_cons (n := n) (m := m) (cnt := rots.length) (seen := seen) ew
      refine ⟨_, rfl, W, _, 0, .str (SX.S a), rfl, rfl, SqL.of eW3, atI_nat (j := 0) rfl, rfl, _, rfl, ?_⟩
      have e1' : (!decide (V.str (SX.S a) = V.str (Str.ofString "node"))) = !decide (a = wNode) := by
        rw [show Str.ofString "node" = SX.S wNode by decide +kernel, str_eq]
      rw [e1']
      by_cases ha : a = wNode
      case neg =>
        rw [decide_eq_false ha]
        exact iteT (iteT (bad (by rw [lm, if_neg (fun z => ha z.1)]) _ rfl))
      rw [decide_eq_true ha]
      refine iteF ?_
      -- number >= nodes
      refine ⟨_, rfl, _, rfl, _, _, rfl, rfl, _, rfl, ?_⟩
      by_cases hn : n ≤ (i : Int)
      case pos =>
        rw [decide_eq_true hn]
        exact iteT (iteT (bad (by rw [lm, if_neg (fun z => z.2.1 (by omega))]) _ rfl))
      rw [decide_eq_false hn]
      refine iteF ?_
      -- -1 in darts
      refine ⟨_, _, rfl, rfl, _, rfl, D, _, rfl, .inl (SqL.of eD3), rfl, all_flat _, _, rfl, ?_⟩
      show if (inV (V.int (0 - 1)) (ds.map V.int)) = true then _ else _
      rw [inV_ints, show (0 : Int) - 1 = -1 from rfl]
      by_cases hin : (-1 : Int) ∈ ds
      case pos =>
        rw [decide_eq_true hin]
        rw [← hds] at hin
        exact iteT (iteT (bad (by rw [lm, if_neg (fun z => plains_bad (by omega) hin z.2.2.1)]) _ rfl))
      rw [decide_eq_false hin]
      refine iteF ?_
      rw [← hds] at hin
      obtain ⟨ed, rgd⟩ := plains (by omega) hin
      rw [hds] at ed
      -- len(every) != len(set(every))
      refine ⟨_, rfl, e2, _, rfl, .inl (SqL.of eE3), _, rfl, e2, seen ++ ds, rfl, SqL.of eE3, by rw [List.length_append]; omega, fun k hk hkn => ?_⟩
      refine ⟨rfl, _, rfl, ?_⟩
      by_cases hnd : (seen ++ ds).Nodup
      case neg =>
        rw [show (!decide (V.int (((seen ++ ds).map V.int).length : Int) = V.int (k : Int))) = true by
          rw [decide_eq_false (fun z => hnd (hkn.mp (by have := V.int.inj z; rw [List.length_map] at this; omega)))]; rfl]
        exact iteT (bad (by rw [lm, if_neg (fun z => hnd (by rw [ed]; exact z.2.2.2))]) _ rfl)
      rw [show (!decide (V.int (((seen ++ ds).map V.int).length : Int) = V.int (k : Int))) = false by
          rw [decide_eq_true (by rw [hkn.mpr hnd, List.length_map])]; rfl]
      refine iteF ?_
      have lsome : lineM n m rots.length seen l = some ds := by rw [lm, if_pos ⟨ha, by omega, rgd, by rw [← ed]; exact hnd⟩, ed]
      -- rotations.append(tuple(darts))
      refine ⟨_, rfl, .inl ⟨rfl, _, SqL.of eR3⟩, _, rfl, D, _, rfl, .inl ⟨SqL.of eD3, fun L nL => ?_⟩⟩
      have sL : Same Hf (upd Hf L (.tup (ds.map V.int))) := same_upd nL
      have plen : ps.length = rots.length := eP.length
      refine ⟨R, _, _, rfl, rfl, sL _ _ eR3, ?_, ?_⟩
      · rw [List.length_map, plen, sizeLine_eq]
        omega
      have hLR : L ≠ R := fun z => by rw [z, eR3] at nL; cases nL
      have st : ∀ b o, b ≠ R → Hf b = some o → (upd (upd Hf L (.tup (ds.map V.int))) R (.lst (ps.map V.ref ++ [V.ref L]))) b = some o := fun b o h2 e => by
        rw [upd_ne h2]
        exact sL _ _ e
      have hcR : c ≠ R := hRc.symm
      refine ⟨_, _, _, _, v10, e2, rots ++ [ds], seen ++ ds, ps ++ [L], rfl, ?_, st _ _ hpR (se _ _ ep), st _ _ hcR (se _ _ ecL), ?_, st _ _ he2R eE3, he2R, ?_, ?_, hnd, ?_, ?_, ?_⟩
      · exact same_upd2 hRn (sx.trans sL)
      · rw [upd_same, List.map_append]
        rfl
      · refine Paired.snoc ?_ (Paired.mapP eP fun q r e => st q _ (ne_of e eR (by intro z; cases z)) (se _ _ e))
        rw [upd_ne hLR, upd_same]
      · rw [← eg]
        show _ = (match lineM n m rots.length seen l with | none => Out.bad (i + 2) | some ds => goM n m (ls.drop (i + 1)) (i + 2 + 1) (rots ++ [ds]) (seen ++ ds))
        rw [lsome]
      · intro d hd
        rcases List.mem_append.mp hd with z | z
        · exact rg d z
        · exact rgd d (by rw [← ed]; exact z)
      · rw [List.length_append, List.length_singleton, rl]
      · omega
    · rintro σ H' ⟨v4, v7, v8, v9, v10, ev, rots, seen, ps, rfl, sH, ep, ecL, eR, eE, hER, eP, eg, nd, rg, rl, ri⟩
      have plen : ps.length = rots.length := eP.length
      rw [List.length_map, List.drop_length] at eg
      have fin : goM n m [] (ls.length + 2) rots seen = if (rots.length : Int) < n ∨ (seen.length : Int) < 2 * m then Out.bad (ls.length + 2) else Out.ok rots := rfl
      have bad : ((rots.length : Int) < n ∨ (seen.length : Int) < 2 * m) → Q (.int (((l0 :: ls).length : Nat) + 1 : Int)) H' := by
        intro hb
        have := qE (ls.length + 2) (by rw [pm, ← eg, fin, if_pos hb]) H' sH
        rwa [show ((ls.length + 2 : Nat) : Int) = (((l0 :: ls).length : Nat) : Int) + 1 by rw [List.length_cons]; omega] at this
      have badS : ((rots.length : Int) < n ∨ (seen.length : Int) < 2 * m) → ∀ σ : L2.St, σ[1]? = some (some (.ref p)) → (tRet (tOp (rI0 fun i j => V.int (i + j)) (tCB (fun xs H_2 Q => ∃ p ys, xs = [V.ref p] ∧ (SqL K H_2 p ys ∨ SqT K H_2 p ys) ∧ Q (V.int ↑ys.length) H_2) (tCons (tVar 1) tNil)) (tC (V.int 1)))) { nx := fun _ _ => True, rt := Q } σ H' := by
        intro hb σ h1
        refine ⟨_, h1, p, _, rfl, .inl (SqL.of ep), _, _, rfl, rfl, ?_⟩
        have := bad hb
        rwa [← List.length_map (f := fun l => V.str (SX.S l))] at this
      refine ⟨_, rfl, R, _, rfl, .inl (SqL.of eR), _, rfl, _, _, rfl, rfl, _, rfl, ?_⟩
      rw [List.length_map, plen]
      by_cases k1 : (rots.length : Int) < n
      · rw [decide_eq_true k1]
        exact iteT (iteT (badS (.inl k1) _ rfl))
      rw [decide_eq_false k1]
      refine iteF ⟨_, rfl, ev, _, rfl, .inl (SqL.of eE), _, rfl, _, _, rfl, rfl, .inl ⟨by decide, by decide⟩, _, _, rfl, rfl, _, rfl, ?_⟩
      rw [List.length_map]
      by_cases k2 : (seen.length : Int) < 2 * m
      · rw [decide_eq_true k2]
        exact iteT (badS (.inr k2) _ rfl)
      rw [decide_eq_false k2]
      refine iteF ⟨_, rfl, R, _, rfl, .inl ⟨SqL.of eR, fun L nL => ?_⟩⟩
      refine qQ rots (by rw [pm, ← eg, fin, if_neg (fun z => z.elim k1 k2)]) L _ (same_upd2 (none_up sH nL) sH) ⟨ps, upd_same, ?_⟩
      exact Paired.mapP eP fun q r e => by rw [upd_ne (ne_of_none e nL)]; exact e
end
end Fl
-- D8
namespace Fl
open PySem PySem.Spec PyProof.Rows L2
section
variable {P : Program} {w : World} {K : PySem.W.Frag} {mg : Str → Option Value} {base : Heap}
def spTold : Sp := fun vs H Q _ => ∃ t : List Nat, vs = [.str (SX.S t)] ∧ t.length ≤ 250000 ∧ (∀ k : Nat, parseM t = .bad k → ∀ H', Same H H' → Q (.int k) H') ∧
  ∀ g, parseM t = .ok g → ∀ p H', Same H H' → GrAt H' p g → Q (.ref p) H'
theorem ok_told {C C1 C2 C3 fI f fP fT : Addr} {fd fdI fdP fdT : FuncData} (F : Fun K "_law_told_graph" "_law_told_graph" sTold f fd) (B : BadC K mg C fI fdI) (XC : XfC K C)
    (FP : FnOk P w K mg base (L2.CX P w) 4 fP fdP ["text"] (spParse C)) (bP : Binds K fdP ["text"] []) (gP : mg "parse_graph" = some (.ref fP)) (kP : PySem.W.keepIn K (.ref fP) = true)
    (FT : FnOk P w K mg base CX0 4 fT fdT ["graph"] spText) (bT : Binds K fdT ["graph"] []) (gT : mg "graph_text" = some (.ref fT)) (kT : PySem.W.keepIn K (.ref fT) = true)
    (g1 : mg "InvalidValue" = some (.ref C1)) (g2 : mg "InvalidState" = some (.ref C2)) (g3 : mg "LimitReached" = some (.ref C3)) (ex : PySem.W.exmAny K (.ref C) [.ref C1, .ref C2, .ref C3] = some true)
    (mis : mg "isinstance" = none) : FnOk P w K mg base CX0 5 f fd ["_law_spelt"] spTold := by
  refine F.ok scTold (fun vs H Q E h => ?_) (fun cdv A outer s H vs Q E hr h => ?_)
  · obtain ⟨l, rfl, _⟩ := h
    rfl
  · obtain ⟨t, rfl, hl, qE, qQ⟩ := h
    have hu := hu_of hr
    refine ⟨_, pss_cons (ps_asg (pe_tup (pa_cons pe_non (pa_cons pe_non pa_nil))) (pg_tup rfl (pgs_cons (pg_name (i := 1) scTold.nd rfl (.inl rfl)) (pgs_cons (pg_name (i := 2) scTold.nd rfl (.inl rfl)) pgs_nil))))
      (pss_cons (ps_try_keep (i := 3) (j := 2) rfl rfl rfl scTold.nd rfl rfl (by decide) rfl rfl (by rfl) (by rfl) (by rfl) g1 g2 g3 (by decide) (by decide) (by decide) (by decide) (by decide)
          (fun W pn xe tk po => pss_one (ps_set (i := 1) scTold.nd rfl (.inl rfl) (pe_call (E := fun cls d H => ∀ σ, W cls d σ H) FP hr (by rfl) gP kP bP .nil (passes_call tk fun _ _ σ _ h => h σ) (pa_cons (pv 0) pa_nil)))))
      (pss_cons (ps_if (pt_cmp (pc_isN (pv 2)))
        (pss_one (ps_ret (pe_ifExp (pt_cmpR op_eq (pe_call FT hr (by rfl) gT kT bT .nil pass0 (pa_cons (pv 1) pa_nil)) (pv 0) (nomark _)) (pv 1) pe_str))) pss_nil)
      (pss_one (ps_ret (pe_ifExp (pt_val (pe_callB call_isHeld (by rfl) mis (by decide +kernel) (pa_cons (pv 2) (pa_cons (pe_glob (v := .ref C) (by rfl) B.g rfl) pa_nil)))) (pe_heldF (pv 2)) pe_str))))), ?_⟩
    refine ⟨by show 2 ≤ sizeLine; rw [sizeLine_eq]; decide, fun T nT => ?_⟩
    refine ⟨T, _, rfl, SqT.of upd_same, rfl, _, _, rfl, _, _, rfl, rfl, ?_⟩
    have s0 : Same H (upd H T (.tup [.non, .non])) := same_upd nT
    refine ⟨_, rfl, t, rfl, hl, fun k hk d H' s' e' => ?_, fun g hg p H' s' ga => ?_⟩
    · intro σ
      refine ⟨ex, fun a na li lj => ?_⟩
      have s1 : Same H (upd H' a (heldE a (.ref C) (some d))) := (s0.trans s').trans (same_upd na)
      have h2 : (((σ.set 3 (some (V.ref a))).set 2 (some (V.ref a))).set 3 none)[2]? = some (some (V.ref a)) := by
        rw [List.getElem?_set_ne (by decide), List.getElem?_set_self (by rw [List.length_set]; exact lj)]
      refine ⟨_, h2, _, rfl, iteF ?_⟩
      refine ⟨_, h2, a, C, some d, rfl, upd_same, _, rfl, iteT ?_⟩
      refine ⟨_, h2, a, C, d, [(("line" : Str), V.int k)], V.int k, rfl, XC, B.noL, upd_same, ?_, rfl, ?_⟩
      · rw [upd_ne (ne_of_none e' na)]
        exact e'
      · exact qE k hk _ s1
    · obtain ⟨G, et⟩ := parseM_ok hg
      have sH : Same H H' := s0.trans s'
      refine ⟨_, rfl, _, rfl, iteT ?_⟩
      refine ⟨_, rfl, p, g, rfl, ga, G, fun H2 s2 => ?_⟩
      refine ⟨_, rfl, rfl, _, rfl, ?_⟩
      rw [et]
      rw [show decide (V.str (SX.S t) = V.str (SX.S t)) = true from decide_eq_true rfl]
      exact iteT ⟨_, rfl, qQ g hg p H2 (sH.trans s2) (GrAt.same s2 ga)⟩
end
end Fl
-- R7
set_option maxHeartbeats 2000000
/-! own rules, 7: a list whose first item joins a written text (a token is out behind it); x.replace(y, z, 1) -/
namespace Fl
open PySem PySem.Spec PyProof.Rows L2 Builtin Builtin.Str
theorem gives_rep4 (x y z : Str) (t u v w : Tok)
    (hf : ((occurrences x y 0 x.length 1).isEmpty || (y.length == 0 && z.length == 0)) = false →
      (u == 0 || v == 0) = false ∧ (u == v) = false ∧ (y == z) = false ∧ tooLong (x.length + (occurrences x y 0 x.length 1).length * z.length) = false) :
    Gives («str.replace» ⟨[.str x t, .str y u, .str z v, .int 1 w], []⟩)
      (if ((occurrences x y 0 x.length 1).isEmpty || (y.length == 0 && z.length == 0)) = true then .val (.str x t) else .str (glued z (partsBetween x (occurrences x y 0 x.length 1) y.length))) := by
  have e : «str.replace» ⟨[.str x t, .str y u, .str z v, .int 1 w], []⟩ = (if ((occurrences x y 0 x.length 1).isEmpty || (y.length == 0 && z.length == 0)) = true then (do rule "str.replace.nothing"; ret (.str x t)) else
          (do let same ← isSame (.str y u) (.str z v)
              if same = true then (do rule "str.replace.old-is-new"; ret (.str x t)) else
              if tooLong (x.length + (occurrences x y 0 x.length 1).length * z.length) = true then unsupported "str.replace:memory" else
              retStr (glued z (partsBetween x (occurrences x y 0 x.length 1) y.length)))) := by
    show (do let limit ← countLimit "str.replace" (some (.int 1 w)) (x.length + 1); _) = _
    rw [countLimit_int "str.replace" 1 w (x.length + 1) (by decide)]
    rfl
  rw [e]
  cases hc : ((occurrences x y 0 x.length 1).isEmpty || (y.length == 0 && z.length == 0))
  · obtain ⟨h0, huv, hyz, hl⟩ := hf hc
    rw [isSame_str_other y z u v h0 huv hyz, hl]
    exact .of_eq rfl
  · exact .rule (.of_eq rfl)
theorem rep4_len (x y z : Str) : (glued z (partsBetween x (occurrences x y 0 x.length 1) y.length)).length ≤ x.length + z.length := by
  have h1 := StrLaws.occ_length_le x y 0 x.length 1
  have hy : (glued y (partsBetween x (occurrences x y 0 x.length 1) y.length)).length = x.length := by rw [StrLaws.glued_between_self]
  rw [size_glued, length_partsBetween, Nat.add_sub_cancel] at hy
  rw [size_glued, length_partsBetween, Nat.add_sub_cancel]
  have h2 : (occurrences x y 0 x.length 1).length * z.length ≤ 1 * z.length := Nat.mul_le_mul_right _ h1
  omega
section
variable {prog : Program} {w : World} {A : Around} {E : Value → Shared → Prop} {s : Shared} {env : Env}
theorem Call_method3 {o e₁ e₂ e₃ : Expr} {name : Str} {apos pos : Pos} {Q : Value → Shared → Prop}
    (hbase : attributeBase o name env (eval o env) = eval o env) (hs : starEach [e₁, e₂, e₃] env = [(false, eval e₁ env), (false, eval e₂ env), (false, eval e₃ env)]) (hline : (apos.endLine == pos.line) = true)
    (h : wpAny (model prog w) A (eval o env) (fun ov s₁ => MethodOnS prog w A E name ov pos [(false, eval e₁ env), (false, eval e₂ env), (false, eval e₃ env)] Q s₁) E s) :
    wpAny (model prog w) A (eval (.Call (.Attribute o name apos) [e₁, e₂, e₃] [] pos) env) Q E s := by
  refine wpAny_Call_method_lateS hbase (by rw [hs]; rfl) hline ?_
  rw [hs]; exact h
end
def tRep1 (z : Str) (to : TE) : TE := fun σ H Q => to σ H fun v H1 => ∃ x, v = .str x ∧ x.length ≤ 1000000 ∧ ∀ y : Str, y.length ≤ x.length + z.length → Q (.str y) H1
section
variable {X : Cx} {o a : Expr} {to ta : TE} {y z c : Str} {j k l : Nat} {c0 c1 c2 cp apos pos : Pos}
theorem pet_rep1 (ho : PE X o to) (hyz : (y == z) = false := by decide) (hz : z.length ≤ 10 := by decide)
    (hst : starEach [.Constant (.str y) j c0, .Constant (.str z) k c1, .Constant (.int 1) l c2] X.env = [(false, eval (.Constant (.str y) j c0) X.env), (false, eval (.Constant (.str z) k c1) X.env), (false, eval (.Constant (.int 1) l c2) X.env)] := by rfl)
    (hbase : attributeBase o "replace" X.env (eval o X.env) = eval o X.env := by rfl) (hline : (apos.endLine == pos.line) = true := by rfl) :
    PET X (.Call (.Attribute o "replace" apos) [.Constant (.str y) j c0, .Constant (.str z) k c1, .Constant (.int 1) l c2] [] pos) (tRep1 z to) := by
  intro pins s σ H Q h0 I h
  refine Call_method3 hbase hst hline (wpAny_mono (PySem.wpAny_toks (ho.run pins s σ H _ I h)) (fun v s1 q => ?_) fun _ _ z => z.2)
  obtain ⟨hk, v', H1, I1, r1, x, e1, hb, q⟩ := q
  subst e1
  obtain ⟨tx, e2⟩ := r1
  subst e2
  refine ⟨"str", _, PySem.F.plainAttrs_str, PySem.F.slot_str_replace, PySem.F.type_str_replace, typeIs_str _ _ _, (fun _ e => nomatch e), Calls.callWith_builtin rfl (Calls.evalArgs_plain (Calls.spliced_cons ?_))⟩
  refine Calls.Constant_str ?_
  refine Calls.spliced_cons ?_
  refine Calls.Constant_str ?_
  refine Calls.spliced_cons ?_
  refine wpAny_Constant_int ?_
  refine Calls.spliced_nil ?_
  have hu : s1.toks ≠ 0 := by show s1.toks ≠ 0; omega
  have hv : s1.toks + 1 ≠ 0 := by omega
  have huv : s1.toks ≠ s1.toks + 1 := by omega
  have hle := rep4_len x y z
  have hl : tooLong (x.length + (occurrences x y 0 x.length 1).length * z.length) = false := by
    have h1 := StrLaws.occ_length_le x y 0 x.length 1
    have h2 : (occurrences x y 0 x.length 1).length * z.length ≤ 1 * z.length := Nat.mul_le_mul_right _ h1
    unfold tooLong
    rw [sizeLine_eq]
    exact decide_eq_false (by omega)
  refine call_gives F.slot_str_replace (typeIs_str _ _ _) F.entry_str_replace (F.args_str_replace_4 _ _ _ _)
    (gives_rep4 x y z tx s1.toks (s1.toks + 1) _ fun _ => ⟨by simp [hu], by simp, hyz, hl⟩) ?_
  cases hc : ((occurrences x y 0 x.length 1).isEmpty || (y.length == 0 && z.length == 0))
  · simp only [Bool.false_eq_true, if_false]
    exact ⟨by rw [sizeLine_eq]; omega, .str _, H1, I1.tok _, ⟨_, rfl⟩, q _ hle⟩
  · simp only [if_true]
    exact ⟨.str x, H1, I1.tok _, ⟨_, rfl⟩, q _ (by omega)⟩
/-- [x + " ", ..]: behind the first item a token is out -/
theorem pa_addC {es : List Expr} {ts : TA} {r : R2} (ho : OpR X (binaryOp .Add) r) (ha : PE X a ta) (hr : PAT X es ts)
    (hs : starEach (.BinOp a .Add (.Constant (.str c) j cp) pos :: es) X.env = (false, eval (.BinOp a .Add (.Constant (.str c) j cp) pos) X.env) :: starEach es X.env := by rfl) :
    PA X (.BinOp a .Add (.Constant (.str c) j cp) pos :: es) (tCons (tOp r ta (tC (.str c))) ts) := by
  refine ⟨fun p pins s σ H Q I h => ?_⟩
  rw [hs]
  show wpAny _ _ (spliced ((false, eval (.BinOp a .Add (.Constant (.str c) j cp) pos) X.env) :: backTo p (starEach es X.env))) _ _ s
  refine Calls.spliced_cons (wpAny_BinOp (thn (ha.run pins s σ H _ I h) fun v s1 ⟨x, H1, I1, r1, q1⟩ => Calls.Constant_str ?_))
  refine wpAny_mono (PySem.wpAny_toks (ho pins _ σ H1 x (.str c) v _ _ (I1.tok (s1.toks + 1)) r1 ⟨s1.toks, rfl⟩ q1)) (fun u s2 q => ?_) fun _ _ z => z.2
  obtain ⟨hk, x2, H2, I2, r2, q2⟩ := q
  have hk' : s1.toks + 1 ≤ s2.toks := hk
  exact thn (hr p pins s2 σ H2 _ (by omega) I2 q2) fun us s3 ⟨xs, H3, I3, r3, q3⟩ => ⟨x2 :: xs, H3, I3, .cons r2 r3, q3⟩
end
end Fl
-- D9
namespace Fl
open PySem PySem.Spec PyProof.Rows L2
abbrev sSrc : Stmt := topS 24
abbrev sNext : Stmt := topS 25
abbrev sMixed : Stmt := topS 26
abbrev sAny : Stmt := topS 27
abbrev sGLines : Stmt := topS 28
abbrev nSrc : List Str := ["_law_script", "_law_k", "_law_cell"]
abbrev nNext : List Str := ["_law_source_here", "_law_many", "_law_found", "_law_primes", "_law_prime"]
abbrev nMixed : List Str := ["_law_source_here", "_law_items", "_law_rest", "_law_found"]
theorem scSrc : FnScope nSrc ["_law_script", "_law_k"] (defScope sSrc) := ⟨rfl, rfl, rfl, by decide +kernel, rfl, by decide +kernel, by decide +kernel⟩
theorem scNext : FnScope nNext ["_law_source_here", "_law_many"] (defScope sNext) := ⟨rfl, rfl, rfl, by decide +kernel, rfl, by decide +kernel, by decide +kernel⟩
theorem scMixed : FnScope nMixed ["_law_source_here", "_law_items"] (defScope sMixed) := ⟨rfl, rfl, rfl, by decide +kernel, rfl, by decide +kernel, by decide +kernel⟩
section
variable {P : Program} {w : World} {K : PySem.W.Frag} {mg : Str → Option Value} {base : Heap}
/-- the source's list -/
def SrcAt (H : Hp) (a : Addr) (k : Int) : Prop := ∃ c kk d : Int, H a = some (.lst [.int c, .int kk, .int d]) ∧ 0 ≤ kk ∧ kk ≤ k ∧ 0 ≤ d
/-- all but a stands -/
def SameX (a : Addr) (H H' : Hp) : Prop := ∀ b o, b ≠ a → H b = some o → H' b = some o
theorem SameX.refl (a : Addr) (H : Hp) : SameX a H H := fun _ _ _ h => h
theorem SameX.trans {a : Addr} {H H1 H2 : Hp} (x : SameX a H H1) (y : SameX a H1 H2) : SameX a H H2 := fun b o h e => y b o h (x b o h e)
theorem SameX.of {a : Addr} {H H1 : Hp} (x : Same H H1) : SameX a H H1 := fun b o _ e => x b o e
def spSrc (K : PySem.W.Frag) : Sp := fun vs H Q _ => ∃ (p : Addr) (zs : List Int) (k : Int), vs = [.ref p, .int k] ∧ SqL K H p (zs.map V.int) ∧ 0 ≤ k ∧ k ≤ 1000 ∧ ∀ a H', Same H H' → H a = none → SrcAt H' a (3 * k) → Q (.ref a) H'
theorem ok_src {f : Addr} {fd : FuncData} {k : Nat} (F : Fun K "_law_source" "_law_source" sSrc f fd) (ml : mg "len" = none) : FnOk P w K mg base CX0 (k + 1) f fd ["_law_script", "_law_k"] (spSrc K) := by
  refine F.ok scSrc (fun vs H Q E h => ?_) (fun cdv A outer s H vs Q E hr h => ?_)
  · obtain ⟨p, zs, k, rfl, _⟩ := h
    rfl
  · obtain ⟨p, zs, k, rfl, hp, k0, k1, q⟩ := h
    refine ⟨_, pss_cons (ps_set (i := 2) scSrc.nd rfl (.inl rfl) (pe_ifExp (pt_cmpR (op_neNil hr.units0) (pv 0) (pe_lst pa_nil) (nomark _)) (pe_ix ix_list (pv 0) (pe_op op_mod (pv 1) (pe_callB call_len_seq (by rfl) ml PySem.boot_len (pa_cons (pv 0) pa_nil))) (fun _ _ => rfl)) pe_int))
      (pss_one (ps_ret (pe_lst (pa_cons (pv 2) (pa_cons (pe_op op_mul pe_int (pv 1)) (pa_cons (pe_ifExp (pt_cmpR op_ge (pv 2) (pe_op op_pow pe_int pe_int) (nomark _)) (pe_op op_fdivW (pv 2) (pe_op op_pow pe_int pe_int)) pe_int) pa_nil)))))), ?_⟩
    have fin : ∀ (c : Int) (H' : Hp), Same H H' → (tRet (tLst (tCons (tVar 2) (tCons (tOp (rI CMul fun i j => V.int (i * j)) (tC (V.int 3)) (tVar 1)) (tCons
        (tIf (tTest (tOp (rI0 fun i j => V.bl (decide (j ≤ i))) (tVar 2) (tOp (rI CPow fun i j => V.int (i ^ j.toNat)) (tC (V.int 10)) (tC (V.int 18)))))
          (tOp (rI CDivW fun i j => V.int (i / j)) (tVar 2) (tOp (rI CPow fun i j => V.int (i ^ j.toNat)) (tC (V.int 10)) (tC (V.int 18)))) (tC (V.int 0))) tNil)))))
        { nx := fun x H' => Q V.non H', rt := Q } [some (.ref p), some (.int k), some (.int c)] H' := by
      intro c H' hs
      refine ⟨_, rfl, _, rfl, _, _, rfl, rfl, .inl ⟨by decide, by decide⟩, _, rfl, _, _, rfl, rfl, ⟨by decide, by decide, by decide⟩, _, _, rfl, rfl, _, rfl, ?_⟩
      have mk : ∀ d : Int, 0 ≤ d → ∀ L, H' L = none → Q (.ref L) (upd H' L (.lst [.int c, .int (3 * k), .int d])) := fun d hd L nL =>
        q L _ (same_upd2 (hs.free nL) hs) (hs.free nL) ⟨c, 3 * k, d, upd_same, by omega, Int.le_refl _, hd⟩
      by_cases h : (10 : Int) ^ (18 : Int).toNat ≤ c
      · rw [decide_eq_true h]
        refine iteT ⟨_, rfl, _, _, rfl, rfl, ⟨by decide, by decide, by decide⟩, _, _, rfl, rfl, ⟨by decide, by decide⟩, by show 3 ≤ sizeLine; rw [sizeLine_eq]; decide, ?_⟩
        exact mk _ (Int.ediv_nonneg (Int.le_trans (by decide) h) (by decide))
      · rw [decide_eq_false h]
        exact iteF ⟨by show 3 ≤ sizeLine; rw [sizeLine_eq]; decide, mk 0 (by decide)⟩
    refine ⟨_, rfl, by show 0 ≤ sizeLine; exact Nat.zero_le _, fun L nL => ⟨p, L, _, rfl, rfl, (same_upd nL).seq hp, SqL.of upd_same, _, rfl, ?_⟩⟩
    by_cases hz : zs = []
    · rw [show (!decide (zs.map V.int = [])) = false by subst hz; rfl]
      exact iteF (fin 1 _ (same_upd nL))
    · rw [show (!decide (zs.map V.int = [])) = true by rw [decide_eq_false (fun z => hz (List.map_eq_nil_iff.mp z))]; rfl]
      have lz : 0 < zs.length := List.length_pos_iff.mpr hz
      have m0 := Int.emod_nonneg k (b := (zs.length : Int)) (by omega)
      have m1 := Int.emod_lt_of_pos k (b := (zs.length : Int)) (by omega)
      obtain ⟨j, hj⟩ := Int.eq_ofNat_of_zero_le m0
      have jl : j < zs.length := by omega
      refine iteT ⟨_, rfl, _, rfl, _, rfl, p, _, rfl, .inl ((same_upd nL).seq hp), _, _, rfl, rfl, by show (0 : Int) < _; rw [List.length_map]; omega, p, _, _, V.int zs[j], rfl, rfl, (same_upd nL).seq hp, ?_, fin _ _ (same_upd nL)⟩
      rw [List.length_map, hj]
      exact atI_nat (by rw [List.getElem?_map, List.getElem?_eq_getElem jl]; rfl)
theorem map_eraseIdx' {α β : Type} (f : α → β) : ∀ (l : List α) (i : Nat), (l.map f).eraseIdx i = (l.eraseIdx i).map f
  | [], _ => rfl
  | _ :: _, 0 => rfl
  | x :: l, i + 1 => congrArg (f x :: ·) (map_eraseIdx' f l i)
theorem primes_at : ∀ j : Nat, j < 11 → ∃ pr : Int, ([V.int 2147483647, V.int 2147483629, V.int 2147483587, V.int 2147483579, V.int 2147483563, V.int 2147483549, V.int 2147483543, V.int 2147483497] ++ [V.int 2147483489, V.int 2147483477, V.int 2147483423])[j]? = some (.int pr) ∧ 2000000000 < pr ∧ pr < 2147483648
  | 0, _ => ⟨_, rfl, by decide, by decide⟩
  | 1, _ => ⟨_, rfl, by decide, by decide⟩
  | 2, _ => ⟨_, rfl, by decide, by decide⟩
  | 3, _ => ⟨_, rfl, by decide, by decide⟩
  | 4, _ => ⟨_, rfl, by decide, by decide⟩
  | 5, _ => ⟨_, rfl, by decide, by decide⟩
  | 6, _ => ⟨_, rfl, by decide, by decide⟩
  | 7, _ => ⟨_, rfl, by decide, by decide⟩
  | 8, _ => ⟨_, rfl, by decide, by decide⟩
  | 9, _ => ⟨_, rfl, by decide, by decide⟩
  | 10, _ => ⟨_, rfl, by decide, by decide⟩
  | n + 11, h => absurd h (by omega)
def spNext : Sp := fun vs H Q _ => ∃ (a : Addr) (k many : Int), vs = [.ref a, .int many] ∧ SrcAt H a k ∧ k ≤ 1000000 ∧ 0 < many ∧ many < 1000000 ∧ ∀ r H', 0 ≤ r → r < many → SameX a H H' → SrcAt H' a (k + 1) → Q (.int r) H'
theorem ok_next {f : Addr} {fd : FuncData} {k : Nat} (F : Fun K "_law_next" "_law_next" sNext f fd) : FnOk P w K mg base CX0 (k + 1) f fd ["_law_source_here", "_law_many"] spNext := by
  refine F.ok scNext (fun vs H Q E h => ?_) (fun cdv A outer s H vs Q E hr h => ?_)
  · obtain ⟨p, zs, k, rfl, _⟩ := h
    rfl
  · obtain ⟨a, k, many, rfl, ⟨c, kk, d, ha, kk0, kk1, d0⟩, k1, m0, m1, q⟩ := h
    refine ⟨_, pss_cons (ps_if (pt_cmpR op_gt (pe_ix ix_list (pv 0) pe_int (fun _ _ => rfl)) pe_int (nomark _))
        (pss_cons (ps_set (i := 2) scNext.nd rfl (.inl rfl) (pe_op op_mod (pe_ix ix_list (pv 0) pe_int (fun _ _ => rfl)) (pv 1)))
        (pss_cons (ps_asg (pe_op op_fdiv (pe_ix ix_list (pv 0) pe_int (fun _ _ => rfl)) (pv 1)) (pg_sub (pv 0) pe_int set_list))
        (pss_one (ps_ret (pv 2))))) pss_nil)
      (pss_cons (ps_asg (pe_op op_add (pe_ix ix_list (pv 0) pe_int (fun _ _ => rfl)) pe_int) (pg_sub (pv 0) pe_int set_list))
      (pss_cons (ps_set (i := 3) scNext.nd rfl (.inl rfl) (pe_lst (pa_cons pe_int (pa_cons pe_int (pa_cons pe_int (pa_cons pe_int (pa_cons pe_int (pa_cons pe_int (pa_cons pe_int (pa_cons pe_int pa_nil))))))))))
      (pss_cons (ps_set (i := 4) scNext.nd rfl (.inl rfl) (pe_ix ix_list (pe_op op_cat (pv 3) (pe_lst (pa_cons pe_int (pa_cons pe_int (pa_cons pe_int pa_nil))))) (pe_op op_mod (pe_ix ix_list (pv 0) pe_int (fun _ _ => rfl)) pe_int) (fun _ _ => rfl)))
      (pss_one (ps_ret (pe_op op_mod (pe_op op_fdiv (pe_op op_mod (pe_op op_pow (pe_op op_add (pe_op op_add (pe_op op_mod (pe_ix ix_list (pv 0) pe_int (fun _ _ => rfl)) (pv 4)) (pe_op op_mul pe_int (pe_ix ix_list (pv 0) pe_int (fun _ _ => rfl)))) pe_int) pe_int) (pv 4)) pe_int) (pv 1))))))), ?_⟩
    refine ⟨_, rfl, a, _, 2, .int d, rfl, rfl, SqL.of ha, atI_nat (j := 2) rfl, _, _, rfl, rfl, _, rfl, ?_⟩
    by_cases hd : 0 < d
    · rw [decide_eq_true hd]
      refine iteT ⟨_, rfl, a, _, 2, .int d, rfl, rfl, SqL.of ha, atI_nat (j := 2) rfl, _, rfl, _, _, rfl, rfl, m0, ?_⟩
      refine ⟨_, rfl, a, _, 2, .int d, rfl, rfl, SqL.of ha, atI_nat (j := 2) rfl, _, rfl, _, _, rfl, rfl, ⟨m0, by omega⟩, _, rfl, a, _, 2, 2, rfl, rfl, ha, rfl, ?_⟩
      refine ⟨_, rfl, q _ _ (Int.emod_nonneg _ (by omega)) (Int.emod_lt_of_pos _ m0) (fun b o hb e => by rw [upd_ne hb]; exact e) ⟨c, kk, d / many, upd_same, kk0, by omega, Int.ediv_nonneg d0 (by omega)⟩⟩
    · rw [decide_eq_false hd]
      refine iteF ⟨_, rfl, a, _, 1, .int kk, rfl, rfl, SqL.of ha, atI_nat (j := 1) rfl, _, _, rfl, rfl, _, rfl, a, _, 1, 1, rfl, rfl, ha, rfl, ?_⟩
      have e1 : (upd H a (.lst ([V.int c, V.int kk, V.int d].set 1 (V.int (kk + 1))))) a = some (.lst [V.int c, V.int (kk + 1), V.int d]) := upd_same
      have sx : SameX a H (upd H a (.lst ([V.int c, V.int kk, V.int d].set 1 (V.int (kk + 1))))) := fun b o hb e => by rw [upd_ne hb]; exact e
      generalize upd H a (.lst ([V.int c, V.int kk, V.int d].set 1 (V.int (kk + 1)))) = H1 at e1 sx ⊢
      refine ⟨by show 8 ≤ sizeLine; rw [sizeLine_eq]; decide, fun L nL => ?_⟩
      refine ⟨_, rfl, by show 3 ≤ sizeLine; rw [sizeLine_eq]; decide, fun M nM => ?_⟩
      have hLM : L ≠ M := fun z => by rw [← z, upd_same] at nM; cases nM
      refine ⟨L, M, _, _, rfl, rfl, by rw [upd_ne hLM, upd_same], upd_same, by show 8 + 3 ≤ sizeLine; rw [sizeLine_eq]; decide, fun N nN => ?_⟩
      have sN := ((same_upd (o := .lst [V.int 2147483647, V.int 2147483629, V.int 2147483587, V.int 2147483579, V.int 2147483563, V.int 2147483549, V.int 2147483543, V.int 2147483497]) nL).trans (same_upd (o := .lst [V.int 2147483489, V.int 2147483477, V.int 2147483423]) nM)).trans
        (same_upd (o := .lst ([V.int 2147483647, V.int 2147483629, V.int 2147483587, V.int 2147483579, V.int 2147483563, V.int 2147483549, V.int 2147483543, V.int 2147483497] ++ [V.int 2147483489, V.int 2147483477, V.int 2147483423])) nN)
      have e2 := sN _ _ e1
      obtain ⟨j, hj⟩ := Int.eq_ofNat_of_zero_le (Int.emod_nonneg (kk + 1) (b := 11) (by decide))
      have jl : j < 11 := by omega
      obtain ⟨pr, hpr, p0, p1⟩ := primes_at j jl
      refine ⟨_, rfl, a, _, 1, .int (kk + 1), rfl, rfl, SqL.of e2, atI_nat (j := 1) rfl, _, _, rfl, rfl, by show (0 : Int) < 11; decide, N, _, _, .int pr, rfl, rfl, SqL.of upd_same, by rw [hj]; exact atI_nat hpr, ?_⟩
      have b0 := Int.emod_nonneg c (b := pr) (by omega)
      have b1 := Int.emod_lt_of_pos c (b := pr) (by omega)
      refine ⟨_, rfl, a, _, 0, .int c, rfl, rfl, SqL.of e2, atI_nat (j := 0) rfl, _, rfl, _, _, rfl, rfl, by show 0 < pr; omega, _, rfl, a, _, 1, .int (kk + 1), rfl, rfl, SqL.of e2, atI_nat (j := 1) rfl, _, _, rfl, rfl, .inl ⟨by decide, by decide⟩, _, _, rfl, rfl, _, _, rfl, rfl, _, _, rfl, rfl,
        ⟨by decide, by decide, by omega⟩, _, rfl, _, _, rfl, rfl, by show 0 < pr; omega, _, _, rfl, rfl, ⟨by decide, by decide⟩, _, rfl, _, _, rfl, rfl, m0, ?_⟩
      exact q _ _ (Int.emod_nonneg _ (by omega)) (Int.emod_lt_of_pos _ m0) (sx.trans (SameX.of sN)) ⟨c, kk + 1, d, e2, by omega, by omega, d0⟩
def spMixed : Sp := fun vs H Q _ => ∃ (a b : Addr) (k : Int) (xs : List Int), vs = [.ref a, .ref b] ∧ SrcAt H a k ∧ 0 ≤ k ∧ k ≤ 900000 ∧ H b = some (.lst (xs.map V.int)) ∧ xs.length ≤ 1000 ∧
  ∀ p H' (ys : List Int), SameX a H H' → SrcAt H' a (k + xs.length) → H p = none → H' p = some (.lst (ys.map V.int)) → ys.length = xs.length → (∀ y ∈ ys, y ∈ xs) → Q (.ref p) H'
theorem ok_mixed {f fX : Addr} {fd fdX : FuncData} (F : Fun K "_law_mixed" "_law_mixed" sMixed f fd) (FX : FnOk P w K mg base CX0 1 fX fdX ["_law_source_here", "_law_many"] spNext) (bX : Binds K fdX ["_law_source_here", "_law_many"] []) (gX : mg "_law_next" = some (.ref fX)) (kX : PySem.W.keepIn K (.ref fX) = true)
    (ml : mg "len" = none) (mL : mg "list" = none) : FnOk P w K mg base CX0 2 f fd ["_law_source_here", "_law_items"] spMixed := by
  refine F.ok scMixed (fun vs H Q E h => ?_) (fun cdv A outer s H vs Q E hr h => ?_)
  · obtain ⟨p, zs, k, xs, rfl, _⟩ := h
    rfl
  · obtain ⟨a, b, k, xs, rfl, hs, k0, k1, hb, hl, q⟩ := h
    refine ⟨_, pss_cons (ps_par (i := 2) (j := 3) rfl scMixed.nd rfl rfl (by decide) rfl rfl (pa_cons (pe_callTy call_list_of (by rfl) mL (by decide +kernel) (pa_cons (pv 1) pa_nil)) (pa_cons (pe_lst pa_nil) pa_nil)) (by rfl))
      (pss_cons (ps_while PassesOwn.never (pt_cmpR (op_neNil hr.units0) (pv 2) (pe_lst pa_nil) (nomark _))
        (pss_one (ps_expr (pe_bm PySem.F.plainAttrs_list PySem.F.slot_list_append PySem.F.type_list_append mt_append (pv 3) (pa_cons (pe_bm PySem.F.plainAttrs_list PySem.F.slot_list_pop PySem.F.type_list_pop mt_popAt (pv 2)
          (pa_cons (pe_call FX hr (by rfl) gX kX bX .nil pass0 (pa_cons (pv 0) (pa_cons (pe_callB call_len_seq (by rfl) ml PySem.boot_len (pa_cons (pv 2) pa_nil)) pa_nil))) pa_nil)) pa_nil)))))
      (pss_one (ps_ret (pv 3)))), ?_⟩
    obtain ⟨c0, kk0, d0, ha, _⟩ := id hs
    refine ⟨_, rfl, b, _, rfl, .inl (SqL.of hb), fun R nR => ⟨Nat.zero_le _, fun Fd nF => ⟨_, _, rfl, ?_⟩⟩⟩
    have hRa : R ≠ a := fun z => by rw [z, ha] at nR; cases nR
    have hFR : Fd ≠ R := fun z => by rw [z, upd_same] at nF; cases nF
    have hFa : Fd ≠ a := fun z => by rw [z, upd_ne hRa.symm, ha] at nF; cases nF
    have nF' : H Fd = none := by rw [upd_ne hFR] at nF; exact nF
    refine ⟨fun m σ H' => ∃ rest fnd : List Int, m = rest.length ∧ σ = [some (.ref a), some (.ref b), some (.ref R), some (.ref Fd)] ∧ SameX a H H' ∧ SrcAt H' a (k + fnd.length) ∧ H' R = some (.lst (rest.map V.int)) ∧ H' Fd = some (.lst (fnd.map V.int)) ∧
      rest.length + fnd.length = xs.length ∧ (∀ y ∈ rest ++ fnd, y ∈ xs), ⟨xs.length, xs, [], rfl, rfl, ?_, ?_, ?_, upd_same, rfl, by simp⟩, ?_⟩
    · exact SameX.of ((same_upd nR).trans (same_upd nF))
    · obtain ⟨c, kk, d, e, h1, h2, h3⟩ := hs
      exact ⟨c, kk, d, by rw [upd_ne hFa.symm, upd_ne hRa.symm]; exact e, h1, by simp; omega, h3⟩
    · rw [upd_ne hFR.symm, upd_same]
    · rintro m σ H' ⟨rest, fnd, rfl, rfl, sx, src, eR, eF, hlen, hmem⟩
      refine ⟨_, rfl, by show 0 ≤ sizeLine; exact Nat.zero_le _, fun L nL => ⟨R, L, _, rfl, rfl, (same_upd nL).seq (SqL.of eR), SqL.of upd_same, _, rfl, ?_⟩⟩
      have sL := same_upd (o := .lst []) nL
      by_cases hz : rest = []
      · rw [show (!decide (rest.map V.int = [])) = false by subst hz; rfl]
        refine iteF ⟨_, rfl, q Fd _ fnd (sx.trans (SameX.of sL)) ?_ nF' (sL _ _ eF) (by subst hz; simpa using hlen) (fun y hy => hmem y (List.mem_append_right _ hy))⟩
        have e : (fnd.length : Int) = xs.length := by subst hz; simp at hlen; omega
        rw [← e]
        obtain ⟨c, kk, d, e, h⟩ := src
        exact ⟨c, kk, d, sL _ _ e, h⟩
      · rw [show (!decide (rest.map V.int = [])) = true by rw [decide_eq_false (fun z => hz (List.map_eq_nil_iff.mp z))]; rfl]
        have lz : 0 < rest.length := List.length_pos_iff.mpr hz
        refine iteT ⟨fun σ' H'' => ∃ rest2 fnd2 : List Int, rest2.length < rest.length ∧ σ' = [some (.ref a), some (.ref b), some (.ref R), some (.ref Fd)] ∧ SameX a H H'' ∧ SrcAt H'' a (k + fnd2.length) ∧ H'' R = some (.lst (rest2.map V.int)) ∧ H'' Fd = some (.lst (fnd2.map V.int)) ∧
          rest2.length + fnd2.length = xs.length ∧ (∀ y ∈ rest2 ++ fnd2, y ∈ xs), fun σ' H'' ⟨r2, f2, h1, h2, h3⟩ => ⟨_, h1, r2, f2, rfl, h2, h3⟩, ?_⟩
        have eR1 := sL _ _ eR
        have eF1 := sL _ _ eF
        have src1 : SrcAt (upd H' L (.lst [])) a (k + fnd.length) := by
          obtain ⟨c, kk, d, e, h⟩ := src
          exact ⟨c, kk, d, sL _ _ e, h⟩
        refine ⟨_, rfl, .inl ⟨rfl, _, SqL.of eF1⟩, _, rfl, .inl ⟨rfl, _, SqL.of eR1⟩, _, rfl, _, rfl, R, _, rfl, .inl (SqL.of eR1), a, k + fnd.length, _, rfl, src1, by omega, by rw [List.length_map]; omega, by rw [List.length_map]; omega, fun r H2 r0 r1 sx2 src2 => ?_⟩
        rw [List.length_map] at r1
        obtain ⟨j, rfl⟩ := Int.eq_ofNat_of_zero_le r0
        have jl : j < rest.length := by omega
        have eR2 := sx2 _ _ hRa eR1
        have eF2 := sx2 _ _ hFa eF1
        refine ⟨R, _, _, j, V.int rest[j], rfl, rfl, eR2, by omega, by omega, ?_, ?_, ?_⟩
        · rw [List.length_map]
          exact (ixN_seq (by unfold ixN; rw [if_pos r0, if_pos (by omega)]; rfl)).1
        · rw [List.getElem?_map, List.getElem?_eq_getElem jl]; rfl
        refine ⟨Fd, _, _, rfl, rfl, by rw [upd_ne hFR]; exact eF2, by rw [List.length_map, sizeLine_eq]; omega, ?_⟩
        refine ⟨rest.eraseIdx j, fnd ++ [rest[j]], ?_, rfl, ?_, ?_, ?_, ?_, ?_, ?_⟩
        · rw [List.length_eraseIdx_of_lt jl]; omega
        · intro b' o hb' e
          have hbR : b' ≠ R := ne_of_none e nR
          have hbF : b' ≠ Fd := ne_of_none e nF'
          rw [upd_ne hbF, upd_ne hbR]
          exact sx2 _ _ hb' (sL _ _ (sx _ _ hb' e))
        · obtain ⟨c, kk, d, e, h1, h2, h3⟩ := src2
          refine ⟨c, kk, d, by rw [upd_ne hFa.symm, upd_ne hRa.symm]; exact e, h1, ?_, h3⟩
          rw [List.length_append, List.length_singleton]; omega
        · rw [upd_ne hFR.symm, upd_same, map_eraseIdx']
        · rw [upd_same, List.map_append]; rfl
        · rw [List.length_eraseIdx_of_lt jl, List.length_append, List.length_singleton]; omega
        · intro y hy
          rcases List.mem_append.mp hy with z | z
          · exact hmem y (List.mem_append_left _ (List.mem_of_mem_eraseIdx z))
          · rcases List.mem_append.mp z with z | z
            · exact hmem y (List.mem_append_right _ z)
            · rw [List.mem_singleton.mp z]
              exact hmem _ (List.mem_append_left _ (List.getElem_mem jl))
end
end Fl
-- D10
namespace Fl
open PySem PySem.Spec PyProof.Rows L2
abbrev nAny : List Str := ["_law_source_here", "_law_nodes", "_law_edges", "_law_rotations", "_law_many", "_law_dart", "_law_node", "_law_rotation"]
abbrev nGLines : List Str := ["_law_graph", "_law_many", "_law_found", "_law_rotation", "_law_dart"]
theorem scAny : FnScope nAny ["_law_source_here", "_law_nodes", "_law_edges"] (defScope sAny) := ⟨rfl, rfl, rfl, by decide +kernel, rfl, by decide +kernel, by decide +kernel⟩
theorem scGLines : FnScope nGLines ["_law_graph"] (defScope sGLines) := ⟨rfl, rfl, rfl, by decide +kernel, rfl, by decide +kernel, by decide +kernel⟩
theorem SrcAt.le {H : Hp} {a : Addr} {k l : Int} (h : SrcAt H a k) (hl : k ≤ l) : SrcAt H a l := by
  obtain ⟨c, kk, d, e, h1, h2, h3⟩ := h
  exact ⟨c, kk, d, e, h1, Int.le_trans h2 hl, h3⟩
theorem SrcAt.same {H H' : Hp} {a : Addr} {k : Int} (h : SrcAt H a k) (s : Same H H') : SrcAt H' a k := by
  obtain ⟨c, kk, d, e, h⟩ := h
  exact ⟨c, kk, d, s _ _ e, h⟩
theorem SrcAt.upd {H : Hp} {a b : Addr} {o : HO} {k : Int} (h : SrcAt H a k) (n : a ≠ b) : SrcAt (upd H b o) a k := by
  obtain ⟨c, kk, d, e, h⟩ := h
  exact ⟨c, kk, d, by rw [upd_ne n]; exact e, h⟩
def rTupOf (K : PySem.W.Frag) : List V → Hp → VK → Prop := fun xs H Q => ∃ p ys, xs = [V.ref p] ∧ ((SqL K H p ys ∧ ∀ l, H l = none → Q (.ref l) (upd H l (.tup ys))) ∨ (SqT K H p ys ∧ Q (.ref p) H))
theorem call_tupOf {X : Cx} : CallR X (.type "tuple") (rTupOf X.K) := call_tuple_of
theorem flat_nils : ∀ l : List Addr, (l.map fun _ => ([] : List Int)).flatten = []
  | [] => rfl
  | _ :: l => by rw [List.map_cons, List.flatten_cons, flat_nils l]; rfl
theorem flat_set {rs : List (List Int)} {j : Nat} {r : List Int} {d : Int} (h : rs[j]? = some r) :
    (rs.set j (r ++ [d])).flatten.length = rs.flatten.length + 1 ∧ ∀ x ∈ (rs.set j (r ++ [d])).flatten, x ∈ rs.flatten ∨ x = d := by
  induction rs generalizing j with
  | nil => cases h
  | cons q rs ih =>
    cases j with
    | zero =>
      have e : q = r := Option.some.inj h
      subst e
      rw [List.set_cons_zero, List.flatten_cons, List.flatten_cons]
      refine ⟨by simp; omega, fun x hx => ?_⟩
      simp only [List.mem_append, List.mem_singleton] at hx ⊢
      rcases hx with (z | z) | z
      · exact .inl (.inl z)
      · exact .inr z
      · exact .inl (.inr z)
    | succ j =>
      obtain ⟨h1, h2⟩ := ih (j := j) h
      rw [List.set_cons_succ, List.flatten_cons, List.flatten_cons]
      refine ⟨by rw [List.length_append, List.length_append, h1]; omega, fun x hx => ?_⟩
      rcases List.mem_append.mp hx with z | z
      · exact .inl (List.mem_append_left _ z)
      · rcases h2 x z with z | z
        · exact .inl (List.mem_append_right _ z)
        · exact .inr z
section
variable {P : Program} {w : World} {K : PySem.W.Frag} {mg : Str → Option Value} {base : Heap}
/-- what the law's graphs keep to -/
def GrLaw (g : List (List Int)) : Prop := 1 ≤ g.length ∧ g.length ≤ 6 ∧ g.flatten.length ≤ 14 ∧ ∀ d ∈ g.flatten, 0 ≤ d ∧ d < 14
def spAny : Sp := fun vs H Q _ => ∃ (a : Addr) (k : Int), vs = [.ref a, .int 6, .int 7] ∧ SrcAt H a k ∧ 0 ≤ k ∧ k ≤ 800000 ∧ ∀ p H' g, SameX a H H' → SrcAt H' a (k + 40) → GrAt H' p g → GrLaw g → Q (.ref p) H'
theorem ok_any {f fX fM : Addr} {fd fdX fdM : FuncData} (F : Fun K "_law_any_graph" "_law_any_graph" sAny f fd) (FX : FnOk P w K mg base CX0 1 fX fdX ["_law_source_here", "_law_many"] spNext) (bX : Binds K fdX ["_law_source_here", "_law_many"] []) (gX : mg "_law_next" = some (.ref fX)) (kX : PySem.W.keepIn K (.ref fX) = true)
    (FM : FnOk P w K mg base CX0 2 fM fdM ["_law_source_here", "_law_items"] spMixed) (bM : Binds K fdM ["_law_source_here", "_law_items"] []) (gM : mg "_law_mixed" = some (.ref fM)) (kM : PySem.W.keepIn K (.ref fM) = true)
    (ml : mg "len" = none) (mL : mg "list" = none) (mr : mg "range" = none) (mt : mg "tuple" = none) : FnOk P w K mg base CX0 3 f fd ["_law_source_here", "_law_nodes", "_law_edges"] spAny := by
  refine F.ok scAny (fun vs H Q E h => ?_) (fun cdv A outer s H vs Q E hr h => ?_)
  · obtain ⟨p, k, rfl, _⟩ := h
    rfl
  · obtain ⟨a, k, rfl, hs, k0, k1, q⟩ := h
    have hr1 : Room 1 _ := hr.mono (by decide)
    refine ⟨_, pss_cons (ps_setLc (i := 3) (own := [("_law_node", 6)]) (g := gName 6) (tt := tYes) rfl scAny.nd rfl rfl (sw_true rfl rfl rfl (by decide +kernel)) (pi_range1 (by rfl) mr (pa_cons (pe_op op_add pe_int (pe_call FX hr1 (by rfl) gX kX bX .nil pass0 (pa_cons (pv 0) (pa_cons (pv 1) pa_nil)))) pa_nil))
          (blkOk_by (own := [("_law_node", 6)]) (N := nAny) (sc := defScope sAny) (by decide +kernel)) (fun _ _ _ _ _ => pg_name (i := 6) scAny.nd rfl (Or.inl rfl)) (fun _ _ _ _ _ => pts_nil) (fun _ _ _ _ _ => pe_lst pa_nil))
      (pss_cons (ps_set (i := 4) scAny.nd rfl (.inl rfl) (pe_call FX hr1 (by rfl) gX kX bX .nil pass0 (pa_cons (pv 0) (pa_cons (pe_op op_add (pv 2) pe_int) pa_nil))))
      (pss_cons (ps_for PassesOwn.never rfl (pi_list (pe_call FM hr (by rfl) gM kM bM .nil pass0 (pa_cons (pv 0) (pa_cons (pe_listRg rfl (by rfl) mL (prg_1 (by rfl) mr (pe_op op_mul pe_int (pv 4)))) pa_nil)))) (pg_name (i := 5) scAny.nd rfl (.inl rfl))
        (pss_one (ps_expr (pe_bm PySem.F.plainAttrs_list PySem.F.slot_list_append PySem.F.type_list_append mt_append (pe_ix ix_list (pv 3) (pe_call FX hr1 (by rfl) gX kX bX .nil pass0 (pa_cons (pv 0) (pa_cons (pe_callB call_len_seq (by rfl) ml PySem.boot_len (pa_cons (pv 3) pa_nil)) pa_nil))) (fun _ _ => rfl)) (pa_cons (pv 5) pa_nil)))))
      (pss_one (ps_ret (pe_callTy call_tuple_of (by rfl) mt (by decide +kernel) (pa_cons (pe_lc (own := [("_law_rotation", 7)]) (g := gName 7) (tt := tYes) rfl scAny.nd (pi_list (pv 3)) (blkOk_by (own := [("_law_rotation", 7)]) (N := nAny) (sc := defScope sAny) (by decide +kernel))
          (fun _ _ _ _ _ => pg_name (i := 7) scAny.nd rfl (Or.inl rfl)) (fun _ _ _ _ _ => pts_nil) (fun _ _ _ _ _ => pe_callTy (r := rTupOf K) call_tupOf (by rfl) mt (by decide +kernel) (pa_cons (pv 7) pa_nil))) pa_nil)))))), ?_⟩
    obtain ⟨c0, kk0, d0, ha, _⟩ := id hs
    -- rotations
    refine ⟨_, rfl, _, rfl, a, k, _, rfl, hs, by omega, by decide, by decide, fun r H1 r0 r1 x1 s1 => ?_⟩
    obtain ⟨n, rfl⟩ := Int.eq_ofNat_of_zero_le r0
    refine ⟨_, _, rfl, rfl, _, rfl, by omega, by omega, fun D nD => ?_⟩
    rw [show (1 + (n : Int)).toNat = n + 1 by omega]
    have hDa : D ≠ a := fun z => by
      obtain ⟨_, _, _, e, _⟩ := s1
      rw [z, e] at nD
      cases nD
    refine lc_range (fun i H' => ∃ ps : List Addr, H' D = some (.lst (ps.map V.ref)) ∧ ps.length = i ∧ ps.Nodup ∧ (∀ q ∈ ps, H' q = some (.lst []) ∧ H1 q = none ∧ q ≠ D) ∧ Same H1 H') ?_ ?_ ?_
    · exact ⟨[], upd_same, rfl, by simp, by simp, same_upd nD⟩
    · rintro i H' hi ⟨ps, e1, e2, e3, e4, e5⟩
      refine ⟨wipe1 _ 6 _, tYes_of (iteT ?_)⟩
      refine ⟨by show 0 ≤ sizeLine; exact Nat.zero_le _, fun L nL => ?_⟩
      have hLD : L ≠ D := fun z => by rw [z, e1] at nL; cases nL
      refine ⟨_, by rw [upd_ne hLD.symm]; exact e1, by rw [List.length_map, e2, sizeLine_eq]; omega, ps ++ [L], ?_, ?_, ?_, ?_, ?_⟩
      · rw [upd_same, List.map_append]; rfl
      · rw [List.length_append, e2]; rfl
      · refine List.nodup_append.mpr ⟨e3, by simp, fun x hx y hy z => ?_⟩
        rw [List.mem_singleton.mp hy] at z
        have := (e4 x hx).1
        rw [z, nL] at this
        cases this
      · intro q hq
        rcases List.mem_append.mp hq with z | z
        · obtain ⟨h1, h2, h3⟩ := e4 q z
          exact ⟨by rw [upd_ne h3, upd_ne (ne_of_none h1 nL)]; exact h1, h2, h3⟩
        · rw [List.mem_singleton.mp z]
          exact ⟨by rw [upd_ne hLD, upd_same], e5.free nL, hLD⟩
      · exact same_upd2 nD (e5.trans (same_upd nL))
    rintro H2 ⟨ps, e1, e2, e3, e4, e5⟩
    have x2 := x1.trans (SameX.of e5)
    have s2 := s1.same e5
    have pH : ∀ q ∈ ps, H q = none ∧ q ≠ a := fun q hq => by
      obtain ⟨h1, h2, h3⟩ := e4 q hq
      have hqa : q ≠ a := fun z => by
        obtain ⟨_, _, _, e, _⟩ := s1
        rw [z, e] at h2
        cases h2
      refine ⟨?_, hqa⟩
      cases z : H q with
      | none => rfl
      | some o => rw [x1 _ _ hqa z] at h2; cases h2
    have hDn : H D = none := by
      cases z : H D with
      | none => rfl
      | some o => rw [x1 _ _ hDa z] at nD; cases nD
    -- many
    refine ⟨_, rfl, _, rfl, _, _, rfl, rfl, a, k + 1, _, rfl, s2, by omega, by decide, by decide, fun m H3 m0 m1 x3 s3 => ?_⟩
    have m1 : m < 8 := m1
    -- mixed(source, list(range(2 * many)))
    refine ⟨_, rfl, _, rfl, _, _, rfl, rfl, .inl ⟨by decide, by decide⟩, _, rfl, RgOk.of_le (by decide) (by omega) (by decide) (by omega), fun B nB => ?_⟩
    have hrg : rgV 0 (2 * m) = ((List.range (2 * m).toNat).map fun i : Nat => (i : Int)).map V.int := by
      unfold rgV
      rw [List.map_map, show 2 * m - 0 = 2 * m by omega]
      apply List.map_congr_left
      intro i _
      show V.int (0 + (i : Int)) = V.int (i : Int)
      rw [Int.zero_add]
    rw [hrg]
    have hlen : ((List.range (2 * m).toNat).map fun i : Nat => (i : Int)).length ≤ 14 := by rw [List.length_map, List.length_range]; omega
    refine ⟨a, B, k + 1 + 1, _, rfl, s3.same (same_upd nB), by omega, by omega, upd_same, by omega, fun W H4 ys x4 s4 nW eW yl ym => ?_⟩
    have ym : ∀ y ∈ ys, 0 ≤ y ∧ y < 14 := fun y hy => by
      obtain ⟨i, hi, rfl⟩ := List.mem_map.mp (ym y hy)
      have := List.mem_range.mp hi
      omega
    have s4 : SrcAt H4 a (k + 16) := s4.le (by omega)
    have x34 : SameX a H2 H4 := x3.trans ((SameX.of (same_upd nB)).trans x4)
    have xH4 := x2.trans x34
    have eD4 := x34 _ _ hDa e1
    have hps4 : ∀ q ∈ ps, H4 q = some (.lst []) := fun q hq => x34 _ _ (pH q hq).2 (e4 q hq).1
    have hWa : W ≠ a := fun z => by
      obtain ⟨_, _, _, e, _⟩ := s3.same (same_upd (o := .lst (((List.range (2 * m).toNat).map fun i : Nat => (i : Int)).map V.int)) nB)
      rw [z, e] at nW
      cases nW
    have hWp : ∀ q ∈ ps, q ≠ W := fun q hq z => by
      have := x3 _ _ (pH q hq).2 (e4 q hq).1
      have := same_upd (o := .lst (((List.range (2 * m).toNat).map fun i : Nat => (i : Int)).map V.int)) nB _ _ this
      rw [z, nW] at this
      cases this
    clear hrg hlen e5 s1 s2 x1 x2 x3 x4 e1 s3 nB nW
    refine ⟨W, rfl, ⟨_, SqL.of eW⟩, ?_⟩
    refine for_list (K := K) (a := W) (xs := ys.map V.int) (fun i σ H' => ∃ (v5 : Option V) (rs : List (List Int)), σ = [some (.ref a), some (.int 6), some (.int 7), some (.ref D), some (.int m), v5, none, none] ∧ SameX a H H' ∧ SrcAt H' a (k + 16 + i) ∧
      H' W = some (.lst (ys.map V.int)) ∧ H' D = some (.lst (ps.map V.ref)) ∧ Paired (fun q (r : List Int) => H' q = some (.lst (r.map V.int))) ps rs ∧ rs.flatten.length = i ∧ ∀ d ∈ rs.flatten, 0 ≤ d ∧ d < 14) ?_ ?_ ?_ ?_
    · refine ⟨none, ps.map fun _ => [], rfl, xH4, s4.le (by omega), eW, eD4, ?_, ?_, ?_⟩
      · clear eD4 hWp pH e3 e4 e2
        induction ps with
        | nil => exact .nil
        | cons q ps ih => exact .cons (hps4 q List.mem_cons_self) (ih fun q hq => hps4 q (List.mem_cons_of_mem _ hq))
      · rw [flat_nils]; rfl
      · rw [flat_nils]; simp
    · rintro i σ H' _ ⟨v5, rs, rfl, x, s, eW', eD', pr, l, mm⟩
      exact SqL.of eW'
    · rintro i x σ H' hx ⟨v5, rs, rfl, xx, ss, eW', eD', pr, l, mm⟩
      rw [List.getElem?_map] at hx
      obtain ⟨d, hd, rfl⟩ : ∃ d, ys[i]? = some d ∧ x = V.int d := by
        cases z : ys[i]? with
        | none => rw [z] at hx; cases hx
        | some d => rw [z] at hx; exact ⟨d, rfl, (Option.some.inj hx).symm⟩
      have hi : i < 14 := by
        have := (List.getElem?_eq_some_iff.mp hd).1
        rw [yl, List.length_map, List.length_range] at this
        omega
      refine ⟨_, rfl, _, rfl, _, rfl, D, _, rfl, .inl (SqL.of eD'), a, _, _, rfl, ss, by omega, by rw [List.length_map, e2]; omega, by rw [List.length_map, e2]; omega, fun j H5 j0 j1 x5 s5 => ?_⟩
      obtain ⟨j, rfl⟩ := Int.eq_ofNat_of_zero_le j0
      rw [List.length_map] at j1
      have jl : j < ps.length := by omega
      have hq : ps[j]? = some ps[j] := List.getElem?_eq_getElem jl
      have hqm := List.getElem_mem jl
      obtain ⟨r, hr', er⟩ := Paired.getL pr hq
      have er5 := x5 _ _ (pH _ hqm).2 er
      refine ⟨D, _, _, .ref ps[j], rfl, rfl, SqL.of (x5 _ _ hDa eD'), atI_nat (by rw [List.getElem?_map, hq]; rfl), .inl ⟨rfl, _, SqL.of er5⟩, _, rfl, ps[j], _, _, rfl, rfl, er5, ?_, ?_⟩
      · obtain ⟨h1, h2⟩ := flat_set (d := d) hr'
        have h3 : r.length ≤ rs.flatten.length := by
          have := congrArg List.length (flat_at hr')
          rw [List.length_append, List.length_append] at this
          omega
        rw [List.length_map, sizeLine_eq]
        omega
      · obtain ⟨h1, h2⟩ := flat_set (d := d) hr'
        refine ⟨_, rs.set j (r ++ [d]), rfl, ?_, ?_, ?_, ?_, ?_, by rw [h1, l], ?_⟩
        · intro b o hb e
          rw [upd_ne (ne_of_none e (pH _ hqm).1)]
          exact x5 _ _ hb (xx _ _ hb e)
        · refine SrcAt.upd (s5.le ?_) (pH _ hqm).2.symm
          omega
        · rw [upd_ne (hWp _ hqm).symm]; exact x5 _ _ hWa eW'
        · rw [upd_ne (e4 _ hqm).2.2.symm]; exact x5 _ _ hDa eD'
        · -- the pairs, one of them longer
          have gen : ∀ (qs : List Addr) (ts : List (List Int)) (j : Nat) (q : Addr) (r : List Int), qs.Nodup → (∀ q ∈ qs, q ≠ a) → qs[j]? = some q → ts[j]? = some r → Paired (fun q (r : List Int) => H' q = some (.lst (r.map V.int))) qs ts →
              Paired (fun q2 (r2 : List Int) => (upd H5 q (.lst (r.map V.int ++ [V.int d]))) q2 = some (.lst (r2.map V.int))) qs (ts.set j (r ++ [d])) := by
            intro qs
            induction qs with
            | nil => intro ts j q r _ _ hj; cases hj
            | cons q0 qs ih =>
              intro ts j q r nd na hj ht hp
              cases hp with
              | cons e hp =>
                rename_i t0 ts
                have nd' := List.nodup_cons.mp nd
                cases j with
                | zero =>
                  have e0 : q0 = q := Option.some.inj hj
                  have e00 : t0 = r := Option.some.inj ht
                  subst e0 e00
                  rw [List.set_cons_zero]
                  refine .cons (by rw [upd_same, List.map_append]; rfl) ?_
                  clear ih hj ht e
                  -- the others stand
                  have other : ∀ (qs : List Addr) (ts : List (List Int)), q0 ∉ qs → (∀ q ∈ qs, q ≠ a) → Paired (fun q (r : List Int) => H' q = some (.lst (r.map V.int))) qs ts →
                      Paired (fun q2 (r2 : List Int) => (upd H5 q0 (.lst (t0.map V.int ++ [V.int d]))) q2 = some (.lst (r2.map V.int))) qs ts := by
                    intro qs
                    induction qs with
                    | nil => intro ts _ _ hp; cases hp; exact .nil
                    | cons x qs ih =>
                      intro ts hno hna hp
                      cases hp with
                      | cons e hp =>
                        exact .cons (by rw [upd_ne (fun z => hno (by rw [← z]; exact List.mem_cons_self))]; exact x5 _ _ (hna x List.mem_cons_self) e) (ih _ (fun z => hno (List.mem_cons_of_mem _ z)) (fun q hq => hna q (List.mem_cons_of_mem _ hq)) hp)
                  exact other qs ts nd'.1 (fun q hq => na q (List.mem_cons_of_mem _ hq)) hp
                | succ j =>
                  rw [List.set_cons_succ]
                  have hjm : q ∈ qs := List.mem_of_getElem? (i := j) hj
                  exact .cons (by rw [upd_ne (fun z => nd'.1 (by rw [z]; exact hjm))]; exact x5 _ _ (na q0 List.mem_cons_self) e) (ih _ j q r nd'.2 (fun q hq => na q (List.mem_cons_of_mem _ hq)) hj ht hp)
          exact gen ps rs j ps[j] r e3 (fun q hq => (pH q hq).2) hq hr' pr
        · intro x hx
          rcases h2 x hx with z | z
          · exact mm x z
          · rw [z]; exact ym d (List.mem_of_getElem? hd)
    · rintro σ H5 ⟨v5, rs, rfl, xx, ss, eW', eD', pr, l, mm⟩
      have rl : ps.length = rs.length := pr.length
      have yl14 : ys.length ≤ 14 := by rw [yl, List.length_map, List.length_range]; omega
      rw [List.length_map] at ss l
      refine ⟨_, rfl, D, rfl, ⟨_, SqL.of eD'⟩, fun G nG => ?_⟩
      refine lc_list (K := K) (a := D) (xs := ps.map V.ref) (fun i H' => ∃ ts : List Addr, H' G = some (.lst (ts.map V.ref)) ∧ ts.length = i ∧ Paired (fun q (r : List Int) => H' q = some (.tup (r.map V.int))) ts (rs.take i) ∧ Same H5 H') ⟨[], upd_same, rfl, .nil, same_upd nG⟩ ?_ ?_ ?_
      · rintro i H' _ ⟨ts, h1, h2, h3, h4⟩
        exact SqL.of (h4 _ _ eD')
      · rintro i x H' hx ⟨ts, h1, h2, h3, h4⟩
        rw [List.getElem?_map] at hx
        obtain ⟨q', hq', rfl⟩ : ∃ q', ps[i]? = some q' ∧ x = V.ref q' := by
          cases z : ps[i]? with
          | none => rw [z] at hx; cases hx
          | some d => rw [z] at hx; exact ⟨d, rfl, (Option.some.inj hx).symm⟩
        obtain ⟨r, hr', er⟩ := Paired.getL pr hq'
        have il := (List.getElem?_eq_some_iff.mp hr').1
        refine ⟨wipe1 _ 7 _, tYes_of (iteT ?_)⟩
        refine ⟨_, rfl, q', _, rfl, .inl ⟨SqL.of (h4 _ _ er), fun L nL => ?_⟩⟩
        have hGL : G ≠ L := ne_of_none h1 nL
        have hLG : L ≠ G := hGL.symm
        refine ⟨_, by rw [upd_ne hGL]; exact h1, by rw [List.length_map, h2, sizeLine_eq]; omega, ts ++ [L], ?_, by rw [List.length_append, h2]; rfl, ?_, same_upd2 nG (h4.trans (same_upd nL))⟩
        · rw [upd_same, List.map_append]; rfl
        · rw [take_more hr']
          refine Paired.snoc (by rw [upd_ne hLG, upd_same]) (Paired.mapP h3 fun q r e => ?_)
          rw [upd_ne (ne_of e h1 (by intro z; cases z)), upd_ne (ne_of_none e nL)]
          exact e
      · rintro H6 ⟨ts, h1, h2, h3, h4⟩
        rw [List.length_map, rl, List.take_length] at h3
        refine ⟨G, _, rfl, .inl ⟨SqL.of h1, fun L nL => ?_⟩⟩
        refine q L _ rs (xx.trans (SameX.of (h4.trans (same_upd nL)))) (((ss.same h4).same (same_upd nL)).le (by omega)) ⟨ts, upd_same, Paired.mapP h3 fun q r e => same_upd nL _ _ e⟩ ⟨by omega, by omega, by omega, mm⟩
/-! ### _law_graph_lines -/
theorem str_app_len (a b : Str) : (a ++ b).length = a.length + b.length := by rw [TL.len_tl, TL.tl_append, List.length_append, ← TL.len_tl, ← TL.len_tl]
def spGLines : Sp := fun vs H Q _ => ∃ (p : Addr) (g : List (List Int)), vs = [.ref p] ∧ GrAt H p g ∧ GrLaw g ∧ ∀ q H' (ls : List (List Nat)), Same H H' → H q = none → H' q = some (.lst (txs ls)) → ls ≠ [] → wt ls ≤ 100 → Q (.ref q) H'
theorem ok_glines {f : Addr} {fd : FuncData} {k : Nat} (F : Fun K "_law_graph_lines" "_law_graph_lines" sGLines f fd) (ml : mg "len" = none) (ms : mg "sum" = none) (mst : mg "str" = none) : FnOk P w K mg base CX0 (k + 1) f fd ["_law_graph"] spGLines := by
  refine F.ok scGLines (fun vs H Q E h => ?_) (fun cdv A outer s H vs Q E hr h => ?_)
  · obtain ⟨p, g, rfl, _⟩ := h
    rfl
  · obtain ⟨p, g, rfl, hg, ⟨g1, g6, f14, gm⟩, q⟩ := h
    refine ⟨_, pss_cons (ps_set (i := 1) scGLines.nd rfl (.inl rfl) (pe_callB (cr_sum rfl) (by rfl) ms (by decide +kernel) (pa_cons (pe_lc (own := [("_law_rotation", 3)]) (g := gName 3) (tt := tYes) rfl scGLines.nd (pi_tup (pv 0)) (blkOk_by (own := [("_law_rotation", 3)]) (N := nGLines) (sc := defScope sGLines) (by decide +kernel))
          (fun _ _ _ _ _ => pg_name (i := 3) scGLines.nd rfl (Or.inl rfl)) (fun _ _ _ _ _ => pts_nil) (fun _ _ _ _ _ => pe_callB (r := rLenS K) call_lenS (by rfl) ml PySem.boot_len (pa_cons (pv 3) pa_nil))) pa_nil)))
      (pss_cons (ps_set (i := 2) scGLines.nd rfl (.inl rfl) (pe_lst (pa_cons (pe_op op_add_str (pe_op op_add_str (pe_op op_add_str pe_str (pe_callTy call_str_int (by rfl) mst (by decide +kernel) (pa_cons (pe_callB call_len_seq (by rfl) ml PySem.boot_len (pa_cons (pv 0) pa_nil)) pa_nil))) pe_str)
          (pe_callTy call_str_int (by rfl) mst (by decide +kernel) (pa_cons (pe_op op_fdiv (pv 1) pe_int) pa_nil))) pa_nil)))
      (pss_cons (ps_for PassesOwn.never rfl (pi_tup (pv 0)) (pg_name (i := 3) scGLines.nd rfl (.inl rfl))
        (pss_one (ps_expr (pe_bm PySem.F.plainAttrs_list PySem.F.slot_list_append PySem.F.type_list_append mt_append (pv 2) (pa_cons (pe_join pe_str (pe_op op_cat (pe_lst (pa_cons pe_str pa_nil)) (pe_lc (own := [("_law_dart", 4)]) (g := gName 4) (tt := tYes) rfl scGLines.nd (pi_tup (pv 3)) (blkOk_by (own := [("_law_dart", 4)]) (N := nGLines) (sc := defScope sGLines) (by decide +kernel))
          (fun _ _ _ _ _ => pg_name (i := 4) scGLines.nd rfl (Or.inl rfl)) (fun _ _ _ _ _ => pts_nil) (fun _ _ _ _ _ => pe_callTy (r := fun xs H Q => ∃ i, xs = [.int i] ∧ i.natAbs.log2 < 1920 ∧ Q (.str (toString i)) H) call_str_int (by rfl) mst (by decide +kernel) (pa_cons (pv 4) pa_nil))))) pa_nil)))))
      (pss_one (ps_ret (pv 2))))), ?_⟩
    obtain ⟨ps, eg, ePs⟩ := id hg
    have plen : ps.length = g.length := ePs.length
    have slen : (ps.map V.ref).length < sizeLine := by rw [List.length_map, plen, sizeLine_eq]; omega
    -- many
    refine ⟨_, rfl, p, rfl, ⟨_, SqT.of eg⟩, fun D2 n2 => ?_⟩
    refine lc_mapT (K := K) (xs := ps.map V.ref) (ys := (g.map fun r => (r.length : Int)).map V.int) (SqT.of eg) n2 slen (by simp [plen]) ?_ ?_
    · intro i x y H' Q' hx hy s2 hq
      rw [List.getElem?_map] at hx
      obtain ⟨q', hq', rfl⟩ : ∃ q', ps[i]? = some q' ∧ x = V.ref q' := by
        cases z : ps[i]? with
        | none => rw [z] at hx; cases hx
        | some d => rw [z] at hx; exact ⟨d, rfl, (Option.some.inj hx).symm⟩
      obtain ⟨r, hr', er⟩ := Paired.getL ePs hq'
      rw [List.map_map, List.getElem?_map, hr'] at hy
      have ey : V.int (r.length : Int) = y := Option.some.inj hy
      subst ey
      refine ⟨_, rfl, q', _, rfl, .inr (SqT.of (s2 _ _ er)), ?_⟩
      rw [List.length_map]
      exact hq _ (Same.refl _)
    intro H2 s2 eD2
    refine ⟨D2, _, rfl, SqL.of eD2, ?_⟩
    rw [sum_lens]
    -- found
    have nlen : ∀ n : Nat, n < 1000 → (Str.ofString (toString ((n : Nat) : Int))).length ≤ 3 := fun n hn => by
      rw [str_num, SX.S_len]
      exact TL.numL_len (by decide) (by omega)
    have l1 := nlen (ps.map V.ref).length (by rw [List.length_map]; omega)
    have l2 := nlen (g.flatten.length / 2) (by omega)
    have eN : (g.flatten.length : Int) / 2 = ((g.flatten.length / 2 : Nat) : Int) := by omega
    have lg : (Str.ofString "graph ").length = 6 := by decide +kernel
    have ls1 : (Str.ofString " ").length = 1 := by decide +kernel
    refine ⟨_, rfl, p, _, rfl, .inr (SqT.of (s2 _ _ eg)), _, rfl, log_small ⟨by omega, by rw [List.length_map]; omega⟩, _, _, rfl, rfl, by rw [lg, sizeLine_eq]; omega, _, _, rfl, rfl, by rw [str_app_len, lg, ls1, sizeLine_eq]; omega,
      _, rfl, _, _, rfl, rfl, ⟨by decide, by decide⟩, _, rfl, log_small ⟨by show 0 ≤ (g.flatten.length : Int) / 2; omega, by show (g.flatten.length : Int) / 2 < 1000; omega⟩, _, _, rfl, rfl, by rw [str_app_len, str_app_len, lg, ls1, eN, sizeLine_eq]; omega, by show 1 ≤ sizeLine; rw [sizeLine_eq]; decide, fun L nL => ?_⟩
    rw [eN]
    obtain ⟨hd, ehd, hdl⟩ : ∃ hd : List Nat, Str.ofString "graph " ++ Str.ofString (toString (((ps.map V.ref).length : Nat) : Int)) ++ Str.ofString " " ++ Str.ofString (toString ((g.flatten.length / 2 : Nat) : Int)) = SX.S hd ∧ hd.length ≤ 13 := by
      refine ⟨_, (SX.S_tl _).symm, ?_⟩
      rw [← SX.S_len, SX.S_tl, str_app_len, str_app_len, str_app_len, lg, ls1]
      omega
    rw [ehd]
    have hLn : H L = none := s2.free nL
    have s3 : Same H (upd H2 L (.lst [.str (SX.S hd)])) := s2.trans (same_upd nL)
    -- for rotation in graph
    refine ⟨_, rfl, p, rfl, ⟨_, SqT.of (s3 _ _ eg)⟩, ?_⟩
    refine for_tup (K := K) (xs := ps.map V.ref) (fun i σ H' => ∃ (v1 v3 : Option V) (ls : List (List Nat)), σ = [some (.ref p), v1, some (.ref L), v3, none] ∧ Same H H' ∧ H' L = some (.lst (txs ls)) ∧ ls ≠ [] ∧ wt ls ≤ 14 + 6 * i + 3 * (g.take i).flatten.length) ?_ ?_ ?_ ?_
    · refine ⟨_, none, [hd], rfl, s3, upd_same, by simp, ?_⟩
      rw [wt_cons, wt_nil]
      simp
      omega
    · rintro i σ H' _ ⟨v1, v3, ls, rfl, s, _⟩
      exact SqT.of (s _ _ eg)
    · rintro i x σ H' hx ⟨v1, v3, ls, rfl, s, eL, hne, hw⟩
      rw [List.getElem?_map] at hx
      obtain ⟨q', hq', rfl⟩ : ∃ q', ps[i]? = some q' ∧ x = V.ref q' := by
        cases z : ps[i]? with
        | none => rw [z] at hx; cases hx
        | some d => rw [z] at hx; exact ⟨d, rfl, (Option.some.inj hx).symm⟩
      obtain ⟨r, hr', er⟩ := Paired.getL ePs hq'
      have hmem : ∀ d ∈ r, 0 ≤ d ∧ d < 14 := fun d hd => gm d (List.mem_flatten.mpr ⟨r, List.mem_of_getElem? hr', hd⟩)
      have hft := flat_take hr'
      have hfl := flat_at hr'
      have hrl : (g.take i).flatten.length + r.length ≤ 14 := by
        have := congrArg List.length hfl
        rw [List.length_append, List.length_append] at this
        omega
      have hi : i < 6 := by
        have := (List.getElem?_eq_some_iff.mp hr').1
        omega
      refine ⟨_, rfl, .inl ⟨rfl, _, SqL.of eL⟩, ⟨_, rfl⟩, by show 1 ≤ sizeLine; rw [sizeLine_eq]; decide, fun M nM => ?_⟩
      have sM := s.trans (same_upd (o := .lst [.str (Str.ofString "node")]) nM)
      refine ⟨_, rfl, q', rfl, ⟨_, SqT.of (sM _ _ er)⟩, fun D hD => ?_⟩
      refine lc_mapT (K := K) (xs := r.map V.int) (ys := (r.map fun d => TL.numL d.toNat).map fun l => V.str (SX.S l)) (SqT.of (sM _ _ er)) hD (by rw [List.length_map, sizeLine_eq]; omega) (by simp) ?_ ?_
      · intro j x y H'' Q' hx hy s5 hq
        rw [List.getElem?_map] at hx
        obtain ⟨d, hd, rfl⟩ : ∃ d, r[j]? = some d ∧ x = V.int d := by
          cases z : r[j]? with
          | none => rw [z] at hx; cases hx
          | some d => rw [z] at hx; exact ⟨d, rfl, (Option.some.inj hx).symm⟩
        rw [List.map_map, List.getElem?_map, hd] at hy
        have ey : V.str (SX.S (TL.numL d.toNat)) = y := Option.some.inj hy
        have hdm := hmem d (List.mem_of_getElem? hd)
        refine ⟨_, rfl, d, rfl, log_small ⟨hdm.1, by omega⟩, ?_⟩
        obtain ⟨n, rfl⟩ := Int.eq_ofNat_of_zero_le hdm.1
        rw [str_num]
        subst ey
        exact hq _ (Same.refl _)
      intro H5 s5 eD
      have eM : H5 M = some (.lst [.str (Str.ofString "node")]) := s5 _ _ upd_same
      refine ⟨M, D, _, _, rfl, rfl, eM, eD, by rw [List.length_map, List.length_map, sizeLine_eq]; show 1 + _ ≤ _; omega, fun N nN => ?_⟩
      have hwords : wt (wNode :: r.map fun d => TL.numL d.toNat) ≤ 5 + 3 * r.length := by
        rw [wt_cons]
        have := wt_le (B := 2) (ps := r.map fun d => TL.numL d.toNat) (fun x hx => by
          obtain ⟨d, hd, rfl⟩ := List.mem_map.mp hx
          have := hmem d hd
          exact TL.numL_len (by decide) (by omega))
        rw [List.length_map] at this
        have e4 : wNode.length = 4 := rfl
        omega
      refine ⟨SX.S [32], N, (wNode :: r.map fun d => TL.numL d.toNat).map SX.S, congrArg V.str sp32, rfl, .inl (SqL.of ?_), join_lim 32 _ (by omega), ?_⟩
      · rw [upd_same, show Str.ofString "node" = SX.S wNode by decide +kernel]
        simp
      rw [SX.join_S]
      have jl := join_len 32 (wNode :: r.map fun d => TL.numL d.toNat)
      have s6 := (same_upd (o := .lst [.str (Str.ofString "node")]) nM).trans (s5.trans (same_upd (o := .lst ([.str (Str.ofString "node")] ++ (r.map fun d => TL.numL d.toNat).map fun l => V.str (SX.S l))) nN))
      refine ⟨L, _, _, rfl, rfl, s6 _ _ eL, ?_, ?_⟩
      · rw [List.length_map, sizeLine_eq]
        have := len_wt ls
        omega
      · refine ⟨_, _, ls ++ [TL.joinL [32] (wNode :: r.map fun d => TL.numL d.toNat)], rfl, same_upd2 hLn (s.trans s6), ?_, by simp, ?_⟩
        · rw [upd_same]
          unfold txs
          rw [List.map_append (l₁ := ls)]
          rfl
        · rw [wt_append, wt_cons, wt_nil, hft, List.length_append]
          omega
    · rintro σ H' ⟨v1, v3, ls, rfl, s, eL, hne, hw⟩
      refine ⟨_, rfl, q L H' ls s hLn eL hne ?_⟩
      rw [List.length_map, plen, List.take_length] at hw
      omega
end
end Fl
-- D11
set_option maxHeartbeats 4000000
namespace Fl
open PySem PySem.Spec PyProof.Rows L2
abbrev sChg : Stmt := topS 29
abbrev nChg : List Str := ["_law_source_here", "_law_lines", "_law_near", "_law_way", "_law_at", "_law_to", "_law_words", "_law_word", "_law_pick", "_law_spot", "_law_far", "_law_line", "_law_some"]
theorem scChg : FnScope nChg ["_law_source_here", "_law_lines", "_law_near"] (defScope sChg) := ⟨rfl, rfl, rfl, by decide +kernel, rfl, by decide +kernel, by decide +kernel⟩
theorem iteB {c : Bool} {p q : Prop} (h1 : c = true → p) (h2 : c = false → q) : if c = true then p else q := by
  cases c with
  | true => exact h1 rfl
  | false => exact h2 rfl
theorem txs_len (l : List (List Nat)) : (txs l).length = l.length := List.length_map _
theorem txs_app (l m : List (List Nat)) : txs l ++ txs m = txs (l ++ m) := (List.map_append ..).symm
theorem txs_get {l : List (List Nat)} {i : Nat} {x : List Nat} (h : l[i]? = some x) : (txs l)[i]? = some (.str (SX.S x)) := by
  unfold txs
  rw [List.getElem?_map, h]
  rfl
theorem txs_set (l : List (List Nat)) (i : Nat) (x : List Nat) : (txs l).set i (.str (SX.S x)) = txs (l.set i x) := by
  unfold txs
  rw [List.map_set]
theorem wt_td (l : List (List Nat)) (i : Nat) : wt (l.take i) + wt (l.drop i) = wt l := by rw [← wt_append, List.take_append_drop]
theorem wt_mid {l : List (List Nat)} {i : Nat} {x : List Nat} (h : l[i]? = some x) : wt (l.take i) + (x.length + 1) + wt (l.drop (i + 1)) = wt l := by
  have := wt_td l i
  rw [drop_at h, wt_cons] at this
  omega
theorem wt_set {l : List (List Nat)} {i : Nat} {x : List Nat} : wt (l.set i x) ≤ wt l + x.length + 1 := by
  induction l generalizing i with
  | nil => rw [List.set_nil, wt_nil]; omega
  | cons y l ih =>
    cases i with
    | zero => rw [List.set_cons_zero, wt_cons, wt_cons]; omega
    | succ i => rw [List.set_cons_succ, wt_cons, wt_cons]; have := ih (i := i); omega
theorem wt_erase {l : List (List Nat)} {i : Nat} : wt (l.eraseIdx i) ≤ wt l := by
  induction l generalizing i with
  | nil => rw [List.eraseIdx_nil]; exact Nat.le_refl _
  | cons y l ih =>
    cases i with
    | zero => rw [List.eraseIdx_cons_zero, wt_cons]; omega
    | succ i => rw [List.eraseIdx_cons_succ, wt_cons, wt_cons]; have := ih (i := i); omega
theorem cutTo (xs : List V) (n : Nat) : cutV xs none (some (n : Int)) = xs.take n := by
  unfold cutV
  rw [HT.sIx_none, HT.sIx_nat, List.drop_zero, Nat.sub_zero]
  rw [Nat.min_comm]
  by_cases h : n ≤ xs.length
  · rw [Nat.min_eq_right h]
  · rw [Nat.min_eq_left (by omega), List.take_of_length_le (Nat.le_refl _), List.take_of_length_le (by omega)]
theorem cutFrom (xs : List V) (n : Nat) : cutV xs (some (n : Int)) none = xs.drop n := by
  unfold cutV
  rw [HT.sIx_nat, HT.sIx_none]
  by_cases h : n ≤ xs.length
  · rw [Nat.min_eq_left h]
    exact List.take_of_length_le (by rw [List.length_drop]; exact Nat.le_refl _)
  · rw [Nat.min_eq_right (by omega), Nat.sub_self, List.take_zero, List.drop_eq_nil_of_le (by omega)]
theorem txs_take (l : List (List Nat)) (n : Nat) : (txs l).take n = txs (l.take n) := List.map_take.symm
theorem txs_drop (l : List (List Nat)) (n : Nat) : (txs l).drop n = txs (l.drop n) := List.map_drop.symm
section
variable {K : PySem.W.Frag} {σ : L2.St} {H : Hp} {b : Addr} {ls : List (List Nat)} {Q : VK}
theorem s_to {i : Nat} (h1 : σ[1]? = some (some (.ref b))) (h4 : σ[4]? = some (some (.int (i : Int)))) (eb : H b = some (.lst (txs ls))) (q : ∀ p, H p = none → Q (.ref p) (upd H p (.lst (txs (ls.take i))))) :
    tSl (rSlL K) (tVar 1) tNoPart (tPart (tVar 4)) σ H Q := by
  refine ⟨_, h1, _, h4, _, rfl, b, _, rfl, SqL.of eb, fun p hp => ?_⟩
  rw [cutTo, txs_take]
  exact q p hp
theorem s_from {i : Nat} (h1 : σ[1]? = some (some (.ref b))) (h4 : σ[4]? = some (some (.int (i : Int)))) (eb : H b = some (.lst (txs ls))) (q : ∀ p, H p = none → Q (.ref p) (upd H p (.lst (txs (ls.drop i))))) :
    tSl (rSlL K) (tVar 1) (tPart (tVar 4)) tNoPart σ H Q := by
  refine ⟨_, h1, _, h4, _, rfl, b, _, rfl, SqL.of eb, fun p hp => ?_⟩
  rw [cutFrom, txs_drop]
  exact q p hp
theorem s_from1 {i : Nat} (h1 : σ[1]? = some (some (.ref b))) (h4 : σ[4]? = some (some (.int (i : Int)))) (eb : H b = some (.lst (txs ls))) (q : ∀ p, H p = none → Q (.ref p) (upd H p (.lst (txs (ls.drop (i + 1)))))) :
    tSl (rSlL K) (tVar 1) (tPart (tOp (rI0 fun i j => V.int (i + j)) (tVar 4) (tC (V.int 1)))) tNoPart σ H Q := by
  refine ⟨_, h1, _, h4, _, _, rfl, rfl, _, rfl, b, _, rfl, SqL.of eb, fun p hp => ?_⟩
  rw [show (i : Int) + 1 = ((i + 1 : Nat) : Int) by omega, cutFrom, txs_drop]
  exact q p hp
theorem s_one (h1 : σ[1]? = some (some (.ref b))) (eb : H b = some (.lst (txs ls))) (q : ∀ p, H p = none → Q (.ref p) (upd H p (.lst (txs (ls.drop 1))))) :
    tSl (rSlL K) (tVar 1) (tPart (tC (V.int 1))) tNoPart σ H Q := by
  refine ⟨_, h1, _, rfl, b, _, rfl, SqL.of eb, fun p hp => ?_⟩
  rw [cut1, txs_drop]
  exact q p hp
/-- x + y of lists of texts -/
theorem r_cat {x y : Addr} {l m : List (List Nat)} (hx : H x = some (.lst (txs l))) (hy : H y = some (.lst (txs m))) (hl : l.length + m.length ≤ 100000) (q : ∀ p, H p = none → Q (.ref p) (upd H p (.lst (txs (l ++ m))))) : rCat (.ref x) (.ref y) H Q := by
  refine ⟨x, y, _, _, rfl, rfl, hx, hy, by rw [txs_len, txs_len, sizeLine_eq]; omega, fun p hp => ?_⟩
  rw [txs_app]
  exact q p hp
theorem one_sz : 1 ≤ sizeLine := by rw [sizeLine_eq]; decide
theorem cat_abs {x y : Addr} {l m : List (List Nat)} (hx : H x = some (.lst (txs l))) (hy : H y = some (.lst (txs m))) (hl : l.length + m.length ≤ 100000) (q : ∀ p H', Same H H' → H' p = some (.lst (txs (l ++ m))) → Q (.ref p) H') : rCat (.ref x) (.ref y) H Q :=
  r_cat hx hy hl fun p n => q p _ (same_upd n) upd_same
theorem lst_abs {x : Str} {t : List Nat} (e : x = SX.S t) (q : ∀ p H', Same H H' → H' p = some (.lst (txs [t])) → Q (.ref p) H') : tLst (tCons (tC (V.str x)) tNil) σ H Q := by
  subst e
  exact ⟨one_sz, fun p n => q p _ (same_upd n) upd_same⟩
theorem to_abs {i : Nat} (h1 : σ[1]? = some (some (.ref b))) (h4 : σ[4]? = some (some (.int (i : Int)))) (eb : H b = some (.lst (txs ls))) (q : ∀ p H', Same H H' → H' p = some (.lst (txs (ls.take i))) → Q (.ref p) H') :
    tSl (rSlL K) (tVar 1) tNoPart (tPart (tVar 4)) σ H Q := s_to h1 h4 eb fun p n => q p _ (same_upd n) upd_same
theorem one_abs (h1 : σ[1]? = some (some (.ref b))) (eb : H b = some (.lst (txs ls))) (q : ∀ p H', Same H H' → H' p = some (.lst (txs (ls.drop 1))) → Q (.ref p) H') :
    tSl (rSlL K) (tVar 1) (tPart (tC (V.int 1))) tNoPart σ H Q := s_one h1 eb fun p n => q p _ (same_upd n) upd_same
theorem tCons_i {t : TE} {u : TA} {Q : List V → Hp → Prop} (h : t σ H fun x H1 => u σ H1 fun xs H2 => Q (x :: xs) H2) : tCons t u σ H Q := h
theorem tOp_i {r : R2} {t u : TE} (h : t σ H fun x H1 => u σ H1 fun y H2 => r x y H2 Q) : tOp r t u σ H Q := h
theorem six_at (x0 x1 x2 x3 x4 x5 : Str) (M : Nat) (h0 : x0.length ≤ M) (h1 : x1.length ≤ M) (h2 : x2.length ≤ M) (h3 : x3.length ≤ M) (h4 : x4.length ≤ M) (h5 : x5.length ≤ M) : ∀ k : Nat, k < 6 →
    ∃ t : List Nat, [V.str x0, V.str x1, V.str x2, V.str x3, V.str x4, V.str x5][k]? = some (.str (SX.S t)) ∧ t.length ≤ M := by
  have each : ∀ x : Str, x.length ≤ M → ∃ t : List Nat, some (V.str x) = some (.str (SX.S t)) ∧ t.length ≤ M := fun x hx => ⟨x.cps.toList, by rw [SX.S_tl], by rw [TL.len_tl] at hx; exact hx⟩
  intro k hk
  match k, hk with
  | 0, _ => exact each x0 h0
  | 1, _ => exact each x1 h1
  | 2, _ => exact each x2 h2
  | 3, _ => exact each x3 h3
  | 4, _ => exact each x4 h4
  | 5, _ => exact each x5 h5
theorem ixN_nat {n j : Nat} (h : j < n) : ixN n (j : Int) = some j := by
  unfold ixN
  rw [if_pos (by omega), if_pos (by omega)]
  rfl
theorem six_sz : 6 ≤ sizeLine := by rw [sizeLine_eq]; decide
/-- lines[:at] + [x] + lines[at + 1:] -/
theorem r_cat3 {i M : Nat} {l0 : List Nat} {tx : TE} (h1 : σ[1]? = some (some (.ref b))) (h4 : σ[4]? = some (some (.int (i : Int)))) (eb : H b = some (.lst (txs ls))) (hi : ls[i]? = some l0) (hw : wt ls ≤ 20000)
    (hx : ∀ H2 (Q2 : VK), Same H H2 → (∀ t : List Nat, t.length ≤ M → Q2 (.str (SX.S t)) H2) → tx σ H2 Q2) (q : ∀ p H2 ls2, Same H H2 → H2 p = some (.lst (txs ls2)) → wt ls2 ≤ wt ls + M + 1 → Q (.ref p) H2) :
    tOp rCat (tOp rCat (tSl (rSlL K) (tVar 1) tNoPart (tPart (tVar 4))) (tLst (tCons tx tNil))) (tSl (rSlL K) (tVar 1) (tPart (tOp (rI0 fun i j => V.int (i + j)) (tVar 4) (tC (V.int 1)))) tNoPart) σ H Q := by
  have hm := wt_mid hi
  have lt := len_wt (ls.take i)
  have ld := len_wt (ls.drop (i + 1))
  refine s_to h1 h4 eb fun p1 n1 => ?_
  have s1 := same_upd (o := .lst (txs (ls.take i))) n1
  refine hx _ _ s1 fun t ht => ⟨one_sz, fun p2 n2 => ?_⟩
  have s2 := s1.trans (same_upd (o := .lst (txs [t])) n2)
  have e12 : p1 ≠ p2 := fun z => by rw [← z, upd_same] at n2; cases n2
  refine r_cat (l := ls.take i) (m := [t]) (by rw [upd_ne e12, upd_same]) upd_same (by rw [List.length_singleton]; omega) fun p3 n3 => ?_
  have s3 := s2.trans (same_upd (o := .lst (txs (ls.take i ++ [t]))) n3)
  refine s_from1 h1 h4 (s3 _ _ eb) fun p4 n4 => ?_
  have e34 : p3 ≠ p4 := fun z => by rw [← z, upd_same] at n4; cases n4
  have s4 := s3.trans (same_upd (o := .lst (txs (ls.drop (i + 1)))) n4)
  refine r_cat (l := ls.take i ++ [t]) (m := ls.drop (i + 1)) (by rw [upd_ne e34, upd_same]) upd_same (by rw [List.length_append, List.length_singleton]; omega) fun p5 n5 => ?_
  refine q p5 _ _ (s4.trans (same_upd n5)) upd_same ?_
  rw [wt_append, wt_append, wt_cons, wt_nil]
  omega
end
section
variable {P : Program} {w : World} {K : PySem.W.Frag} {mg : Str → Option Value} {base : Heap}
def spChg : Sp := fun vs H Q _ => ∃ (a b c : Addr) (k : Int) (ls near : List (List Nat)) (B : Nat), vs = [.ref a, .ref b, .ref c] ∧ SrcAt H a k ∧ 0 ≤ k ∧ k ≤ 800000 ∧ H b = some (.lst (txs ls)) ∧ ls ≠ [] ∧ wt ls ≤ B ∧ B ≤ 5000 ∧
  H c = some (.lst (txs near)) ∧ near ≠ [] ∧ near.length ≤ 1000 ∧ (∀ x ∈ near, x.length ≤ 120) ∧ ∀ p H' ls2, SameX a H H' → SrcAt H' a (k + 8) → H' p = some (.lst (txs ls2)) → wt ls2 ≤ 4 * B + 130 → Q (.ref p) H'
theorem ok_chg {f fX : Addr} {fd fdX : FuncData} (F : Fun K "_law_changed_lines" "_law_changed_lines" sChg f fd) (FX : FnOk P w K mg base CX0 1 fX fdX ["_law_source_here", "_law_many"] spNext) (bX : Binds K fdX ["_law_source_here", "_law_many"] []) (gX : mg "_law_next" = some (.ref fX)) (kX : PySem.W.keepIn K (.ref fX) = true)
    (ml : mg "len" = none) : FnOk P w K mg base CX0 2 f fd ["_law_source_here", "_law_lines", "_law_near"] spChg := by
  refine F.ok scChg (fun vs H Q E h => ?_) (fun cdv A outer s H vs Q E hr h => ?_)
  · obtain ⟨a, b, c, k, ls, near, B, rfl, _⟩ := h
    rfl
  · obtain ⟨a, b, c, k, ls, near, B, rfl, hs, k0, k1, eb, lne, lw, lB, ec, nne, nl, nw, q⟩ := h
    refine ⟨_, pss_cons (ps_par3 (i := 3) (j := 4) (l := 5) rfl scChg.nd rfl rfl rfl (by decide) (by decide) (by decide) rfl rfl rfl
        (pa_cons (pe_call FX hr (by rfl) gX kX bX .nil pass0 (pa_cons (pv 0) (pa_cons pe_int pa_nil)))
        (pa_cons (pe_call FX hr (by rfl) gX kX bX .nil pass0 (pa_cons (pv 0) (pa_cons (pe_callB call_len_seq (by rfl) ml PySem.boot_len (pa_cons (pv 1) pa_nil)) pa_nil)))
        (pa_cons (pe_call FX hr (by rfl) gX kX bX .nil pass0 (pa_cons (pv 0) (pa_cons (pe_callB call_len_seq (by rfl) ml PySem.boot_len (pa_cons (pv 1) pa_nil)) pa_nil))) pa_nil))) (by rfl))
      (pss_cons (ps_par3 (i := 6) (j := 7) (l := 8) rfl scChg.nd rfl rfl rfl (by decide) (by decide) (by decide) rfl rfl rfl
        (pa_cons (pe_split (pe_ix ix_list (pv 1) (pv 4) (fun _ _ => rfl)) pe_str)
        (pa_cons (pe_ix ix_list (pv 2) (pe_call FX hr (by rfl) gX kX bX .nil pass0 (pa_cons (pv 0) (pa_cons (pe_callB call_len_seq (by rfl) ml PySem.boot_len (pa_cons (pv 2) pa_nil)) pa_nil))) (fun _ _ => rfl))
        (pa_cons (pe_call FX hr (by rfl) gX kX bX .nil pass0 (pa_cons (pv 0) (pa_cons pe_int pa_nil))) pa_nil))) (by rfl))
      (pss_cons (ps_par (i := 9) (j := 10) rfl scChg.nd rfl rfl (by decide) rfl rfl
        (pa_cons (pe_call FX hr (by rfl) gX kX bX .nil pass0 (pa_cons (pv 0) (pa_cons (pe_callB call_len_seq (by rfl) ml PySem.boot_len (pa_cons (pv 6) pa_nil)) pa_nil)))
        (pa_cons (pe_call FX hr (by rfl) gX kX bX .nil pass0 (pa_cons (pv 0) (pa_cons (pe_callB call_len_seq (by rfl) ml PySem.boot_len (pa_cons (pv 6) pa_nil)) pa_nil))) pa_nil)) (by rfl))
      (pss_cons (ps_if (pt_cmpR op_eq (pv 3) pe_int (nomark _)) (pss_one (ps_ret (pe_op op_cat (pe_slice sl_list (pv 1) po_none (po_some (pv 4))) (pe_slice sl_list (pv 1) (po_some (pe_op op_add (pv 4) pe_int)) po_none)))) pss_nil)
      (pss_cons (ps_if (pt_cmpR op_eq (pv 3) pe_int (nomark _)) (pss_one (ps_ret (pe_op op_cat (pe_op op_cat (pe_slice sl_list (pv 1) po_none (po_some (pv 4))) (pe_lst (pa_cons (pe_ix ix_list (pv 1) (pv 5) (fun _ _ => rfl)) pa_nil))) (pe_slice sl_list (pv 1) (po_some (pv 4)) po_none)))) pss_nil)
      (pss_cons (ps_if (pt_cmpR op_eq (pv 3) pe_int (nomark _))
        (pss_cons (ps_set (i := 11) scChg.nd rfl (.inl rfl) (pe_ix ix_list (pv 1) (pv 4) (fun _ _ => rfl)))
        (pss_cons (ps_set (i := 12) scChg.nd rfl (.inl rfl) (pe_lst (pa_addC op_add_str (pv 11) (CwR.PET.of (pe_op op_add_str pe_str (pv 11)) |> fun h1 => pat_cons h1 (pat_cons (CwR.pet_replC (pv 11)) (pat_cons (CwR.PET.of pe_str) (pat_cons (CwR.PET.of (pe_op op_add_str (pv 11) pe_str)) (pat_cons (pet_rep1 (pv 11)) pat_nil))))))))
        (pss_one (ps_ret (pe_op op_cat (pe_op op_cat (pe_slice sl_list (pv 1) po_none (po_some (pv 4))) (pe_lst (pa_cons (pe_ix ix_list (pv 12) (pv 8) (fun _ _ => rfl)) pa_nil))) (pe_slice sl_list (pv 1) (po_some (pe_op op_add (pv 4) pe_int)) po_none)))))) pss_nil)
      (pss_cons (ps_if (pt_cmpR op_eq (pv 3) pe_int (nomark _)) (pss_one (ps_ret (pe_ix ix_list (pe_lst (pa_cons (pe_op op_cat (pv 1) (pe_lst (pa_cons pe_str pa_nil))) (pa_cons (pe_op op_cat (pe_lst (pa_cons pe_str pa_nil)) (pv 1)) (pa_cons (pe_op op_cat (pv 1) (pe_slice sl_list (pv 1) (po_some pe_int) po_none))
          (pa_cons (pe_slice sl_list (pv 1) po_none (po_some (pv 4))) (pa_cons (pe_op op_cat (pv 1) (pe_lst (pa_cons pe_str pa_nil))) (pa_cons (pe_slice sl_list (pv 1) (po_some pe_int) po_none) pa_nil))))))) (pv 8) (fun _ _ => rfl)))) pss_nil)
      (pss_cons (ps_if (pt_cmpR op_lt (pv 3) pe_int (nomark _)) (pss_one (ps_asg (pv 7) (pg_sub (pv 6) (pv 9) set_list)))
        (pss_one (ps_if (pt_cmpR op_eq (pv 3) pe_int (nomark _)) (pss_one (ps_expr (pe_bm PySem.F.plainAttrs_list PySem.F.slot_list_insert PySem.F.type_list_insert mt_insert (pv 6) (pa_cons (pv 9) (pa_cons (pv 7) pa_nil)))))
        (pss_one (ps_if (pt_cmpR op_eq (pv 3) pe_int (nomark _)) (pss_one (ps_expr (pe_bm PySem.F.plainAttrs_list PySem.F.slot_list_pop PySem.F.type_list_pop mt_popAt (pv 6) (pa_cons (pv 9) pa_nil))))
        (pss_one (ps_if (pt_cmpR op_eq (pv 3) pe_int (nomark _)) (pss_one (ps_asg (pe_tup (pa_cons (pe_ix ix_list (pv 6) (pv 10) (fun _ _ => rfl)) (pa_cons (pe_ix ix_list (pv 6) (pv 9) (fun _ _ => rfl)) pa_nil))) (pg_tup rfl (pgs_cons (pg_sub (pv 6) (pv 9) set_list) (pgs_cons (pg_sub (pv 6) (pv 10) set_list) pgs_nil)))))
        (pss_one (ps_if (pt_cmpR op_eq (pv 3) pe_int (nomark _)) (pss_one (ps_asg (pe_ix ix_list (pv 6) (pv 10) (fun _ _ => rfl)) (pg_sub (pv 6) (pv 9) set_list)))
        (pss_one (ps_asg (pe_op op_add_str (pe_ix ix_list (pe_lst (pa_cons pe_str (pa_cons pe_str (pa_cons pe_str (pa_cons pe_str (pa_cons pe_str (pa_cons pe_str pa_nil))))))) (pv 8) (fun _ _ => rfl)) (pe_ix ix_list (pv 6) (pv 9) (fun _ _ => rfl))) (pg_sub (pv 6) (pv 9) set_list))))))))))))
      (pss_one (ps_ret (pe_op op_cat (pe_op op_cat (pe_slice sl_list (pv 1) po_none (po_some (pv 4))) (pe_lst (pa_cons (pe_join pe_str (pv 6)) pa_nil))) (pe_slice sl_list (pv 1) (po_some (pe_op op_add (pv 4) pe_int)) po_none))))))))))), ?_⟩
    obtain ⟨c0, kk0, d0, ea, _⟩ := id hs
    have hba : b ≠ a := fun z => by
      rw [z, ea] at eb
      cases ls with
      | nil => exact lne rfl
      | cons x r => cases eb
    have hca : c ≠ a := fun z => by
      rw [z, ea] at ec
      cases near with
      | nil => exact nne rfl
      | cons x r => cases ec
    have lpos : 0 < ls.length := List.length_pos_iff.mpr lne
    have npos : 0 < near.length := List.length_pos_iff.mpr nne
    have llen := len_wt ls
    -- way, at, to
    refine ⟨_, rfl, a, k, _, rfl, hs, by omega, by decide, by decide, fun way H1 w0 w1 x1 s1 => ?_⟩
    have eb1 := x1 _ _ hba eb
    refine ⟨_, rfl, _, rfl, b, _, rfl, .inl (SqL.of eb1), a, k + 1, _, rfl, s1, by omega, by rw [txs_len]; omega, by rw [txs_len]; omega, fun at' H2 a0 a1 x2 s2 => ?_⟩
    have eb2 := x2 _ _ hba eb1
    refine ⟨_, rfl, _, rfl, b, _, rfl, .inl (SqL.of eb2), a, k + 1 + 1, _, rfl, s2, by omega, by rw [txs_len]; omega, by rw [txs_len]; omega, fun to' H3 t0 t1 x3 s3 => ?_⟩
    have eb3 := x3 _ _ hba eb2
    rw [txs_len] at a1 t1
    obtain ⟨i, rfl⟩ := Int.eq_ofNat_of_zero_le a0
    obtain ⟨j, rfl⟩ := Int.eq_ofNat_of_zero_le t0
    have il : i < ls.length := by omega
    have jl : j < ls.length := by omega
    have hi : ls[i]? = some ls[i] := List.getElem?_eq_getElem il
    have hj : ls[j]? = some ls[j] := List.getElem?_eq_getElem jl
    have wi := mem_wt (List.getElem_mem il)
    have wj := mem_wt (List.getElem_mem jl)
    generalize ls[i] = line at *
    generalize ls[j] = line2 at *
    have ec3 := x3 _ _ hca (x2 _ _ hca (x1 _ _ hca ec))
    have xs3 := x1.trans (x2.trans x3)
    clear x1 x2 x3 s1 s2 eb1 eb2
    refine ⟨_, _, _, rfl, ?_⟩
    -- words, word, pick
    refine ⟨_, rfl, _, rfl, b, _, _, .str (SX.S line), rfl, rfl, SqL.of eb3, atI_nat (txs_get hi), ⟨_, rfl⟩, split32 (by omega) fun W nW => ?_⟩
    have sW := same_upd (o := .lst (txs (cutAt 32 line))) nW
    have hWa : W ≠ a := fun z => by
      obtain ⟨_, _, _, e, _⟩ := s3
      rw [z, e] at nW
      cases nW
    have hWn : H W = none := by
      cases z : H W with
      | none => rfl
      | some o => rw [xs3 _ _ hWa z] at nW; cases nW
    have eW : (upd H3 W (.lst (txs (cutAt 32 line)))) W = some (.lst (txs (cutAt 32 line))) := upd_same
    have eb4 := sW _ _ eb3
    have ec4 := sW _ _ ec3
    have s4 := s3.same sW
    have xs4 := xs3.trans (SameX.of sW)
    have hbW : b ≠ W := ne_of_none eb hWn
    generalize upd H3 W (.lst (txs (cutAt 32 line))) = H4 at *
    clear sW nW eb3 ec3 s3 xs3
    refine ⟨_, rfl, _, rfl, _, rfl, c, _, rfl, .inl (SqL.of ec4), a, k + 1 + 1 + 1, _, rfl, s4, by omega, by rw [txs_len]; omega, by rw [txs_len]; omega, fun wi' H5 n0 n1 x5 s5 => ?_⟩
    rw [txs_len] at n1
    obtain ⟨ni, rfl⟩ := Int.eq_ofNat_of_zero_le n0
    have nil' : ni < near.length := by omega
    have hni : near[ni]? = some near[ni] := List.getElem?_eq_getElem nil'
    have hword := nw _ (List.getElem_mem nil')
    generalize near[ni] = word at *
    refine ⟨c, _, _, .str (SX.S word), rfl, rfl, SqL.of (x5 _ _ hca ec4), atI_nat (txs_get hni), ?_⟩
    refine ⟨_, rfl, a, k + 1 + 1 + 1 + 1, _, rfl, s5, by omega, by decide, by decide, fun pick H6 p0 p1 x6 s6 => ?_⟩
    refine ⟨_, _, _, rfl, ?_⟩
    -- spot, far
    have xs6 := xs4.trans (x5.trans x6)
    have eb6 := x6 _ _ hba (x5 _ _ hba eb4)
    have eW6 := x6 _ _ hWa (x5 _ _ hWa eW)
    clear s5 x5 x6 eb4 ec4 s4 xs4 eW
    have wlen := cut_wt 32 line
    have wsl := len_wt (cutAt 32 line)
    have wpos : 0 < (cutAt 32 line).length := List.length_pos_iff.mpr (cutAt_ne 32 line)
    generalize cutAt 32 line = ws at *
    refine ⟨_, rfl, _, rfl, W, _, rfl, .inl (SqL.of eW6), a, k + 1 + 1 + 1 + 1 + 1, _, rfl, s6, by omega, by rw [txs_len]; omega, by rw [txs_len]; omega, fun spot H7 sp0 sp1 x7 s7 => ?_⟩
    have eW7 := x7 _ _ hWa eW6
    refine ⟨_, rfl, _, rfl, W, _, rfl, .inl (SqL.of eW7), a, k + 1 + 1 + 1 + 1 + 1 + 1, _, rfl, s7, by omega, by rw [txs_len]; omega, by rw [txs_len]; omega, fun far H8 fa0 fa1 x8 s8 => ?_⟩
    refine ⟨_, _, rfl, ?_⟩
    have xs8 := xs6.trans (x7.trans x8)
    have eb8 := x8 _ _ hba (x7 _ _ hba eb6)
    have eW8 := x8 _ _ hWa eW7
    have s8 : SrcAt H8 a (k + 8) := s8.le (by omega)
    rw [txs_len] at sp1 fa1
    obtain ⟨sp, rfl⟩ := Int.eq_ofNat_of_zero_le sp0
    obtain ⟨fr, rfl⟩ := Int.eq_ofNat_of_zero_le fa0
    obtain ⟨pk, rfl⟩ := Int.eq_ofNat_of_zero_le p0
    have spl : sp < ws.length := by omega
    have frl : fr < ws.length := by omega
    have pkl : pk < 6 := by omega
    have hsp : ws[sp]? = some ws[sp] := List.getElem?_eq_getElem spl
    have hfr : ws[fr]? = some ws[fr] := List.getElem?_eq_getElem frl
    have wsp := mem_wt (List.getElem_mem spl)
    have wfr := mem_wt (List.getElem_mem frl)
    generalize ws[sp] = wS at *
    generalize ws[fr] = wF at *
    clear x7 x8 s7 s6 xs6 eb6 eW6 eW7 w0 w1 a0 a1 t0 t1 n0 n1 p0 p1 sp0 sp1 fa0 fa1
    -- the end, from any heap that keeps what is needed
    have out : ∀ p H9 ls2, Same H8 H9 → H9 p = some (.lst (txs ls2)) → wt ls2 ≤ 4 * B + 130 → Q (.ref p) H9 := fun p H9 ls2 s9 e9 w9 =>
      q p H9 ls2 (xs8.trans (SameX.of s9)) (s8.same s9) e9 w9
    -- way == 0
    refine ⟨_, rfl, rfl, _, rfl, ?_⟩
    refine iteB ?_ ?_
    · intro _
      refine s_to rfl rfl eb8 fun p1 n1 => ?_
      have s1 := same_upd (o := .lst (txs (ls.take i))) n1
      refine s_from1 rfl rfl (s1 _ _ eb8) fun p2 n2 => ?_
      have s2 := s1.trans (same_upd (o := .lst (txs (ls.drop (i + 1)))) n2)
      have e12 : p1 ≠ p2 := fun z => by rw [← z, upd_same] at n2; cases n2
      have hm := wt_mid hi
      have l1 := len_wt (ls.take i)
      have l2 := len_wt (ls.drop (i + 1))
      refine r_cat (l := ls.take i) (m := ls.drop (i + 1)) (by rw [upd_ne e12, upd_same]) upd_same (by omega) fun p3 n3 => ?_
      refine out p3 _ _ (s2.trans (same_upd n3)) upd_same ?_
      rw [wt_append]
      omega
    intro _
    -- way == 1
    refine ⟨_, rfl, rfl, _, rfl, ?_⟩
    refine iteB ?_ ?_
    · intro _
      refine s_to rfl rfl eb8 fun p1 n1 => ?_
      have s1 := same_upd (o := .lst (txs (ls.take i))) n1
      refine ⟨_, rfl, _, rfl, b, _, _, .str (SX.S line2), rfl, rfl, SqL.of (s1 _ _ eb8), atI_nat (txs_get hj), ⟨one_sz, fun p2 n2 => ?_⟩⟩
      have s2 := s1.trans (same_upd (o := .lst (txs [line2])) n2)
      have e12 : p1 ≠ p2 := fun z => by rw [← z, upd_same] at n2; cases n2
      have hm := wt_td ls i
      have l1 := len_wt (ls.take i)
      have l2 := len_wt (ls.drop i)
      refine r_cat (l := ls.take i) (m := [line2]) (by rw [upd_ne e12, upd_same]) upd_same (by rw [List.length_singleton]; omega) fun p3 n3 => ?_
      have s3 := s2.trans (same_upd (o := .lst (txs (ls.take i ++ [line2]))) n3)
      refine s_from rfl rfl (s3 _ _ eb8) fun p4 n4 => ?_
      have e34 : p3 ≠ p4 := fun z => by rw [← z, upd_same] at n4; cases n4
      have s4 := s3.trans (same_upd (o := .lst (txs (ls.drop i))) n4)
      refine r_cat (l := ls.take i ++ [line2]) (m := ls.drop i) (by rw [upd_ne e34, upd_same]) upd_same (by rw [List.length_append, List.length_singleton]; omega) fun p5 n5 => ?_
      refine out p5 _ _ (s4.trans (same_upd n5)) upd_same ?_
      rw [wt_append, wt_append, wt_cons, wt_nil]
      omega
    intro _
    -- way == 2
    refine ⟨_, rfl, rfl, _, rfl, ?_⟩
    refine iteB ?_ ?_
    · intro _
      refine ⟨_, rfl, _, rfl, b, _, _, .str (SX.S line), rfl, rfl, SqL.of eb8, atI_nat (txs_get hi), ?_⟩
      have l1 : (Str.ofString " ").length = 1 := by decide +kernel
      have l2 : (Str.ofString "  ").length = 2 := by decide +kernel
      have l3 : (Str.ofString "\t").length = 1 := by decide +kernel
      have l4 : (Str.ofString "").length = 0 := by decide +kernel
      have ll : (SX.S line).length = line.length := SX.S_len line
      have hrl := TK.replace_len (SX.S line) (Str.ofString " ") (Str.ofString "  ")
      rw [l2, ll] at hrl
      refine ⟨_, rfl, _, _, rfl, rfl, by rw [ll, l1, sizeLine_eq]; omega, _, rfl, _, _, rfl, rfl, by rw [ll, l1, sizeLine_eq]; omega, _, rfl, _, rfl, by rw [ll, l2]; omega, _, rfl, _, _, rfl, rfl, by rw [ll, l3, sizeLine_eq]; omega, _, rfl, _, rfl, by rw [ll]; omega, fun y6 h6 => ⟨six_sz, fun L nL => ?_⟩⟩
      rw [ll, l3] at h6
      obtain ⟨t, ht, htl⟩ := six_at (SX.S line ++ Str.ofString " ") (Str.ofString " " ++ SX.S line) (Txt.replace (SX.S line) (Str.ofString " ") (Str.ofString "  ")) (Str.ofString "") (SX.S line ++ Str.ofString "\t") y6 (3 * line.length + 2)
        (by rw [str_app_len, ll, l1]; omega) (by rw [str_app_len, ll, l1]; omega) (by omega) (by omega) (by rw [str_app_len, ll, l3]; omega) (by omega) pk pkl
      have s1 := same_upd (o := .lst [V.str (SX.S line ++ Str.ofString " "), V.str (Str.ofString " " ++ SX.S line), V.str (Txt.replace (SX.S line) (Str.ofString " ") (Str.ofString "  ")), V.str (Str.ofString ""), V.str (SX.S line ++ Str.ofString "\t"), V.str y6]) nL
      refine r_cat3 (i := i) (M := 3 * line.length + 2) rfl rfl (s1 _ _ eb8) hi (by omega) (fun H2 Q2 s2 h2 => ?_) (fun p H2 ls2 s2 e2 w2 => out p H2 ls2 (s1.trans s2) e2 (by omega))
      exact ⟨_, rfl, _, rfl, L, _, _, .str (SX.S t), rfl, rfl, SqL.of (s2 _ _ upd_same), atI_nat ht, h2 t htl⟩
    intro _
    -- way == 3
    refine ⟨_, rfl, rfl, _, rfl, ?_⟩
    refine iteB ?_ ?_
    · intro _
      have e0 : Str.ofString "" = SX.S [] := by decide +kernel
      have en : Str.ofString "node" = SX.S wNode := by decide +kernel
      have w1 := wt_td ls 1
      have wi2 := wt_td ls i
      refine ⟨_, rfl, lst_abs e0 fun p1 G1 t1 f1 => cat_abs (t1 _ _ eb8) f1 (by rw [List.length_singleton]; omega) fun q1 G2 t2 g1 => ?_⟩
      have u2 := t1.trans t2
      refine tCons_i (tOp_i (lst_abs e0 fun p2 G3 t3 f2 => ?_))
      have u3 := u2.trans t3
      refine ⟨_, rfl, cat_abs f2 (u3 _ _ eb8) (by rw [List.length_singleton]; omega) fun q2 G4 t4 g2 => ?_⟩
      have u4 := u3.trans t4
      refine ⟨_, rfl, one_abs rfl (u4 _ _ eb8) fun p3 G5 t5 f3 => ?_⟩
      have u5 := u4.trans t5
      refine cat_abs (u5 _ _ eb8) f3 (by rw [List.length_drop]; omega) fun q3 G6 t6 g3 => ?_
      have u6 := u5.trans t6
      refine tCons_i (to_abs rfl rfl (u6 _ _ eb8) fun q4 G7 t7 g4 => ?_)
      have u7 := u6.trans t7
      refine ⟨_, rfl, lst_abs en fun p5 G8 t8 f5 => ?_⟩
      have u8 := u7.trans t8
      refine cat_abs (u8 _ _ eb8) f5 (by rw [List.length_singleton]; omega) fun q5 G9 t9 g5 => ?_
      have u9 := u8.trans t9
      refine tCons_i (one_abs rfl (u9 _ _ eb8) fun q6 G10 t10 g6 => ?_)
      have u10 := u9.trans t10
      refine ⟨six_sz, fun L nL => ?_⟩
      have t11 := same_upd (o := .lst [V.ref q1, V.ref q2, V.ref q3, V.ref q4, V.ref q5, V.ref q6]) nL
      have u11 := u10.trans t11
      have a10 := t10.trans t11
      have a9 := t9.trans a10
      have a8 := t8.trans a9
      have a7 := t7.trans a8
      have a6 := t6.trans a7
      have a5 := t5.trans a6
      have a4 := t4.trans a5
      have a3 := t3.trans a4
      refine ⟨_, rfl, L, _, _, [V.ref q1, V.ref q2, V.ref q3, V.ref q4, V.ref q5, V.ref q6][pk]'pkl, rfl, rfl, SqL.of upd_same, atI_nat (List.getElem?_eq_getElem pkl), ?_⟩
      have en4 : wNode.length = 4 := rfl
      match pk, pkl with
      | 0, _ => exact out q1 _ _ u11 (a3 _ _ g1) (by rw [wt_append, wt_cons, wt_nil]; simp; omega)
      | 1, _ => exact out q2 _ _ u11 (a5 _ _ g2) (by rw [wt_append, wt_cons, wt_nil]; simp; omega)
      | 2, _ => exact out q3 _ _ u11 (a7 _ _ g3) (by rw [wt_append]; omega)
      | 3, _ => exact out q4 _ _ u11 (a8 _ _ g4) (by omega)
      | 4, _ => exact out q5 _ _ u11 (a10 _ _ g5) (by rw [wt_append, wt_cons, wt_nil, en4]; omega)
      | 5, _ => exact out q6 _ _ u11 (t11 _ _ g6) (by omega)
    intro _
    -- a word changed
    have fin : ∀ (v11 v12 : Option V) H9 ws2, (∀ x o, x ≠ W → H8 x = some o → H9 x = some o) → H9 W = some (.lst (txs ws2)) → wt ws2 ≤ 3 * wt ws + 121 →
        (tOp rCat (tOp rCat (tSl (rSlL K) (tVar 1) tNoPart (tPart (tVar 4))) (tLst (tCons (tM1 (fun x xs H_1 Q => ∃ a p ys, x = V.str a ∧ xs = [V.ref p] ∧ (SqL K H_1 p (List.map V.str ys) ∨ SqT K H_1 p (List.map V.str ys)) ∧ (List.map (fun x => x.length) ys).sum + ys.length * a.length ≤ 16777216 ∧ Q (V.str (Txt.join a ys)) H_1)
          (tC (V.str (Str.ofString " "))) (tVar 6)) tNil))) (tSl (rSlL K) (tVar 1) (tPart (tOp (rI0 fun i j => V.int (i + j)) (tVar 4) (tC (V.int 1)))) tNoPart))
          [some (.ref a), some (.ref b), some (.ref c), some (.int way), some (.int (i : Int)), some (.int (j : Int)), some (.ref W), some (.str (SX.S word)), some (.int (pk : Int)), some (.int (sp : Int)), some (.int (fr : Int)), v11, v12] H9 Q := by
      intro v11 v12 H9 ws2 sW e9 w9
      have jl2 := join_len 32 ws2
      refine r_cat3 (i := i) (M := wt ws2) rfl rfl (sW _ _ hbW eb8) hi (by omega) (fun H2 Q2 s2 h2 => ?_) (fun p H2 ls2 s2 e2 w2 => ?_)
      · refine ⟨⟨_, rfl⟩, _, rfl, SX.S [32], W, ws2.map SX.S, congrArg V.str sp32, rfl, .inl (SqL.of (by rw [s2 _ _ e9, strs_S])), join_lim 32 _ (by omega), ?_⟩
        rw [SX.join_S]
        exact h2 _ jl2
      · refine q p H2 ls2 (fun x o hx e => s2 _ _ (sW _ _ (ne_of_none e hWn) (xs8 _ _ hx e))) ?_ e2 (by omega)
        obtain ⟨c1, k1', d1, e, h⟩ := s8
        exact ⟨c1, k1', d1, s2 _ _ (sW _ _ hWa.symm e), h⟩
    have sWu : ∀ (o : HO) x o', x ≠ W → H8 x = some o' → (upd H8 W o) x = some o' := fun o x o' hx e => by rw [upd_ne hx]; exact e
    -- way < 7
    refine ⟨_, rfl, _, _, rfl, rfl, _, rfl, ?_⟩
    refine iteB ?_ ?_
    · intro _
      refine ⟨_, rfl, _, rfl, _, rfl, W, _, _, sp, rfl, rfl, eW8, ixN_nat (by rw [txs_len]; exact spl), ?_⟩
      exact fin _ _ _ (ws.set sp word) (sWu _) (by rw [upd_same, txs_set]) (by have := wt_set (l := ws) (i := sp) (x := word); omega)
    intro _
    refine ⟨_, rfl, rfl, _, rfl, ?_⟩
    refine iteB ?_ ?_
    · intro _
      refine ⟨_, rfl, .inl ⟨rfl, _, SqL.of eW8⟩, _, rfl, _, rfl, W, _, _, _, rfl, rfl, eW8, by rw [txs_len, sizeLine_eq]; omega, by omega, by omega, ?_⟩
      refine fin _ _ _ (ws.take sp ++ [word] ++ ws.drop sp) (sWu _) ?_ ?_
      · rw [upd_same, show ((sp : Int)).toNat = sp by omega, txs_take, txs_drop, ← txs_app, ← txs_app]
        rfl
      · have := wt_td ws sp
        rw [wt_append, wt_append, wt_cons, wt_nil]
        omega
    intro _
    refine ⟨_, rfl, rfl, _, rfl, ?_⟩
    refine iteB ?_ ?_
    · intro _
      refine ⟨_, rfl, .inl ⟨rfl, _, SqL.of eW8⟩, _, rfl, W, _, _, sp, .str (SX.S wS), rfl, rfl, eW8, by omega, by omega, (ixN_seq (ixN_nat (by rw [txs_len]; exact spl))).1, txs_get hsp, ?_⟩
      refine fin _ _ _ (ws.eraseIdx sp) (sWu _) ?_ (by have := wt_erase (l := ws) (i := sp); omega)
      rw [upd_same]
      unfold txs
      rw [map_eraseIdx']
    intro _
    refine ⟨_, rfl, rfl, _, rfl, ?_⟩
    refine iteB ?_ ?_
    · intro _
      refine ⟨_, rfl, _, rfl, W, _, _, .str (SX.S wF), rfl, rfl, SqL.of eW8, atI_nat (txs_get hfr), _, rfl, _, rfl, W, _, _, .str (SX.S wS), rfl, rfl, SqL.of eW8, atI_nat (txs_get hsp), by show 2 ≤ sizeLine; rw [sizeLine_eq]; decide, fun T nT => ?_⟩
      have sT := same_upd (o := .tup [V.str (SX.S wF), V.str (SX.S wS)]) nT
      refine ⟨T, _, rfl, SqT.of upd_same, rfl, _, _, rfl, _, rfl, _, rfl, W, _, _, sp, rfl, rfl, sT _ _ eW8, ixN_nat (by rw [txs_len]; exact spl), ?_⟩
      refine ⟨_, _, rfl, _, rfl, _, rfl, W, _, _, fr, rfl, rfl, upd_same, ixN_nat (by rw [List.length_set, txs_len]; exact frl), rfl, ?_⟩
      refine fin _ _ _ ((ws.set sp wF).set fr wS) (fun x o hx e => ?_) ?_ ?_
      · rw [upd_ne hx, upd_ne hx]; exact sT _ _ e
      · rw [upd_same, txs_set, txs_set]
      · have h1 := wt_set (l := ws) (i := sp) (x := wF)
        have h2 := wt_set (l := ws.set sp wF) (i := fr) (x := wS)
        omega
    intro _
    refine ⟨_, rfl, rfl, _, rfl, ?_⟩
    refine iteB ?_ ?_
    · intro _
      refine ⟨_, rfl, _, rfl, W, _, _, .str (SX.S wF), rfl, rfl, SqL.of eW8, atI_nat (txs_get hfr), _, rfl, _, rfl, W, _, _, sp, rfl, rfl, eW8, ixN_nat (by rw [txs_len]; exact spl), ?_⟩
      exact fin _ _ _ (ws.set sp wF) (sWu _) (by rw [upd_same, txs_set]) (by have := wt_set (l := ws) (i := sp) (x := wF); omega)
    intro _
    have c1 : (Str.ofString "0").length = 1 ∧ (Str.ofString "-").length = 1 ∧ (Str.ofString "+").length = 1 ∧ (Str.ofString "").length = 0 ∧ (Str.ofString "1").length = 1 := by decide +kernel
    obtain ⟨t, ht, htl⟩ := six_at (Str.ofString "0") (Str.ofString "-") (Str.ofString "+") (Str.ofString "") (Str.ofString "1") (Str.ofString "0") 1 (by omega) (by omega) (by omega) (by omega) (by omega) (by omega) pk pkl
    refine ⟨six_sz, fun L nL => ?_⟩
    have sL := same_upd (o := .lst [V.str (Str.ofString "0"), V.str (Str.ofString "-"), V.str (Str.ofString "+"), V.str (Str.ofString ""), V.str (Str.ofString "1"), V.str (Str.ofString "0")]) nL
    refine ⟨_, rfl, L, _, _, .str (SX.S t), rfl, rfl, SqL.of upd_same, atI_nat ht, _, rfl, _, rfl, W, _, _, .str (SX.S wS), rfl, rfl, SqL.of (sL _ _ eW8), atI_nat (txs_get hsp), _, _, rfl, rfl, by rw [SX.S_len, SX.S_len, sizeLine_eq]; omega, ?_⟩
    rw [SX.S_cat]
    refine ⟨_, rfl, _, rfl, W, _, _, sp, rfl, rfl, sL _ _ eW8, ixN_nat (by rw [txs_len]; exact spl), ?_⟩
    refine fin _ _ _ (ws.set sp (t ++ wS)) (fun x o hx e => ?_) (by rw [upd_same, txs_set]) ?_
    · rw [upd_ne hx]; exact sL _ _ e
    · have := wt_set (l := ws) (i := sp) (x := t ++ wS)
      rw [List.length_append] at this
      omega
end
end Fl
-- R8
namespace Fl
open PySem PySem.Spec PyProof.Rows L2
/-! ### "text" * n -/
def repL (l : List Nat) (n : Nat) : List Nat := (List.replicate n l).flatten
theorem fold_app : ∀ (ls : List (Array Nat)) (acc : Array Nat), (ls.foldl (· ++ ·) acc).toList = acc.toList ++ (ls.map Array.toList).flatten
  | [], acc => by simp
  | x :: ls, acc => by
    rw [List.foldl_cons, fold_app ls (acc ++ x), Array.toList_append, List.map_cons, List.flatten_cons, List.append_assoc]
theorem repL_len (l : List Nat) : ∀ n, (repL l n).length = l.length * n
  | 0 => by simp [repL]
  | n + 1 => by
    have := repL_len l n
    unfold repL at this ⊢
    rw [List.replicate_succ, List.flatten_cons, List.length_append, this, Nat.mul_succ]
    omega
theorem op_mulS {X : Cx} : OpR X (binaryOp .Mult) (fun x y H Q => ∃ (l : List Nat) (n : Nat), x = .str (SX.S l) ∧ y = .int (n : Int) ∧ l ≠ [] ∧ 2 ≤ n ∧ n ≤ 100000 ∧ l.length * n ≤ 1000000 ∧ Q (.str (SX.S (repL l n))) H) := by
  intro pins s σ H x y v u Q I rx ry h
  obtain ⟨l, n, rfl, rfl, hl, h2, h3, h4, q⟩ := h
  obtain ⟨t, rfl⟩ := rx
  obtain ⟨t', rfl⟩ := ry
  have e1 : (SX.S l).length = l.length := SX.S_len l
  have lp : 0 < l.length := List.length_pos_iff.mpr hl
  have hb : (((n : Int) == 1) || (SX.S l).length == 0) = false := by
    rw [e1, Bool.or_eq_false_iff]
    exact ⟨beq_eq_false_iff_ne.mpr (by omega), beq_eq_false_iff_ne.mpr (by omega)⟩
  have lle : l.length ≤ 1000000 := Nat.le_trans (by have := Nat.mul_le_mul_left l.length (show 1 ≤ n by omega); rw [Nat.mul_one] at this; exact this) h4
  refine PySem.P.mul_str ?_ (fun _ _ => ?_) (fun _ _ => ?_) ?_
  · rw [decide_eq_false (show ¬ ((n : Int) < -(2 ^ 63)) by omega), decide_eq_false (show ¬ ((n : Int) ≥ 2 ^ 63) by omega)]
    rfl
  · have h5 : (l.length : Int) ≤ (2 ^ 63 - 1) / (n : Int) := by
      refine (Int.le_ediv_iff_mul_le (by omega)).mpr ?_
      have : ((l.length * n : Nat) : Int) ≤ 1000000 := by omega
      rw [Int.natCast_mul] at this
      omega
    rw [e1]
    omega
  · unfold Builtin.Str.tooLong
    rw [e1, show ((n : Int)).toNat = n by omega, sizeLine_eq]
    exact decide_eq_false (by omega)
  · rw [if_neg (by omega), hb]
    have e : (⟨(List.replicate ((n : Int)).toNat (SX.S l).cps).foldl (· ++ ·) #[]⟩ : Str) = SX.S (repL l n) := by
      refine TL.ext_tl ?_
      show ((List.replicate ((n : Int)).toNat l.toArray).foldl (· ++ ·) #[]).toList = repL l n
      rw [fold_app, show ((n : Int)).toNat = n by omega, List.map_replicate]
      rfl
    show Made.post (Made.str _) _ _
    rw [e]
    refine ⟨by rw [SX.S_len, repL_len, sizeLine_eq]; omega, ?_⟩
    exact ⟨.str _, H, I.tok _, ⟨_, rfl⟩, q⟩
end Fl
-- D12
set_option maxHeartbeats 4000000
namespace Fl
open PySem PySem.Spec PyProof.Rows L2
def codeIs : Out → Nat → Bool
  | .bad k, j => k == j
  | .ok _, _ => false
def isOk : Out → Bool
  | .bad _ => false
  | .ok _ => true
theorem codeIs_of {o : Out} {k : Nat} (h : codeIs o k = true) : o = .bad k := by
  cases o with
  | bad j => exact congrArg Out.bad (eq_of_beq h)
  | ok g => cases h
theorem isOk_of {o : Out} (h : isOk o = true) : ∃ g, o = .ok g := by
  cases o with
  | bad j => cases h
  | ok g => exact ⟨g, rfl⟩
def lLong : List Nat := [110, 111, 100, 101, 32] ++ TL.joinL [32] ((List.range 240).map TL.numL)
abbrev lnode : List Nat := [10, 110, 111, 100, 101]
theorem e_node : Str.ofString "\nnode" = SX.S lnode := by decide +kernel
theorem e_one : Str.ofString "1" = SX.S [49] := by decide +kernel
theorem e_nine : Str.ofString "9" = SX.S [57] := by decide +kernel
theorem long_len : lLong.length ≤ 2000 := by decide +kernel
theorem tl_S (l : List Nat) : TL.tl (SX.S l) = l := rfl
/-- a text of which the parser says: error at line k -/
def BadT (x : V) (y : V) : Prop := ∃ (t : List Nat) (k : Nat), x = .str (SX.S t) ∧ t.length ≤ 250000 ∧ parseM t = .bad k ∧ y = .int (k : Int)
theorem badT {x : Str} {k : Nat} (hl : x.length ≤ 250000) (h : codeIs (parseM (TL.tl x)) k = true) : BadT (.str x) (.int (k : Int)) :=
  ⟨TL.tl x, k, congrArg V.str (SX.S_tl x).symm, by rw [← TL.len_tl]; exact hl, codeIs_of h, rfl⟩
def OkT (x : V) : Prop := ∃ (t : List Nat) (g : List (List Int)), x = .str (SX.S t) ∧ t.length ≤ 250000 ∧ parseM t = .ok g
theorem okT {x : Str} (hl : x.length ≤ 250000) (h : isOk (parseM (TL.tl x)) = true) : OkT (.str x) := by
  obtain ⟨g, e⟩ := isOk_of h
  exact ⟨TL.tl x, g, congrArg V.str (SX.S_tl x).symm, by rw [← TL.len_tl]; exact hl, e⟩
abbrev sLim : Stmt := topS 33
abbrev nLim : List Str := ["_law_long", "_law_some", "_law_bad", "_law_dart", "_law_spelt"]
theorem scLim : FnScope nLim [] (defScope sLim) := ⟨rfl, rfl, rfl, by decide +kernel, rfl, by decide +kernel, by decide +kernel⟩
theorem fitL {x : Str} {l : List Nat} {n : Nat} (h : x.length ≤ 100) (h2 : l.length * n ≤ 1000000) : x.length + (SX.S (repL l n)).length ≤ sizeLine := by
  rw [SX.S_len (repL l n), repL_len, sizeLine_eq]
  omega
theorem fitX {x : Str} (h : x.length ≤ 100) : x.length + (SX.S lLong).length ≤ sizeLine := by
  rw [SX.S_len lLong, sizeLine_eq]
  have := long_len
  omega
theorem fitXY {x y : Str} (h : x.length ≤ 100) (h2 : y.length ≤ 100) : (x ++ SX.S lLong).length + y.length ≤ sizeLine := by
  rw [str_app_len, SX.S_len lLong, sizeLine_eq]
  have := long_len
  omega
theorem fitLY {x y : Str} {l : List Nat} {n : Nat} (h : x.length ≤ 100) (h2 : l.length * n ≤ 1000000) (h3 : y.length ≤ 100) : (x ++ SX.S (repL l n)).length + y.length ≤ sizeLine := by
  rw [str_app_len, SX.S_len (repL l n), repL_len, sizeLine_eq]
  omega
abbrev tSome : List V := [.str (Str.ofString "graph 60 0" ++ SX.S (repL lnode 60)), .str (Str.ofString "graph 1 120\n" ++ SX.S lLong), .str (Str.ofString "graph 0 0")]
abbrev tB1 : List V := [.str (Str.ofString "graph 61 0" ++ SX.S (repL lnode 61)), .str (Str.ofString "graph 1 121\n" ++ SX.S lLong ++ Str.ofString " 240 241"), .str (Str.ofString "graph 60 0" ++ SX.S (repL lnode 61)), .str (Str.ofString ""), .str (Str.ofString "\n")]
abbrev tB2 : List V := [.str (Str.ofString "graph 1 120\n" ++ SX.S lLong ++ Str.ofString " 240"), .str (Str.ofString "graph 1 1\nnode 0"), .str (Str.ofString "graph 1 1\nnode 0 0"), .str (Str.ofString "graph 2 0\nnode")]
abbrev tB3 : List V := [.str (Str.ofString "graph 0 0\n"), .str (Str.ofString "graph 0 0\nnode"), .str (Str.ofString "graph 1 0"), .str (Str.ofString "graph 1 1\nnode 0 2"), .str (Str.ofString "graph 0 1")]
abbrev tB4 : List V := [.str (Str.ofString "graph " ++ SX.S (repL [49] 900) ++ Str.ofString " 0"), .str (Str.ofString "graph " ++ SX.S (repL [57] 5000) ++ Str.ofString " 0"), .str (Str.ofString "graph 1 1\nnode 0 " ++ SX.S (repL [57] 5000))]
theorem len_app (x y : Str) {a b : Nat} (h1 : x.length ≤ a) (h2 : y.length ≤ b) : (x ++ y).length ≤ a + b := by rw [str_app_len]; omega
theorem len_rep (l : List Nat) (n : Nat) {a : Nat} (h : l.length * n ≤ a) : (SX.S (repL l n)).length ≤ a := by rw [SX.S_len, repL_len]; exact h
theorem len_long : (SX.S lLong).length ≤ 2000 := by rw [SX.S_len]; exact long_len
theorem okSome : ∀ x ∈ tSome, OkT x := by
  intro x hx
  simp only [tSome, List.mem_cons, List.not_mem_nil, or_false] at hx
  rcases hx with z | z | z
  · subst z
    exact okT (Nat.le_trans (len_app _ _ (a := 100) (b := 10000) (by decide +kernel) (len_rep _ _ (by decide))) (by decide)) (by rw [TL.tl_append, tl_S]; decide +kernel)
  · subst z
    exact okT (Nat.le_trans (len_app _ _ (a := 100) (b := 2000) (by decide +kernel) len_long) (by decide)) (by rw [TL.tl_append, tl_S]; decide +kernel)
  · subst z
    exact okT (by decide +kernel) (by decide +kernel)
theorem pB1 : Paired BadT tB1 [.int (1 : Nat), .int (1 : Nat), .int (62 : Nat), .int (1 : Nat), .int (1 : Nat)] := by
  refine .cons ?_ (.cons ?_ (.cons ?_ (.cons ?_ (.cons ?_ .nil))))
  · exact badT (Nat.le_trans (len_app _ _ (a := 100) (b := 10000) (by decide +kernel) (len_rep _ _ (by decide))) (by decide)) (by rw [TL.tl_append, tl_S]; decide +kernel)
  · exact badT (Nat.le_trans (len_app _ _ (a := 2100) (b := 100) (len_app _ _ (a := 100) (b := 2000) (by decide +kernel) len_long) (by decide +kernel)) (by decide)) (by rw [TL.tl_append, TL.tl_append, tl_S]; decide +kernel)
  · exact badT (Nat.le_trans (len_app _ _ (a := 100) (b := 10000) (by decide +kernel) (len_rep _ _ (by decide))) (by decide)) (by rw [TL.tl_append, tl_S]; decide +kernel)
  · exact badT (by decide +kernel) (by decide +kernel)
  · exact badT (by decide +kernel) (by decide +kernel)
theorem pB2 : Paired BadT tB2 [.int (2 : Nat), .int (3 : Nat), .int (2 : Nat), .int (3 : Nat)] := by
  refine .cons ?_ (.cons ?_ (.cons ?_ (.cons ?_ .nil)))
  · exact badT (Nat.le_trans (len_app _ _ (a := 2100) (b := 100) (len_app _ _ (a := 100) (b := 2000) (by decide +kernel) len_long) (by decide +kernel)) (by decide)) (by rw [TL.tl_append, TL.tl_append, tl_S]; decide +kernel)
  · exact badT (by decide +kernel) (by decide +kernel)
  · exact badT (by decide +kernel) (by decide +kernel)
  · exact badT (by decide +kernel) (by decide +kernel)
theorem pB3 : Paired BadT tB3 [.int (2 : Nat), .int (2 : Nat), .int (2 : Nat), .int (2 : Nat), .int (2 : Nat)] := by
  refine .cons ?_ (.cons ?_ (.cons ?_ (.cons ?_ (.cons ?_ .nil))))
  all_goals exact badT (by decide +kernel) (by decide +kernel)
theorem pB4 : Paired BadT tB4 [.int (1 : Nat), .int (1 : Nat), .int (2 : Nat)] := by
  refine .cons ?_ (.cons ?_ (.cons ?_ .nil))
  · exact badT (Nat.le_trans (len_app _ _ (a := 10100) (b := 100) (len_app _ _ (a := 100) (b := 10000) (by decide +kernel) (len_rep _ _ (by decide))) (by decide +kernel)) (by decide)) (by rw [TL.tl_append, TL.tl_append, tl_S]; decide +kernel)
  · exact badT (Nat.le_trans (len_app _ _ (a := 10100) (b := 100) (len_app _ _ (a := 100) (b := 10000) (by decide +kernel) (len_rep _ _ (by decide))) (by decide +kernel)) (by decide)) (by rw [TL.tl_append, TL.tl_append, tl_S]; decide +kernel)
  · exact badT (Nat.le_trans (len_app _ _ (a := 100) (b := 10000) (by decide +kernel) (len_rep _ _ (by decide))) (by decide)) (by rw [TL.tl_append, tl_S]; decide +kernel)
theorem paired_app {α β : Type} {F : α → β → Prop} : ∀ {l1 m1 : List α} {l2 m2 : List β}, Paired F l1 l2 → Paired F m1 m2 → Paired F (l1 ++ m1) (l2 ++ m2)
  | _, _, _, _, .nil, h => h
  | _, _, _, _, .cons r t, h => .cons r (paired_app t h)
section
variable {P : Program} {w : World} {K : PySem.W.Frag} {mg : Str → Option Value} {base : Heap}
def spLim : Sp := fun vs H Q _ => vs = [] ∧ ∀ H', Same H H' → Q (.bl true) H'
theorem ok_lim {f fX : Addr} {fd fdX : FuncData} (F : Fun K "_law_graph_limits_right" "_law_graph_limits_right" sLim f fd) (FX : FnOk P w K mg base CX0 5 fX fdX ["_law_spelt"] spTold) (bX : Binds K fdX ["_law_spelt"] []) (gX : mg "_law_told_graph" = some (.ref fX)) (kX : PySem.W.keepIn K (.ref fX) = true)
    (mst : mg "str" = none) (mr : mg "range" = none) (mis : mg "isinstance" = none) (mt : mg "tuple" = none) : FnOk P w K mg base CX0 6 f fd [] spLim := by
  refine F.ok scLim (fun vs H Q E h => ?_) (fun cdv A outer s H vs Q E hr h => ?_)
  · obtain ⟨rfl, _⟩ := h
    rfl
  · obtain ⟨rfl, q⟩ := h
    have hu := hr.units
    refine ⟨_, pss_cons (ps_set (i := 0) scLim.nd rfl (.inl rfl) (pe_op op_add_str pe_str (pe_join pe_str (pe_lc (own := [("_law_dart", 3)]) (g := gName 3) (tt := tYes) rfl scLim.nd (pi_range1 (by rfl) mr (pa_cons pe_int pa_nil)) (blkOk_by (own := [("_law_dart", 3)]) (N := nLim) (sc := defScope sLim) (by decide +kernel))
          (fun _ _ _ _ _ => pg_name (i := 3) scLim.nd rfl (Or.inl rfl)) (fun _ _ _ _ _ => pts_nil) (fun _ _ _ _ _ => pe_callTy (r := fun xs H Q => ∃ i, xs = [.int i] ∧ i.natAbs.log2 < 1920 ∧ Q (.str (toString i)) H) call_str_int (by rfl) mst (by decide +kernel) (pa_cons (pv 3) pa_nil))))))
      (pss_cons (ps_set (i := 1) scLim.nd rfl (.inl rfl) (pe_lst (pa_cons (pe_op op_add_str pe_str (pe_op op_mulS pe_str pe_int)) (pa_cons (pe_op op_add_str pe_str (pv 0)) (pa_cons pe_str pa_nil)))))
      (pss_cons (ps_set (i := 2) scLim.nd rfl (.inl rfl) (pe_lst (pa_cons (pe_op op_add_str pe_str (pe_op op_mulS pe_str pe_int)) (pa_cons (pe_op op_add_str (pe_op op_add_str pe_str (pv 0)) pe_str) (pa_cons (pe_op op_add_str pe_str (pe_op op_mulS pe_str pe_int)) (pa_cons pe_str (pa_cons pe_str pa_nil)))))))
      (pss_cons (ps_set (i := 2) scLim.nd rfl (.inl rfl) (pe_op op_cat (pv 2) (pe_lst (pa_cons (pe_op op_add_str (pe_op op_add_str pe_str (pv 0)) pe_str) (pa_cons pe_str (pa_cons pe_str (pa_cons pe_str pa_nil)))))))
      (pss_cons (ps_set (i := 2) scLim.nd rfl (.inl rfl) (pe_op op_cat (pv 2) (pe_lst (pa_cons pe_str (pa_cons pe_str (pa_cons pe_str (pa_cons pe_str (pa_cons pe_str pa_nil))))))))
      (pss_cons (ps_set (i := 2) scLim.nd rfl (.inl rfl) (pe_op op_cat (pv 2) (pe_lst (pa_cons (pe_op op_add_str (pe_op op_add_str pe_str (pe_op op_mulS pe_str pe_int)) pe_str) (pa_cons (pe_op op_add_str (pe_op op_add_str pe_str (pe_op op_mulS pe_str pe_int)) pe_str) (pa_cons (pe_op op_add_str pe_str (pe_op op_mulS pe_str pe_int)) pa_nil))))))
      (pss_cons (ps_if (pt_cmpR (op_neD hu) (pe_lc (own := [("_law_spelt", 4)]) (g := gName 4) (tt := tYes) rfl scLim.nd (pi_list (pv 1)) (blkOk_by (own := [("_law_spelt", 4)]) (N := nLim) (sc := defScope sLim) (by decide +kernel))
          (fun _ _ _ _ _ => pg_name (i := 4) scLim.nd rfl (Or.inl rfl)) (fun _ _ _ _ _ => pts_nil) (fun _ _ _ _ _ => pe_callB (r := rIsi K) (id := "isinstance") call_isi (by rfl) mis (by decide +kernel) (pa_cons (pe_call FX hr (by rfl) gX kX bX .nil pass0 (pa_cons (pv 4) pa_nil)) (pa_cons (pe_bltn (v := .ty "tuple") (by rfl) mt (by decide +kernel) rfl) pa_nil)))) (pe_op op_rep (pe_lst (pa_cons pe_bl pa_nil)) pe_int) (nomark _))
        (pss_one (ps_ret pe_bl)) pss_nil)
      (pss_one (ps_ret (pe_cmpR (op_eqD hu) (pe_lc (own := [("_law_spelt", 4)]) (g := gName 4) (tt := tYes) rfl scLim.nd (pi_list (pv 2)) (blkOk_by (own := [("_law_spelt", 4)]) (N := nLim) (sc := defScope sLim) (by decide +kernel))
          (fun _ _ _ _ _ => pg_name (i := 4) scLim.nd rfl (Or.inl rfl)) (fun _ _ _ _ _ => pts_nil) (fun _ _ _ _ _ => pe_call FX hr (by rfl) gX kX bX .nil pass0 (pa_cons (pv 4) pa_nil)))
        (pe_lst (pa_cons pe_int (pa_cons pe_int (pa_cons pe_int (pa_cons pe_int (pa_cons pe_int (pa_cons pe_int (pa_cons pe_int (pa_cons pe_int (pa_cons pe_int (pa_cons pe_int (pa_cons pe_int (pa_cons pe_int (pa_cons pe_int (pa_cons pe_int (pa_cons pe_int (pa_cons pe_int (pa_cons pe_int pa_nil)))))))))))))))))) (nomark _)))))))))), ?_⟩
    -- long
    refine ⟨⟨_, rfl⟩, _, rfl, by decide, by decide, fun D0 nD0 => ?_⟩
    have h240 : (240 : Int).toNat = 240 := rfl
    rw [h240]
    refine lc_mapR (lo := 0) (n := 240) (ys := ((List.range 240).map TL.numL).map fun l => V.str (SX.S l)) nD0 (by rw [sizeLine_eq]; decide) (by simp) ?_ ?_
    · intro i y H' Q' hi hy s1 _ hq
      rw [List.map_map, List.getElem?_map, List.getElem?_range hi] at hy
      have ey : V.str (SX.S (TL.numL i)) = y := Option.some.inj hy
      refine ⟨_, rfl, _, rfl, log_small ⟨by omega, by omega⟩, ?_⟩
      rw [show (0 : Int) + (i : Nat) = ((i : Nat) : Int) by omega, str_num]
      subst ey
      exact hq _ (Same.refl _)
    intro G0 s0 e0
    have wl : wt ((List.range 240).map TL.numL) ≤ 240 * 4 := by
      have := wt_le (B := 3) (ps := (List.range 240).map TL.numL) fun x hx => by
        obtain ⟨i, hi, rfl⟩ := List.mem_map.mp hx
        have := List.mem_range.mp hi
        exact TL.numL_len (by decide) (by omega)
      rwa [List.length_map, List.length_range] at this
    have jl := join_len 32 ((List.range 240).map TL.numL)
    refine ⟨SX.S [32], D0, ((List.range 240).map TL.numL).map SX.S, congrArg V.str sp32, rfl, .inl (SqL.of (by rw [e0, strs_S])), join_lim 32 _ (by omega), ?_⟩
    rw [SX.join_S]
    refine ⟨_, _, rfl, rfl, ?_, ?_⟩
    · have h5 : (Str.ofString "node ").length ≤ 100 := by decide +kernel
      rw [SX.S_len (TL.joinL [32] ((List.range 240).map TL.numL)), sizeLine_eq]
      omega
    have el : Str.ofString "node " ++ SX.S (TL.joinL [32] ((List.range 240).map TL.numL)) = SX.S lLong := by
      rw [show Str.ofString "node " = SX.S [110, 111, 100, 101, 32] by decide +kernel, SX.S_cat]
      rfl
    rw [el]
    -- some
    have three_sz : 3 ≤ sizeLine := by rw [sizeLine_eq]; decide
    have four_sz : 4 ≤ sizeLine := by rw [sizeLine_eq]; decide
    have five_sz : 5 ≤ sizeLine := by rw [sizeLine_eq]; decide
    refine ⟨lnode, 60, congrArg V.str e_node, rfl, by decide, by decide, by decide, by decide, _, _, rfl, rfl, fitL (by decide +kernel) (by decide), _, rfl, _, _, rfl, rfl, fitX (by decide +kernel), three_sz, fun Sa nSa => ?_⟩
    have t1 := same_upd (o := .lst tSome) nSa
    have eS : (upd G0 Sa (.lst tSome)) Sa = some (.lst tSome) := upd_same
    have s1 := s0.trans t1
    generalize upd G0 Sa (.lst tSome) = G1 at *
    clear t1
    -- bad
    refine ⟨lnode, 61, congrArg V.str e_node, rfl, by decide, by decide, by decide, by decide, _, _, rfl, rfl, fitL (by decide +kernel) (by decide), _, rfl, _, _, rfl, rfl, fitX (by decide +kernel), _, _, rfl, rfl, fitXY (by decide +kernel) (by decide +kernel),
      lnode, 61, congrArg V.str e_node, rfl, by decide, by decide, by decide, by decide, _, _, rfl, rfl, fitL (by decide +kernel) (by decide), five_sz, fun B1 nB1 => ?_⟩
    have t2 := same_upd (o := .lst tB1) nB1
    have eB1 : (upd G1 B1 (.lst tB1)) B1 = some (.lst tB1) := upd_same
    have s2 := s1.trans t2
    have eS := t2 _ _ eS
    generalize upd G1 B1 (.lst tB1) = G2 at *
    clear t2
    refine ⟨_, rfl, _, rfl, _, _, rfl, rfl, fitX (by decide +kernel), _, _, rfl, rfl, fitXY (by decide +kernel) (by decide +kernel), four_sz, fun B2 nB2 => ?_⟩
    have t3 := same_upd (o := .lst tB2) nB2
    have eB2 : (upd G2 B2 (.lst tB2)) B2 = some (.lst tB2) := upd_same
    have s3 := s2.trans t3
    have eS := t3 _ _ eS
    have eB1 := t3 _ _ eB1
    generalize upd G2 B2 (.lst tB2) = G3 at *
    clear t3
    refine ⟨B1, B2, _, _, rfl, rfl, eB1, eB2, by show 9 ≤ sizeLine; rw [sizeLine_eq]; decide, fun B3 nB3 => ?_⟩
    have t4 := same_upd (o := .lst (tB1 ++ tB2)) nB3
    have eB3 : (upd G3 B3 (.lst (tB1 ++ tB2))) B3 = some (.lst (tB1 ++ tB2)) := upd_same
    have s4 := s3.trans t4
    have eS := t4 _ _ eS
    generalize upd G3 B3 (.lst (tB1 ++ tB2)) = G4 at *
    clear t4
    refine ⟨_, rfl, five_sz, fun B4 nB4 => ?_⟩
    have t5 := same_upd (o := .lst tB3) nB4
    have eB4 : (upd G4 B4 (.lst tB3)) B4 = some (.lst tB3) := upd_same
    have s5 := s4.trans t5
    have eS := t5 _ _ eS
    have eB3 := t5 _ _ eB3
    generalize upd G4 B4 (.lst tB3) = G5 at *
    clear t5
    refine ⟨B3, B4, _, _, rfl, rfl, eB3, eB4, by show 14 ≤ sizeLine; rw [sizeLine_eq]; decide, fun B5 nB5 => ?_⟩
    have t6 := same_upd (o := .lst (tB1 ++ tB2 ++ tB3)) nB5
    have eB5 : (upd G5 B5 (.lst (tB1 ++ tB2 ++ tB3))) B5 = some (.lst (tB1 ++ tB2 ++ tB3)) := upd_same
    have s6 := s5.trans t6
    have eS := t6 _ _ eS
    generalize upd G5 B5 (.lst (tB1 ++ tB2 ++ tB3)) = G6 at *
    clear t6
    refine ⟨_, rfl, [49], 900, congrArg V.str e_one, rfl, by decide, by decide, by decide, by decide, _, _, rfl, rfl, fitL (by decide +kernel) (by decide), _, _, rfl, rfl, fitLY (by decide +kernel) (by decide) (by decide +kernel),
      [57], 5000, congrArg V.str e_nine, rfl, by decide, by decide, by decide, by decide, _, _, rfl, rfl, fitL (by decide +kernel) (by decide), _, _, rfl, rfl, fitLY (by decide +kernel) (by decide) (by decide +kernel),
      [57], 5000, congrArg V.str e_nine, rfl, by decide, by decide, by decide, by decide, _, _, rfl, rfl, fitL (by decide +kernel) (by decide), three_sz, fun B6 nB6 => ?_⟩
    have t7 := same_upd (o := .lst tB4) nB6
    have eB6 : (upd G6 B6 (.lst tB4)) B6 = some (.lst tB4) := upd_same
    have s7 := s6.trans t7
    have eS := t7 _ _ eS
    have eB5 := t7 _ _ eB5
    generalize upd G6 B6 (.lst tB4) = G7 at *
    clear t7
    refine ⟨B5, B6, _, _, rfl, rfl, eB5, eB6, by show 17 ≤ sizeLine; rw [sizeLine_eq]; decide, fun B7 nB7 => ?_⟩
    have t8 := same_upd (o := .lst (tB1 ++ tB2 ++ tB3 ++ tB4)) nB7
    have eB7 : (upd G7 B7 (.lst (tB1 ++ tB2 ++ tB3 ++ tB4))) B7 = some (.lst (tB1 ++ tB2 ++ tB3 ++ tB4)) := upd_same
    have s8 := s7.trans t8
    have eS := t8 _ _ eS
    generalize upd G7 B7 (.lst (tB1 ++ tB2 ++ tB3 ++ tB4)) = G8 at *
    clear t8
    -- all of some are graphs
    refine ⟨_, rfl, Sa, rfl, ⟨_, SqL.of eS⟩, fun D1 nD1 => ?_⟩
    refine lc_mapL (K := K) (xs := tSome) (ys := [.bl true, .bl true, .bl true]) (SqL.of eS) nD1 (by show 3 < sizeLine; rw [sizeLine_eq]; decide) rfl ?_ ?_
    · intro i x y H' Q' hx hy _ hq
      obtain ⟨t, g, rfl, tl, pg⟩ := okSome x (List.mem_of_getElem? hx)
      have ey : y = .bl true := by
        have := List.mem_of_getElem? hy
        simp only [List.mem_cons, List.not_mem_nil, or_false, or_self] at this
        exact this
      subst ey
      refine ⟨_, rfl, t, rfl, tl, fun k hk => ?_, fun g' _ p H2 s2 ga => ?_⟩
      · rw [pg] at hk
        cases hk
      · obtain ⟨ps, ep, _⟩ := ga
        exact ⟨_, _, _, _, true, rfl, .ty "tuple", .base (.tup ep), kit_self "tuple", hq _ s2⟩
    intro H1 z1 eD1
    refine ⟨one_sz, fun L nL => ?_⟩
    refine ⟨L, 3, _, rfl, rfl, upd_same, by decide, by decide, by show 1 * 3 ≤ sizeLine; rw [sizeLine_eq]; decide, fun L2 nL2 => ?_⟩
    have zz := z1.trans ((same_upd (o := .lst [V.bl true]) nL).trans (same_upd (o := .lst [V.bl true, V.bl true, V.bl true]) nL2))
    have hL2 : D1 ≠ L2 := ne_of_none (same_upd (o := .lst [V.bl true]) nL _ _ eD1) nL2
    refine ⟨.list [.bool true, .bool true, .bool true], .list [.bool true, .bool true, .bool true], .lst (SqL.of (by rw [upd_ne hL2]; exact same_upd nL _ _ eD1)) (.cons (.bl true) (.cons (.bl true) (.cons (.bl true) .nil))), .lst (SqL.of upd_same) (.cons (.bl true) (.cons (.bl true) (.cons (.bl true) .nil))), by decide +kernel, by decide +kernel, _, rfl, ?_⟩
    rw [show PyData.eqv (.list [.bool true, .bool true, .bool true]) (.list [.bool true, .bool true, .bool true]) = true by decide +kernel]
    refine iteF ?_
    -- all of bad are not
    have eB := zz _ _ eB7
    refine ⟨_, rfl, B7, rfl, ⟨_, SqL.of eB⟩, fun D2 nD2 => ?_⟩
    refine lc_mapL (K := K) (xs := tB1 ++ tB2 ++ tB3 ++ tB4) (ys := [.int (1 : Nat), .int (1 : Nat), .int (62 : Nat), .int (1 : Nat), .int (1 : Nat)] ++ [.int (2 : Nat), .int (3 : Nat), .int (2 : Nat), .int (3 : Nat)] ++ [.int (2 : Nat), .int (2 : Nat), .int (2 : Nat), .int (2 : Nat), .int (2 : Nat)] ++ [.int (1 : Nat), .int (1 : Nat), .int (2 : Nat)]) (SqL.of eB) nD2 (by show 17 < sizeLine; rw [sizeLine_eq]; decide) rfl ?_ ?_
    · intro i x y H' Q' hx hy _ hq
      obtain ⟨y', hy', t, k, rfl, tl, pk, rfl⟩ := Paired.getL (paired_app (paired_app (paired_app pB1 pB2) pB3) pB4) hx
      have ey : y = .int (k : Int) := Option.some.inj (hy.symm.trans hy')
      subst ey
      refine ⟨_, rfl, t, rfl, tl, fun k' hk H2 s2 => ?_, fun g hg => ?_⟩
      · rw [pk] at hk
        cases hk
        exact hq _ s2
      · rw [pk] at hg
        cases hg
    intro H2 z2 eD2
    refine ⟨by show 17 ≤ sizeLine; rw [sizeLine_eq]; decide, fun L3 nL3 => ?_⟩
    have hD3 : D2 ≠ L3 := ne_of_none eD2 nL3
    have dp : ∀ {Hx : Hp} {a : Addr} (l : List Int), Hx a = some (.lst (l.map V.int)) → Dp K Hx (.ref a) (.list (l.map .int)) := fun l e => .lst (SqL.of e) (DpAll.ints l)
    refine ⟨_, _, dp [1, 1, 62, 1, 1, 2, 3, 2, 3, 2, 2, 2, 2, 2, 1, 1, 2] (by rw [upd_ne hD3]; exact eD2), dp [1, 1, 62, 1, 1, 2, 3, 2, 3, 2, 2, 2, 2, 2, 1, 1, 2] upd_same, by decide +kernel, by decide +kernel, ?_⟩
    rw [show PyData.eqv (.list (([1, 1, 62, 1, 1, 2, 3, 2, 3, 2, 2, 2, 2, 2, 1, 1, 2] : List Int).map .int)) (.list (([1, 1, 62, 1, 1, 2, 3, 2, 3, 2, 2, 2, 2, 2, 1, 1, 2] : List Int).map .int)) = true by decide +kernel]
    exact q _ (s8.trans (zz.trans (z2.trans (same_upd nL3))))
end
end Fl
-- R9
set_option maxHeartbeats 2000000
/-! own rules, 9: the law's def, entered by the claim's caller alone (no repr is under way there, no digits limit is set) -/
namespace Fl
open PySem PySem.Spec PyProof.Rows L2
/-- what the law's def, called with the script at a by the caller, leaves -/
def EnterG (P : Program) (w : World) (K : PySem.W.Frag) (mg : Str → Option Value) (base : Heap) (f : Addr) (fd : FuncData) (x : Str) (sp : Sp) : Prop :=
  ∀ (s : Shared) (H : Hp) (a : Addr) (Q : VK) (E : XK), Env0 P w K mg base callerA [] s H → BindsTo s fd ⟨[.ref a], []⟩ [(x, .ref a)] → sp [.ref a] H Q E →
    codeAny (model P w) callerA (.call (.ref f) ⟨[.ref a], []⟩) (CR CX0 [] P w H s Q E) s
theorem enter_of {P : Program} {w : World} {K : PySem.W.Frag} {mg : Str → Option Value} {base : Heap} {nm x : Str} {st : Stmt} {f : Addr} {fd : FuncData} {N : List Str} {k : Nat} {sp : Sp} (F : Fun K nm nm st f fd) (S : FnScope N [x] (defScope st)) (hr : Room (k + 1) callerA)
    (hbody : ∀ (cdv : Value) (s : Shared) (H : Hp) (a : Addr) (Q : VK) (E : XK), Room k (callerA.deeper (envOfC nm (defScope st) s.heap.objs.size f cdv)) → sp [.ref a] H Q E →
      ∃ t, PSs (cxOf CX0 P w K mg base N nm (defScope st) f cdv callerA [] s H E).nox (defBody st) t ∧ t { nx := fun _ H' => Q .non H', rt := Q } (L2.start N [.ref a]) H) : EnterG P w K mg base f fd x sp := by
  obtain ⟨oc, od, kV, doc, pm, an, cdv, ct, osl, rfl, lk, hcd⟩ := F.ex
  intro s H a Q E e0 hb hsp
  have KX : K.In s.heap := e0.mod.kin.keeps fun b o e => (e0.bs b o e).1
  have lim : s.heap.NoLimit := e0.mod.nolimit.keeps fun b o e => (e0.bs b o e).1
  refine codeAny_call_function hr.depth (KX _ _ lk) rfl S.co S.gen rfl (PySem.W.codeRec_of KX hcd) (hb _ _ _ _ ?_)
  refine wpAny_newFunctionEnv_cells S.kind (fun y hy => ?_) fun env he s1 h1 => ?_
  · obtain rfl : y = (x, Value.ref a) := List.mem_singleton.mp hy
    rcases S.par x (List.mem_singleton.mpr rfl) with q | q
    · exact .inl q
    · exact .inr ⟨q, PySem.W.cellsFrom_some _ _ _ (.inl q)⟩
  subst he
  refine ⟨lim.keeps h1.toInCall.keep, codeAny_func ?_⟩
  obtain ⟨t, ht, hq⟩ := hbody cdv s H a Q E (hr.deeper _) hsp
  have I : Inv (cxOf CX0 P w K mg base N nm (defScope st) f cdv callerA [] s H E) [] (L2.start N [.ref a]) H s1 := inv_start S hr.hd e0 rfl (.cons rfl .nil) h1
  refine wpAny_mono (ht.nox.run [] s1 (L2.start N [.ref a]) H _ I hq) (fun fl s' hs => ?_) fun e s' hs => hs
  cases fl with
  | ret u =>
    obtain ⟨v, σ', H', J, rv, q⟩ := hs
    exact ⟨v, H', J.os, J.bare, J.base, J.hok, rv, q⟩
  | next =>
    obtain ⟨σ', H', J, q⟩ := hs
    exact ⟨.non, H', J.os, J.bare, J.base, J.hok, rfl, q⟩
  | brk =>
    obtain ⟨_, _, _, q⟩ := hs
    exact False.elim q
  | cont =>
    obtain ⟨_, _, _, q⟩ := hs
    exact False.elim q
/-- the law's call behind the top, from any heap in which the script alone may be tracked -/
theorem call_G {P : Program} {w : World} {K : PySem.W.Frag} {mg mb : Str → Option Value} {fa a : Addr} {fd : FuncData} {x : Str} {sp : Sp} {s₁ : Shared} {vs : List Value} {ns : List Int}
    (KX : K.In s₁.heap) (hns : s₁.heap.Ns mainGlobals mg) (hb : s₁.heap.Ns builtinsNs mb) (hbb : ∀ x : Str, x ≠ "__name__" → mb x = bootBuiltins x) (hlim : s₁.heap.NoLimit) (hdg : NoDig s₁.heap) (hg : s₁.gens = #[])
    (ha : s₁.heap.get? a = some { cls := .type "list", data := .seq vs.toArray }) (hi : IntsAre vs ns) (hl : ns.length ≤ sizeLine)
    (F : ∀ base : Heap, K.In base → base.Ns mainGlobals mg → NoDig base → EnterG P w K mg base fa fd x sp) (hbind : ∀ (s : Shared) (u : Value), BindsTo s fd ⟨[u], []⟩ [(x, u)])
    (hsp : ∀ H : Hp, SqL K H a (ns.map V.int) → sp [.ref a] H (fun v _ => v = .bl true) fun _ _ _ => False) :
    codeAny (model P w) callerA (.call (.ref fa) ⟨[.ref a], []⟩) (fun r s' => r = .ok (.ret (.bool true)) ∧ OldK s₁.heap s'.heap ∧ s'.os = s₁.os ∧ AllBare s'.gens) s₁ := by
  have rv := vals_ints hi
  have core : ∀ H : Hp, (∀ b, H b = none ∨ (b = a ∧ ∃ o xs, H b = some (.frz o (.lst xs)))) → SqL K H a (ns.map V.int) → HOk P w H s₁.heap → (H a ≠ none → K.lookup a = none) →
      codeAny (model P w) callerA (.call (.ref fa) ⟨[.ref a], []⟩) (fun r s' => r = .ok (.ret (.bool true)) ∧ OldK s₁.heap s'.heap ∧ s'.os = s₁.os ∧ AllBare s'.gens) s₁ := by
    intro H hO hS hok hK
    have hA : ∀ {b : Addr}, H b ≠ none → b = a := fun {b} h => by
      rcases hO b with z | ⟨z, _⟩
      · exact absurd z h
      · exact z
    have stays : ∀ {b : Addr} {o : Obj}, s₁.heap.get? b = some o → H b = none → (hidT s₁.heap H).get? b = some o := fun e n => hidT_get e n
    have free : ∀ {b : Addr}, (b = a → False) → H b = none := fun {b} h => by
      cases q : H b with
      | none => rfl
      | some u => exact absurd (hA (by rw [q]; simp)) h
    have nsK : ∀ {b : Addr} {m : Str → Option Value}, s₁.heap.Ns b m → (hidT s₁.heap H).Ns b m := fun {b m} ⟨o, es, ep, e, d, r⟩ => ⟨o, es, ep, stays e (free fun z => by
      rw [z, ha] at e
      cases e
      cases (show Data.seq vs.toArray _ = Data.dict es ep from d)), d, r⟩
    have hKb : K.In (hidT s₁.heap H) := fun b o e => stays (KX b o e) (by
      cases q : H b with
      | none => rfl
      | some u =>
        have z : b = a := hA (by rw [q]; simp)
        subst z
        rw [hK (by rw [q]; simp)] at e
        cases e)
    have hD : NoDig (hidT s₁.heap H) := let ⟨mc, h1, h2⟩ := hdg; ⟨mc, nsK h1, h2⟩
    have hM : Mod K mg (hidT s₁.heap H) := ⟨hKb, nsK hns, ⟨mb, nsK hb, hbb⟩, let ⟨mc, h1, h2⟩ := hlim; ⟨mc, nsK h1, h2⟩⟩
    have e0 : Env0 P w K mg (hidT s₁.heap H) callerA [] s₁ H := ⟨rfl, hM, fun b o e => of_hidT e, Nat.le_of_eq (hidT_size _ _), trivial, fun b hb => absurd (show b ∈ ([] : List Addr) from hb) (by simp), hok, .of_eq hg⟩
    refine codeAny_mono (F _ hKb (nsK hns) hD s₁ H a _ _ e0 (hbind s₁ (.ref a)) (hsp H hS)) fun r s' h => ?_
    match r, h with
    | .error e, h => exact False.elim h
    | .ok .next, h => exact False.elim h
    | .ok .brk, h => exact False.elim h
    | .ok .cont, h => exact False.elim h
    | .ok (.ret u), ⟨v, H', os, bare, un, hok', r', q⟩ =>
      have q' : v = .bl true := q
      subst q'
      obtain rfl : u = Value.bool true := r'
      refine ⟨rfl, OldK.of_keep fun b o e => ?_, os, bare⟩
      rcases hO b with z | ⟨_, ob, xs, z⟩
      · exact un.keep b o e z (fun y => absurd (show b ∈ ([] : List Addr) from y) (by simp)) (by simp)
      · obtain ⟨e1, _⟩ := hok b _ z
        obtain ⟨e2, _⟩ := hok' b _ (un.frzs b ob _ z)
        rw [e] at e1
        cases e1
        exact e2
  cases hk : K.lookup a with
  | some o =>
    have e := KX a o hk
    rw [ha] at e
    cases e
    exact core (fun _ => none) (fun _ => .inl rfl) (.inr ⟨_, vs.toArray, _, hk, rfl, rfl, rfl, by rw [List.size_toArray, hi.length]; exact hl, by simpa using rv⟩) (fun b u z => by cases (show (none : Option HO) = some u from z)) fun z => absurd rfl z
  | none =>
    refine core (fun b => if b = a then some (.frz { cls := .type "list", data := .seq vs.toArray } (.lst (ns.map V.int))) else none) (fun b => ?_) (.inl (.inr ⟨{ cls := .type "list", data := .seq vs.toArray }, if_pos rfl⟩)) (fun b u z => ?_) fun _ => hk
    · by_cases h : b = a
      · exact .inr ⟨h, _, _, if_pos h⟩
      · exact .inl (if_neg h)
    · by_cases h : b = a
      · cases (if_pos h).symm.trans z
        subst h
        exact ⟨ha, by rw [List.length_map]; exact hl, vs, _, rv, ha⟩
      · cases (if_neg h).symm.trans z
/-- the law's walk from what the head's facts give -/
theorem walk_G {l : PySem.W.OpenLaw} {n : Nat} {q : Program} {loose : List Str} {XP : (Str → Option Value) → Heap → Prop} {YP : World → Heap → Prop} {d : DefRec} {x : Str}
    (hn : l.most = some n) (hn2 : n ≤ sizeLine) (hdf : d.params.defaults = [])
    (F : ∀ (w : World) (mg : Str → Option Value) (fa : Addr) (h : Heap), YP w h → h.Ns mainGlobals mg → mg d.name = some (.ref fa) →
      ∃ (K : PySem.W.Frag) (fd : FuncData) (sp : Sp), K.In h ∧ (∀ (s : Shared) (u : Value), BindsTo s fd ⟨[u], []⟩ [(x, u)]) ∧
        (∀ (H : Hp) (a : Addr) (ns : List Int), ns.length ≤ n → SqL K H a (ns.map V.int) → sp [.ref a] H (fun v _ => v = .bl true) fun _ _ _ => False) ∧
        ∀ base : Heap, K.In base → base.Ns mainGlobals mg → NoDig base → EnterG l.prog w K mg base fa fd x sp) :
    PySem.W.WalkO q loose XP YP l.row.toRowW d [] (fun f vs => PySem.call f vs) := by
  refine Att.attach_call hn hdf fun w s₀ s₁ mg mb fa o pm cd doc a vs ns G Y ho hd hcd hmg hobj hints hlen hg => ?_
  obtain ⟨K, fd, sp, KX, hb, hsp, hF⟩ := F w mg fa _ Y G.T.g hmg
  exact call_G KX G.T.g G.T.b G.T.builtins G.T.nolimit G.T.nodigits hg hobj hints (Nat.le_trans hlen hn2) hF hb fun H hS => hsp H a ns hlen hS
end Fl
-- D13
set_option maxHeartbeats 4000000
namespace Fl
open PySem PySem.Spec PyProof.Rows L2
abbrev sLaw : Stmt := topS 34
abbrev nLaw : List Str := ["_law_script", "_law_k", "_law_source_here", "_law_turn", "_law_some", "_law_near", "_law_once", "_law_twice", "_law_lines", "_law_spelt"]
theorem scLaw : FnScope nLaw ["_law_script"] (defScope sLaw) := ⟨rfl, rfl, rfl, by decide +kernel, rfl, by decide +kernel, by decide +kernel⟩
theorem goM_bad {n m : Int} : ∀ (ls : List (List Nat)) (num : Nat) (rots : List (List Int)) (seen : List Int) (k : Nat), goM n m ls num rots seen = .bad k → k ≤ num + ls.length
  | [], num, rots, seen, k, h => by
    have e : (if (rots.length : Int) < n ∨ (seen.length : Int) < 2 * m then Out.bad num else Out.ok rots) = .bad k := h
    split at e
    · cases e; exact Nat.le_refl _
    · cases e
  | l :: ls, num, rots, seen, k, h => by
    have e : (match lineM n m rots.length seen l with | none => Out.bad num | some ds => goM n m ls (num + 1) (rots ++ [ds]) (seen ++ ds)) = .bad k := h
    cases hl : lineM n m rots.length seen l with
    | none => rw [hl] at e; cases e; exact Nat.le_add_right _ _
    | some ds =>
      rw [hl] at e
      have := goM_bad ls (num + 1) _ _ k e
      rw [List.length_cons]
      omega
theorem parse_bad {t : List Nat} {k : Nat} (h : parseM t = .bad k) : k ≤ t.length + 3 := by
  obtain ⟨l, ls, e⟩ := cutAt_cons 10 t
  have hl : (l :: ls).length ≤ t.length + 1 := by
    have := len_wt (cutAt 10 t)
    rw [cut_wt, e] at this
    exact this
  rw [List.length_cons] at hl
  unfold parseM at h
  rw [e] at h
  have h' : (match headM l with | none => Out.bad 1 | some (n, m) => goM n m ls 2 [] []) = .bad k := h
  cases hm : headM l with
  | none => rw [hm] at h'; cases h'; omega
  | some nm =>
    obtain ⟨n, m⟩ := nm
    rw [hm] at h'
    have := goM_bad ls 2 [] [] k h'
    omega
theorem log_k {k : Nat} (h : k ≤ 300000) : ((k : Nat) : Int).natAbs.log2 < 1920 := by
  rw [Int.natAbs_natCast]
  by_cases h0 : k = 0
  · rw [h0]; decide
  · have : k.log2 < 19 := (Nat.log2_lt h0).mpr (by omega)
    omega
theorem Gr.sm {g : List (List Int)} (G : Gr g) : GrSm g := by
  have hn := G.n
  have hm := G.m
  refine ⟨by omega, fun r hr => ⟨?_, fun d hd => ?_⟩⟩
  · obtain ⟨i, hi⟩ := List.getElem?_of_mem hr
    have e := congrArg List.length (flat_at hi)
    rw [List.length_append, List.length_append] at e
    omega
  · have := G.mem d (List.mem_flatten.mpr ⟨r, hr, hd⟩)
    omega
theorem txs_of (xs : List Str) : xs.map V.str = txs (xs.map TL.tl) := by
  unfold txs
  rw [List.map_map]
  apply List.map_congr_left
  intro x _
  exact congrArg V.str (SX.S_tl x).symm
abbrev nearA : List Str := ["graph", "node", "0", "1", "2", "13", "14", "60", "61", "-1", "00", "01", "A", ""]
abbrev nearB : List Str := ["1_0", "0_1"]
theorem near_lens : ∀ x ∈ (nearA ++ nearB).map TL.tl, x.length ≤ 120 := by decide +kernel
theorem tSeq_i {t u : TS} {D : Ends} {σ : L2.St} {H : Hp} (h : t { D with nx := u D } σ H) : tSeq t u D σ H := h
theorem tAsg_i {te : TE} {g : TG} {D : Ends} {σ : L2.St} {H : Hp} (h : te σ H fun x H1 => g x σ H1 D.nx) : tAsg te g D σ H := h
theorem tCall_i {sp : Sp} {dvs : List V} {E : XK} {t : TA} {σ : L2.St} {H : Hp} {Q : VK} (h : t σ H fun vs H1 => sp (vs ++ dvs) H1 Q E) : tCall sp dvs E t σ H Q := h
theorem txs_src {H : Hp} {a b : Addr} {l : List (List Nat)} {k : Int} (h : H b = some (.lst (txs l))) (s : SrcAt H a k) : b ≠ a := by
  obtain ⟨c, kk, d, e, _⟩ := s
  intro z
  rw [z, e] at h
  cases l with
  | nil => cases h
  | cons x r => cases h
section
variable {P : Program} {w : World} {K : PySem.W.Frag} {mg : Str → Option Value} {base : Heap}
def spLaw (K : PySem.W.Frag) : Sp := fun vs H Q _ => ∃ (p : Addr) (zs : List Int), vs = [.ref p] ∧ SqL K H p (zs.map V.int) ∧ ∀ H', Q (.bl true) H'
/-- a def of the text that is called by its name -/
structure Cal (K : PySem.W.Frag) (mg : Str → Option Value) (x : Str) (f : Addr) (fd : FuncData) (ps : List Str) : Prop where
  b : Binds K fd ps []
  g : mg x = some (.ref f)
  k : PySem.W.keepIn K (.ref f) = true
theorem law_room : Room 7 callerA := ⟨rfl, by decide +kernel, by decide +kernel⟩
theorem ok_law {f f1 f2 f3 f4 f5 f6 f7 : Addr} {fd fd1 fd2 fd3 fd4 fd5 fd6 fd7 : FuncData} (F : Fun K "law" "law" sLaw f fd)
    (F1 : FnOk P w K mg base CX0 1 f1 fd1 ["_law_script", "_law_k"] (spSrc K)) (c1 : Cal K mg "_law_source" f1 fd1 ["_law_script", "_law_k"])
    (F2 : FnOk P w K mg base CX0 3 f2 fd2 ["_law_source_here", "_law_nodes", "_law_edges"] spAny) (c2 : Cal K mg "_law_any_graph" f2 fd2 ["_law_source_here", "_law_nodes", "_law_edges"])
    (F3 : FnOk P w K mg base CX0 1 f3 fd3 ["_law_graph"] spGLines) (c3 : Cal K mg "_law_graph_lines" f3 fd3 ["_law_graph"])
    (F4 : FnOk P w K mg base CX0 2 f4 fd4 ["_law_source_here", "_law_lines", "_law_near"] spChg) (c4 : Cal K mg "_law_changed_lines" f4 fd4 ["_law_source_here", "_law_lines", "_law_near"])
    (F5 : FnOk P w K mg base CX0 5 f5 fd5 ["_law_spelt"] spTold) (c5 : Cal K mg "_law_told_graph" f5 fd5 ["_law_spelt"])
    (F6 : FnOk P w K mg base CX0 2 f6 fd6 ["_law_spelt"] spLPar) (c6 : Cal K mg "_law_parsed_graph" f6 fd6 ["_law_spelt"])
    (F7 : FnOk P w K mg base CX0 6 f7 fd7 [] spLim) (c7 : Cal K mg "_law_graph_limits_right" f7 fd7 [])
    (ml : mg "len" = none) (mr : mg "range" = none) (mx : mg "max" = none) (mn : mg "min" = none) (mp : mg "repr" = none) : EnterG P w K mg base f fd "_law_script" (spLaw K) := by
  refine enter_of (k := 6) F scLaw law_room fun cdv s H a Q E hr h => ?_
  obtain ⟨p, zs, ep, hS, q⟩ := h
  obtain rfl : a = p := V.ref.inj (List.cons.inj ep).1
  have hr1 : Room 1 _ := hr.mono (by decide)
  have hr2 : Room 2 _ := hr.mono (by decide)
  have hr3 : Room 3 _ := hr.mono (by decide)
  have hr5 : Room 5 _ := hr.mono (by decide)
  have hu := hr.units
  have hu8 : (callerA.deeper (envOfC "law" (defScope sLaw) s.heap.objs.size f cdv)).units + 8 < cLine := by omega
  refine ⟨_, pss_cons (ps_for PassesOwn.never rfl (pi_range1 (by rfl) mr (pa_cons (pe_callB (call_max2 rfl) (by rfl) mx (by decide +kernel) (pa_cons pe_int (pa_cons (pe_callB (call_min2 rfl) (by rfl) mn (by decide +kernel) (pa_cons pe_int (pa_cons (pe_callB call_len_seq (by rfl) ml PySem.boot_len (pa_cons (pv 0) pa_nil)) pa_nil))) pa_nil))) pa_nil)) (pg_name (i := 1) scLaw.nd rfl (.inl rfl))
      (pss_cons (ps_set (i := 2) scLaw.nd rfl (.inl rfl) (pe_call F1 hr1 (by rfl) c1.g c1.k c1.b .nil pass0 (pa_cons (pv 0) (pa_cons (pv 1) pa_nil))))
      (pss_one (ps_for PassesOwn.never rfl (pi_range1 (by rfl) mr (pa_cons pe_int pa_nil)) (pg_name (i := 3) scLaw.nd rfl (.inl rfl))
        (pss_cons (ps_set (i := 4) scLaw.nd rfl (.inl rfl) (pe_call F3 hr1 (by rfl) c3.g c3.k c3.b .nil pass0 (pa_cons (pe_call F2 hr3 (by rfl) c2.g c2.k c2.b .nil pass0 (pa_cons (pv 2) (pa_cons pe_int (pa_cons pe_int pa_nil)))) pa_nil)))
        (pss_cons (ps_set (i := 5) scLaw.nd rfl (.inl rfl) (pe_lst (pa_cons pe_str (pa_cons pe_str (pa_cons pe_str (pa_cons pe_str (pa_cons pe_str (pa_cons pe_str (pa_cons pe_str (pa_cons pe_str (pa_cons pe_str (pa_cons pe_str (pa_cons pe_str (pa_cons pe_str (pa_cons pe_str (pa_cons pe_str pa_nil))))))))))))))))
        (pss_cons (ps_set (i := 5) scLaw.nd rfl (.inl rfl) (pe_op op_cat (pe_op op_cat (pv 5) (pe_lst (pa_cons pe_str (pa_cons pe_str pa_nil)))) (pe_split (pe_join pe_str (pv 4)) pe_str)))
        (pss_cons (ps_set (i := 6) scLaw.nd rfl (.inl rfl) (pe_call F4 hr2 (by rfl) c4.g c4.k c4.b .nil pass0 (pa_cons (pv 2) (pa_cons (pv 4) (pa_cons (pv 5) pa_nil)))))
        (pss_cons (ps_set (i := 7) scLaw.nd rfl (.inl rfl) (pe_call F4 hr2 (by rfl) c4.g c4.k c4.b .nil pass0 (pa_cons (pv 2) (pa_cons (pe_ifExp (pt_cmpR (op_neNil hr.units0) (pv 6) (pe_lst pa_nil) (nomark _)) (pv 6) (pe_lst (pa_cons pe_str pa_nil))) (pa_cons (pv 5) pa_nil)))))
        (pss_one (ps_for PassesOwn.never rfl (pi_tup (pe_tup (pa_cons (pv 4) (pa_cons (pv 6) (pa_cons (pv 7) (pa_cons (pe_call F4 hr2 (by rfl) c4.g c4.k c4.b .nil pass0 (pa_cons (pv 2) (pa_cons (pv 4) (pa_cons (pv 5) pa_nil)))) pa_nil)))))) (pg_name (i := 8) scLaw.nd rfl (.inl rfl))
          (pss_cons (ps_set (i := 9) scLaw.nd rfl (.inl rfl) (pe_join pe_str (pv 8)))
          (pss_one (ps_if (pt_cmpR op_ne (pe_callB (callR_or (call_reprG rfl hu8) SkE.call_repr_int) (by rfl) mp (by decide +kernel) (pa_cons (pe_call F5 hr5 (by rfl) c5.g c5.k c5.b .nil pass0 (pa_cons (pv 9) pa_nil)) pa_nil))
              (pe_callB (callR_or (call_reprG rfl hu8) SkE.call_repr_int) (by rfl) mp (by decide +kernel) (pa_cons (pe_call F6 hr2 (by rfl) c6.g c6.k c6.b .nil pass0 (pa_cons (pv 9) pa_nil)) pa_nil)) (nomark _))
            (pss_one (ps_ret pe_bl)) pss_nil))))))))))))))
      (pss_one (ps_ret (pe_call0 F7 hr (by rfl) c7.g c7.k c7.b .nil pass0))), ?_⟩
  -- how many turns
  refine ⟨_, rfl, a, _, rfl, .inl hS, _, _, rfl, _, _, rfl, _, rfl, ?_⟩
  have hM : ∀ L : Int, 0 ≤ L → (1 : Int) ≤ (if (if L < 3 then L else 3) > 1 then (if L < 3 then L else 3) else 1) ∧ (if (if L < 3 then L else 3) > 1 then (if L < 3 then L else 3) else 1) ≤ 3 := fun L h0 => by
    by_cases h1 : L < 3
    · rw [if_pos h1]
      by_cases h2 : L > 1
      · rw [if_pos h2]; omega
      · rw [if_neg h2]; omega
    · rw [if_neg h1]; decide
  have hM' := hM ((zs.map V.int).length : Nat) (by omega)
  generalize (if (if (((zs.map V.int).length : Nat) : Int) < 3 then (((zs.map V.int).length : Nat) : Int) else 3) > 1 then (if (((zs.map V.int).length : Nat) : Int) < 3 then (((zs.map V.int).length : Nat) : Int) else 3) else 1) = M at hM' ⊢
  obtain ⟨M1, M3⟩ := hM'
  refine ⟨by omega, by omega, ?_⟩
  refine for_range (lo := 0) (n := M.toNat) (fun i σ H' => ∃ v1 v2 v3 v4 v5 v6 v7 v8 v9 : Option V, σ = [some (.ref a), v1, v2, v3, v4, v5, v6, v7, v8, v9] ∧ Same H H') ⟨none, none, none, none, none, none, none, none, none, rfl, Same.refl _⟩ ?_ ?_
  · rintro i σ H0 hi ⟨v1, v2, v3, v4, v5, v6, v7, v8, v9, rfl, s0⟩
    have hi3 : i < 3 := by omega
    refine ⟨_, rfl, _, rfl, a, zs, 0 + (i : Int), rfl, s0.seq hS, by omega, by omega, fun S H1 s1 nS src => ?_⟩
    have hSn : H S = none := s0.free nS
    have s01 := s0.trans s1
    refine ⟨_, rfl, by decide, by decide, ?_⟩
    refine for_range (lo := 0) (n := (3 : Int).toNat) (fun j σ H' => ∃ v3 v4 v5 v6 v7 v8 v9 : Option V, σ = [some (.ref a), some (.int (0 + (i : Int))), some (.ref S), v3, v4, v5, v6, v7, v8, v9] ∧ SameX S H1 H' ∧ SrcAt H' S (3 * (0 + (i : Int)) + 100 * (j : Int))) ⟨_, _, _, _, _, _, _, rfl, SameX.refl _ _, src.le (by omega)⟩ ?_ ?_
    · rintro j σ H2 hj ⟨v3, v4, v5, v6, v7, v8, v9, rfl, x2, src2⟩
      have hj3 : j < 3 := hj
      -- some = graph_lines(any_graph(source, 6, 7))
      refine ⟨_, rfl, S, 3 * (0 + (i : Int)) + 100 * (j : Int), rfl, src2, by omega, by omega, fun p H3 g x3 src3 ga gl => ?_⟩
      refine ⟨p, g, rfl, ga, gl, fun L H4 ls s4 nL eL lne lw => ?_⟩
      have src4 := src3.same s4
      have x4 := x2.trans (x3.trans (SameX.of s4))
      have hLS := txs_src eL src4
      clear x3 src3 s4 nL ga src2
      have lwl := len_wt ls
      -- near
      refine ⟨by show 14 ≤ sizeLine; rw [sizeLine_eq]; decide, fun N1 n1 => ?_⟩
      have t1 := same_upd (o := .lst (nearA.map V.str)) n1
      have e1 : (upd H4 N1 (.lst (nearA.map V.str))) N1 = some (.lst (txs (nearA.map TL.tl))) := by rw [upd_same, txs_of]
      refine ⟨_, rfl, by show 2 ≤ sizeLine; rw [sizeLine_eq]; decide, fun N2 n2 => ?_⟩
      have t2 := same_upd (o := .lst (nearB.map V.str)) n2
      have e2 : (upd (upd H4 N1 (.lst (nearA.map V.str))) N2 (.lst (nearB.map V.str))) N2 = some (.lst (txs (nearB.map TL.tl))) := by rw [upd_same, txs_of]
      refine cat_abs (l := nearA.map TL.tl) (m := nearB.map TL.tl) (t2 _ _ e1) e2 (by decide) fun N3 G3 t3 e3 => ?_
      have u3 := t1.trans (t2.trans t3)
      refine ⟨⟨_, rfl⟩, _, rfl, SX.S [32], L, ls.map SX.S, congrArg V.str sp32, rfl, .inl (SqL.of (by rw [u3 _ _ eL, strs_S])), join_lim 32 _ (by omega), ?_⟩
      rw [SX.join_S]
      have jl := join_len 32 ls
      refine ⟨⟨_, rfl⟩, split32 (by omega) fun N4 n4 => ?_⟩
      have t4 := same_upd (o := .lst (txs (cutAt 32 (TL.joinL [32] ls)))) n4
      have wcut := cut_wt 32 (TL.joinL [32] ls)
      have lcut := len_wt (cutAt 32 (TL.joinL [32] ls))
      have l16 : (nearA.map TL.tl ++ nearB.map TL.tl).length = 16 := rfl
      refine cat_abs (l := nearA.map TL.tl ++ nearB.map TL.tl) (m := cutAt 32 (TL.joinL [32] ls)) (t4 _ _ e3) upd_same (by rw [l16]; omega) fun N5 G5 t5 e5 => ?_
      have u5 := u3.trans (t4.trans t5)
      have src5 := src4.same u5
      have x5 := x4.trans (SameX.of u5)
      have eL5 := u5 _ _ eL
      have nlen : (nearA.map TL.tl ++ nearB.map TL.tl ++ cutAt 32 (TL.joinL [32] ls)).length ≤ 1000 := by rw [List.length_append, l16]; omega
      have nne : (nearA.map TL.tl ++ nearB.map TL.tl ++ cutAt 32 (TL.joinL [32] ls)) ≠ [] := by simp
      have nws : ∀ x ∈ (nearA.map TL.tl ++ nearB.map TL.tl ++ cutAt 32 (TL.joinL [32] ls)), x.length ≤ 120 := fun x hx => by
        rcases List.mem_append.mp hx with z | z
        · exact near_lens x (by rw [List.map_append]; exact z)
        · have := mem_wt z
          omega
      generalize (nearA.map TL.tl ++ nearB.map TL.tl ++ cutAt 32 (TL.joinL [32] ls)) = near at *
      clear t1 t2 t3 t4 t5 e1 e2 e3 u3 u5 n1 n2 n4 wcut lcut l16 x4 src4 eL jl
      have hNS := txs_src e5 src5
      -- once
      refine ⟨_, rfl, _, rfl, _, rfl, S, L, N5, 3 * (0 + (i : Int)) + 100 * (j : Int) + 40, ls, near, 100, rfl, src5, by omega, by omega, eL5, lne, lw, by decide, e5, nne, nlen, nws, fun O H6 ls2 x6 src6 eO wO => ?_⟩
      have eL6 := x6 _ _ hLS eL5
      have eN6 := x6 _ _ hNS e5
      have x16 := x5.trans x6
      have hOS := txs_src eO src6
      clear x5 x6 eL5 e5 src5
      -- twice
      have args2 : ∀ (σ : L2.St) (Qc : List V → Hp → Prop), σ[2]? = some (some (.ref S)) → σ[6]? = some (some (.ref O)) → σ[5]? = some (some (.ref N5)) → (∀ B Hx lsx, Same H6 Hx → Hx B = some (.lst (txs lsx)) → lsx ≠ [] → wt lsx ≤ 530 → Qc [.ref S, .ref B, .ref N5] Hx) →
          tCons (tVar 2) (tCons (tIf (tTest (tOp (rNeNil K) (tVar 6) (tLst tNil))) (tVar 6) (tLst (tCons (tC (V.str (Str.ofString ""))) tNil))) (tCons (tVar 5) tNil)) σ H6 Qc := by
        intro σ Qc h2 h6 h5 hc
        refine ⟨_, h2, _, h6, by show 0 ≤ sizeLine; exact Nat.zero_le _, fun Z nZ => ⟨O, Z, _, rfl, rfl, (same_upd nZ).seq (SqL.of eO), SqL.of upd_same, _, rfl, ?_⟩⟩
        have sZ := same_upd (o := .lst []) nZ
        by_cases hz : ls2 = []
        · rw [show (!decide (txs ls2 = [])) = false by subst hz; rfl]
          refine iteF ⟨one_sz, fun Y nY => ⟨_, h5, hc Y _ [[]] (sZ.trans (same_upd nY)) ?_ (by simp) (by decide)⟩⟩
          rw [upd_same, show Str.ofString "" = SX.S [] by decide +kernel]
          rfl
        · rw [show (!decide (txs ls2 = [])) = true by rw [decide_eq_false (fun z => hz (List.map_eq_nil_iff.mp z))]; rfl]
          exact iteT ⟨_, h6, _, h5, hc O _ ls2 sZ (sZ _ _ eO) hz (by omega)⟩
      dsimp only [gName]
      refine tSeq_i (tAsg_i (tCall_i (args2 _ _ ?_ ?_ ?_ fun B Hx lsx sB eB neB wB => ?_)))
      · rfl
      · rfl
      · rfl
      clear args2
      have eLx := sB _ _ eL6
      have eNx := sB _ _ eN6
      refine ⟨S, B, N5, 3 * (0 + (i : Int)) + 100 * (j : Int) + 40 + 8, lsx, near, 530, rfl, src6.same sB, by omega, by omega, eB, neB, wB, by decide, eNx, nne, nlen, nws, fun Tw H7 ls3 x7 src7 eT wT => ?_⟩
      have eL7 := x7 _ _ hLS eLx
      have eN7 := x7 _ _ hNS eNx
      have eO7 := x7 _ _ hOS (sB _ _ eO)
      have x17 := x16.trans ((SameX.of sB).trans x7)
      have hTS := txs_src eT src7
      clear eLx eNx x7 sB eB src6 eO eL6 eN6 x16
      -- the four
      refine ⟨_, rfl, _, rfl, _, rfl, _, rfl, _, rfl, _, rfl, S, L, N5, 3 * (0 + (i : Int)) + 100 * (j : Int) + 40 + 8 + 8, ls, near, 100, rfl, src7, by omega, by omega, eL7, lne, lw, by decide, eN7, nne, nlen, nws, fun X H8 ls4 x8 src8 eX wX => ?_⟩
      have eL8 := x8 _ _ hLS eL7
      have eO8 := x8 _ _ hOS eO7
      have eT8 := x8 _ _ hTS eT
      have x18 := x17.trans x8
      refine ⟨by show 4 ≤ sizeLine; rw [sizeLine_eq]; decide, fun T nT => ?_⟩
      have sT := same_upd (o := .tup [V.ref L, V.ref O, V.ref Tw, V.ref X]) nT
      refine ⟨T, rfl, ⟨_, SqT.of upd_same⟩, ?_⟩
      have four : ∀ x ∈ [V.ref L, V.ref O, V.ref Tw, V.ref X], ∃ (B : Addr) (lb : List (List Nat)), x = .ref B ∧ (upd H8 T (.tup [V.ref L, V.ref O, V.ref Tw, V.ref X])) B = some (.lst (txs lb)) ∧ wt lb ≤ 2250 := fun x hx => by
        simp only [List.mem_cons, List.not_mem_nil, or_false] at hx
        rcases hx with z | z | z | z
        · exact ⟨L, ls, z, sT _ _ eL8, by omega⟩
        · exact ⟨O, ls2, z, sT _ _ eO8, by omega⟩
        · exact ⟨Tw, ls3, z, sT _ _ eT8, by omega⟩
        · exact ⟨X, ls4, z, sT _ _ eX, by omega⟩
      have eTT : (upd H8 T (.tup [V.ref L, V.ref O, V.ref Tw, V.ref X])) T = some (.tup [V.ref L, V.ref O, V.ref Tw, V.ref X]) := upd_same
      have src9 : SrcAt (upd H8 T (.tup [V.ref L, V.ref O, V.ref Tw, V.ref X])) S (3 * (0 + (i : Int)) + 100 * ((j + 1 : Nat) : Int)) := (src8.same sT).le (by omega)
      have x19 := x18.trans (SameX.of sT)
      generalize upd H8 T (.tup [V.ref L, V.ref O, V.ref Tw, V.ref X]) = H9 at *
      refine for_tup (K := K) (xs := [V.ref L, V.ref O, V.ref Tw, V.ref X]) (fun _ σ H' => ∃ v8 v9 : Option V, σ = [some (.ref a), some (.int (0 + (i : Int))), some (.ref S), some (.int (0 + (j : Int))), some (.ref L), some (.ref N5), some (.ref O), some (.ref Tw), v8, v9] ∧ Same H9 H') ⟨_, _, rfl, Same.refl _⟩ ?_ ?_ ?_
      · rintro _ σ H' _ ⟨v8, v9, rfl, s'⟩
        exact SqT.of (s' _ _ eTT)
      · rintro n x σ H' hx ⟨v8, v9, rfl, s'⟩
        obtain ⟨B, lb, rfl, eB, wB⟩ := four x (List.mem_of_getElem? hx)
        refine ⟨⟨_, rfl⟩, _, rfl, SX.S [10], B, lb.map SX.S, congrArg V.str nl10, rfl, .inl (SqL.of (by rw [s' _ _ eB, strs_S])), join_lim 10 _ (by omega), ?_⟩
        rw [SX.join_S]
        have jl := join_len 10 lb
        generalize TL.joinL [10] lb = t at *
        have tl : t.length ≤ 2250 := by omega
        have tc : t.count 32 ≤ 3700 := Nat.le_trans List.count_le_length (by omega)
        refine ⟨_, rfl, t, rfl, by omega, fun k hk H10 s10 => ?_, fun g hg p H10 s10 ga => ?_⟩
        · have kl := parse_bad hk
          refine .inr ⟨(k : Int), rfl, log_k (by omega), _, rfl, t, rfl, by omega, tc, fun k' hk' H11 s11 => ?_, fun g hg => by rw [hk] at hg; cases hg⟩
          have ek : k = k' := by rw [hk] at hk'; exact Out.bad.inj hk'
          subst ek
          refine .inr ⟨(k : Int), rfl, log_k (by omega), rfl, _, rfl, ?_⟩
          rw [decide_eq_true rfl]
          exact iteF ⟨_, _, rfl, s'.trans (s10.trans s11)⟩
        · have G := (parseM_ok hg).1
          refine .inl ⟨p, g, rfl, ga, G.sm, _, rfl, t, rfl, by omega, tc, fun k' hk' => (by rw [hg] at hk'; cases hk'), fun g' hg' p' H11 s11 ga' => ?_⟩
          have eg : g = g' := by rw [hg] at hg'; exact Out.ok.inj hg'
          subst eg
          refine .inl ⟨p', g, rfl, ga', G.sm, rfl, _, rfl, ?_⟩
          rw [decide_eq_true rfl]
          exact iteF ⟨_, _, rfl, s'.trans (s10.trans s11)⟩
      · rintro σ H' ⟨v8, v9, rfl, s'⟩
        exact ⟨_, _, _, _, _, _, _, rfl, x19.trans (SameX.of s'), src9.same s'⟩
    · rintro σ H2 ⟨v3, v4, v5, v6, v7, v8, v9, rfl, x2, src2⟩
      refine ⟨_, _, _, _, _, _, _, _, _, rfl, fun b o e => x2 _ _ (ne_of_none e hSn) (s01 _ _ e)⟩
  · rintro σ H' ⟨v1, v2, v3, v4, v5, v6, v7, v8, v9, rfl, s'⟩
    exact ⟨rfl, fun H'' _ => q H''⟩
end
end Fl
-- D14
set_option maxHeartbeats 4000000
namespace Fl
open PySem PySem.Spec PyProof.Rows L2
/-! ### what the top has written, the head -/
theorem exm_one {K : PySem.W.Frag} {C S : Addr} {b : Bool} (h1 : PySem.W.subIn K (.ref S) (.type "BaseException") = some true) (h2 : PySem.W.isClsIn K S = true) (h3 : PySem.W.typeIn K (.ref S) = some (.type "type")) (h4 : PySem.W.subIn K (.ref C) (.ref S) = some b) :
    PySem.W.exmOne K (.ref C) (.ref S) = some b := by
  have e1 : (PySem.W.subIn K (.ref S) (.type "BaseException") == some true) = true := by rw [h1]; rfl
  have e2 : ((PySem.W.clsIn K S).isSome && PySem.W.typeIn K (.ref S) == some (.type "type")) = true := by
    have h2' : (PySem.W.clsIn K S).isSome = true := h2
    rw [h2', h3]
    rfl
  show (if (PySem.W.subIn K (.ref S) (.type "BaseException") == some true) = true then (if ((PySem.W.clsIn K S).isSome && PySem.W.typeIn K (.ref S) == some (.type "type")) = true then PySem.W.subIn K (.ref C) (.ref S) else none) else none) = some b
  rw [if_pos e1, if_pos e2]
  exact h4
theorem exm_three {K : PySem.W.Frag} {c c1 c2 c3 : Value} {b2 b3 : Bool} (h1 : PySem.W.exmOne K c c1 = some true) (h2 : PySem.W.exmOne K c c2 = some b2) (h3 : PySem.W.exmOne K c c3 = some b3) : PySem.W.exmAny K c [c1, c2, c3] = some true := by
  unfold PySem.W.exmAny
  rw [h1]
  unfold PySem.W.exmAny
  rw [h2]
  unfold PySem.W.exmAny
  rw [h3]
  rfl
theorem all_mk {P : Program} {w : World} {K : PySem.W.Frag} {h : Heap} {mg : Str → Option Value} {fa C C1 C2 C3 fI : Addr} (X : K.In h) (G : h.Ns mainGlobals mg) (hfa : mg "law" = some (.ref fa))
    {f0 f1 f2 f3 f4 f5 f6 f7 f8 f9 f10 f11 f12 f13 f14 f15 f16 f17 f18 f19 : Addr}
    {od0 an0 od1 an1 od2 an2 od3 an3 od4 an4 od5 an5 od6 an6 od7 an7 od8 an8 od9 an9 od10 an10 od11 an11 od12 an12 od13 an13 od14 an14 od15 an15 od16 an16 od17 an17 od18 an18 od19 an19 odI anI : Option Addr} {sl0 sl1 sl2 sl3 sl4 sl5 sl6 sl7 sl8 sl9 sl10 sl11 sl12 sl13 sl14 sl15 sl16 sl17 sl18 sl19 slI : Array (Option Value)} {oc0 kV0 dc0 pm0 cd0 ct0 oc1 kV1 dc1 pm1 cd1 ct1 oc2 kV2 dc2 pm2 cd2 ct2 oc3 kV3 dc3 pm3 cd3 ct3 oc4 kV4 dc4 pm4 cd4 ct4 oc5 kV5 dc5 pm5 cd5 ct5 oc6 kV6 dc6 pm6 cd6 ct6 oc7 kV7 dc7 pm7 cd7 ct7 oc8 kV8 dc8 pm8 cd8 ct8 oc9 kV9 dc9 pm9 cd9 ct9 oc10 kV10 dc10 pm10 cd10 ct10 oc11 kV11 dc11 pm11 cd11 ct11 oc12 kV12 dc12 pm12 cd12 ct12 oc13 kV13 dc13 pm13 cd13 ct13 oc14 kV14 dc14 pm14 cd14 ct14 oc15 kV15 dc15 pm15 cd15 ct15 oc16 kV16 dc16 pm16 cd16 ct16 oc17 kV17 dc17 pm17 cd17 ct17 oc18 kV18 dc18 pm18 cd18 ct18 oc19 kV19 dc19 pm19 cd19 ct19 ocI kVI dcI pmI cdI ctI : Value} {tN tE tC tD tS : Tok}
    {nm q : Str} {N : Addr} {bs : List Value} {sn : List Str} {sub : List Value} {ab : Bool} {col : Option Bool} {dd : Option Addr} {m0 m1 m2 m3 m5 : Option Value}
    (a0 : PySem.W.nsIn K mainGlobals "is_index" = some (some (.ref f0))) (l0 : K.lookup f0 = some ⟨oc0, od0, .func (PySem.W.fnOf "is_index" "is_index" (defArgs sIdx) (defBody sIdx) (defScope sIdx) .none kV0 dc0 pm0 an0 cd0 ct0), sl0⟩) (c0 : PySem.W.codeIn K cd0 "is_index" = true) (k0 : PySem.W.keepIn K (.ref f0) = true)
    (a1 : PySem.W.nsIn K mainGlobals "graph_fault" = some (some (.ref f1))) (l1 : K.lookup f1 = some ⟨oc1, od1, .func (PySem.W.fnOf "graph_fault" "graph_fault" (defArgs sFault) (defBody sFault) (defScope sFault) .none kV1 dc1 pm1 an1 cd1 ct1), sl1⟩) (c1 : PySem.W.codeIn K cd1 "graph_fault" = true) (k1 : PySem.W.keepIn K (.ref f1) = true)
    (a2 : PySem.W.nsIn K mainGlobals "check_graph" = some (some (.ref f2))) (l2 : K.lookup f2 = some ⟨oc2, od2, .func (PySem.W.fnOf "check_graph" "check_graph" (defArgs sCheck) (defBody sCheck) (defScope sCheck) .none kV2 dc2 pm2 an2 cd2 ct2), sl2⟩) (c2 : PySem.W.codeIn K cd2 "check_graph" = true) (k2 : PySem.W.keepIn K (.ref f2) = true)
    (a3 : PySem.W.nsIn K mainGlobals "parsed_number" = some (some (.ref f3))) (l3 : K.lookup f3 = some ⟨oc3, od3, .func (PySem.W.fnOf "parsed_number" "parsed_number" (defArgs sPNum) (defBody sPNum) (defScope sPNum) .none kV3 dc3 pm3 an3 cd3 ct3), sl3⟩) (c3 : PySem.W.codeIn K cd3 "parsed_number" = true) (k3 : PySem.W.keepIn K (.ref f3) = true)
    (a4 : PySem.W.nsIn K mainGlobals "lines_of" = some (some (.ref f4))) (l4 : K.lookup f4 = some ⟨oc4, od4, .func (PySem.W.fnOf "lines_of" "lines_of" (defArgs sLines) (defBody sLines) (defScope sLines) .none kV4 dc4 pm4 an4 cd4 ct4), sl4⟩) (c4 : PySem.W.codeIn K cd4 "lines_of" = true) (k4 : PySem.W.keepIn K (.ref f4) = true)
    (a5 : PySem.W.nsIn K mainGlobals "parsed_head" = some (some (.ref f5))) (l5 : K.lookup f5 = some ⟨oc5, od5, .func (PySem.W.fnOf "parsed_head" "parsed_head" (defArgs sHead) (defBody sHead) (defScope sHead) .none kV5 dc5 pm5 an5 cd5 ct5), sl5⟩) (c5 : PySem.W.codeIn K cd5 "parsed_head" = true) (k5 : PySem.W.keepIn K (.ref f5) = true)
    (a6 : PySem.W.nsIn K mainGlobals "parse_graph" = some (some (.ref f6))) (l6 : K.lookup f6 = some ⟨oc6, od6, .func (PySem.W.fnOf "parse_graph" "parse_graph" (defArgs sParse) (defBody sParse) (defScope sParse) .none kV6 dc6 pm6 an6 cd6 ct6), sl6⟩) (c6 : PySem.W.codeIn K cd6 "parse_graph" = true) (k6 : PySem.W.keepIn K (.ref f6) = true)
    (a7 : PySem.W.nsIn K mainGlobals "line_of" = some (some (.ref f7))) (l7 : K.lookup f7 = some ⟨oc7, od7, .func (PySem.W.fnOf "line_of" "line_of" (defArgs sLine) (defBody sLine) (defScope sLine) .none kV7 dc7 pm7 an7 cd7 ct7), sl7⟩) (c7 : PySem.W.codeIn K cd7 "line_of" = true) (k7 : PySem.W.keepIn K (.ref f7) = true)
    (a8 : PySem.W.nsIn K mainGlobals "graph_text" = some (some (.ref f8))) (l8 : K.lookup f8 = some ⟨oc8, od8, .func (PySem.W.fnOf "graph_text" "graph_text" (defArgs sText) (defBody sText) (defScope sText) .none kV8 dc8 pm8 an8 cd8 ct8), sl8⟩) (c8 : PySem.W.codeIn K cd8 "graph_text" = true) (k8 : PySem.W.keepIn K (.ref f8) = true)
    (a9 : PySem.W.nsIn K mainGlobals "_law_source" = some (some (.ref f9))) (l9 : K.lookup f9 = some ⟨oc9, od9, .func (PySem.W.fnOf "_law_source" "_law_source" (defArgs sSrc) (defBody sSrc) (defScope sSrc) .none kV9 dc9 pm9 an9 cd9 ct9), sl9⟩) (c9 : PySem.W.codeIn K cd9 "_law_source" = true) (k9 : PySem.W.keepIn K (.ref f9) = true)
    (a10 : PySem.W.nsIn K mainGlobals "_law_next" = some (some (.ref f10))) (l10 : K.lookup f10 = some ⟨oc10, od10, .func (PySem.W.fnOf "_law_next" "_law_next" (defArgs sNext) (defBody sNext) (defScope sNext) .none kV10 dc10 pm10 an10 cd10 ct10), sl10⟩) (c10 : PySem.W.codeIn K cd10 "_law_next" = true) (k10 : PySem.W.keepIn K (.ref f10) = true)
    (a11 : PySem.W.nsIn K mainGlobals "_law_mixed" = some (some (.ref f11))) (l11 : K.lookup f11 = some ⟨oc11, od11, .func (PySem.W.fnOf "_law_mixed" "_law_mixed" (defArgs sMixed) (defBody sMixed) (defScope sMixed) .none kV11 dc11 pm11 an11 cd11 ct11), sl11⟩) (c11 : PySem.W.codeIn K cd11 "_law_mixed" = true) (k11 : PySem.W.keepIn K (.ref f11) = true)
    (a12 : PySem.W.nsIn K mainGlobals "_law_any_graph" = some (some (.ref f12))) (l12 : K.lookup f12 = some ⟨oc12, od12, .func (PySem.W.fnOf "_law_any_graph" "_law_any_graph" (defArgs sAny) (defBody sAny) (defScope sAny) .none kV12 dc12 pm12 an12 cd12 ct12), sl12⟩) (c12 : PySem.W.codeIn K cd12 "_law_any_graph" = true) (k12 : PySem.W.keepIn K (.ref f12) = true)
    (a13 : PySem.W.nsIn K mainGlobals "_law_graph_lines" = some (some (.ref f13))) (l13 : K.lookup f13 = some ⟨oc13, od13, .func (PySem.W.fnOf "_law_graph_lines" "_law_graph_lines" (defArgs sGLines) (defBody sGLines) (defScope sGLines) .none kV13 dc13 pm13 an13 cd13 ct13), sl13⟩) (c13 : PySem.W.codeIn K cd13 "_law_graph_lines" = true) (k13 : PySem.W.keepIn K (.ref f13) = true)
    (a14 : PySem.W.nsIn K mainGlobals "_law_changed_lines" = some (some (.ref f14))) (l14 : K.lookup f14 = some ⟨oc14, od14, .func (PySem.W.fnOf "_law_changed_lines" "_law_changed_lines" (defArgs sChg) (defBody sChg) (defScope sChg) .none kV14 dc14 pm14 an14 cd14 ct14), sl14⟩) (c14 : PySem.W.codeIn K cd14 "_law_changed_lines" = true) (k14 : PySem.W.keepIn K (.ref f14) = true)
    (a15 : PySem.W.nsIn K mainGlobals "_law_plain_number" = some (some (.ref f15))) (l15 : K.lookup f15 = some ⟨oc15, od15, .func (PySem.W.fnOf "_law_plain_number" "_law_plain_number" (defArgs sPlain) (defBody sPlain) (defScope sPlain) .none kV15 dc15 pm15 an15 cd15 ct15), sl15⟩) (c15 : PySem.W.codeIn K cd15 "_law_plain_number" = true) (k15 : PySem.W.keepIn K (.ref f15) = true)
    (a16 : PySem.W.nsIn K mainGlobals "_law_parsed_graph" = some (some (.ref f16))) (l16 : K.lookup f16 = some ⟨oc16, od16, .func (PySem.W.fnOf "_law_parsed_graph" "_law_parsed_graph" (defArgs sLPar) (defBody sLPar) (defScope sLPar) .none kV16 dc16 pm16 an16 cd16 ct16), sl16⟩) (c16 : PySem.W.codeIn K cd16 "_law_parsed_graph" = true) (k16 : PySem.W.keepIn K (.ref f16) = true)
    (a17 : PySem.W.nsIn K mainGlobals "_law_told_graph" = some (some (.ref f17))) (l17 : K.lookup f17 = some ⟨oc17, od17, .func (PySem.W.fnOf "_law_told_graph" "_law_told_graph" (defArgs sTold) (defBody sTold) (defScope sTold) .none kV17 dc17 pm17 an17 cd17 ct17), sl17⟩) (c17 : PySem.W.codeIn K cd17 "_law_told_graph" = true) (k17 : PySem.W.keepIn K (.ref f17) = true)
    (a18 : PySem.W.nsIn K mainGlobals "_law_graph_limits_right" = some (some (.ref f18))) (l18 : K.lookup f18 = some ⟨oc18, od18, .func (PySem.W.fnOf "_law_graph_limits_right" "_law_graph_limits_right" (defArgs sLim) (defBody sLim) (defScope sLim) .none kV18 dc18 pm18 an18 cd18 ct18), sl18⟩) (c18 : PySem.W.codeIn K cd18 "_law_graph_limits_right" = true) (k18 : PySem.W.keepIn K (.ref f18) = true)
    (a19 : PySem.W.nsIn K mainGlobals "law" = some (some (.ref f19))) (l19 : K.lookup f19 = some ⟨oc19, od19, .func (PySem.W.fnOf "law" "law" (defArgs sLaw) (defBody sLaw) (defScope sLaw) .none kV19 dc19 pm19 an19 cd19 ct19), sl19⟩) (c19 : PySem.W.codeIn K cd19 "law" = true) (k19 : PySem.W.keepIn K (.ref f19) = true)
    (aC : PySem.W.nsIn K mainGlobals "BadText" = some (some (.ref C))) (aC1 : PySem.W.nsIn K mainGlobals "InvalidValue" = some (some (.ref C1))) (aC2 : PySem.W.nsIn K mainGlobals "InvalidState" = some (some (.ref C2))) (aC3 : PySem.W.nsIn K mainGlobals "LimitReached" = some (some (.ref C3)))
    (xL : K.lookup C = some (excClassObj nm q C N bs [.ref C1, .type "ValueError", .type "Exception", .type "BaseException", .type "object"] true sn sub ab col dd m0 m1 m2 m3 m5 "ValueError.__new__"))
    (sa : PySem.W.findIn K (.ref C) "__setattr__" = some (some (.builtin "object.__setattr__"))) (ga : PySem.W.findIn K (.ref C) "__getattribute__" = some (some (.builtin "BaseException.__getattribute__"))) (gg : PySem.W.findIn K (.ref C) "__getattr__" = some none) (nl : PySem.W.findIn K (.ref C) "line" = some none)
    (aI : PySem.W.findIn K (.ref C) "__init__" = some (some (.ref fI))) (tI : PySem.W.typeIn K (.ref fI) = some (.type "function")) (lI : K.lookup fI = some ⟨ocI, odI, .func (PySem.W.fnOf "__init__" "BadText.__init__" (defArgs sInit) (defBody sInit) (defScope sInit) .none kVI dcI pmI anI cdI ctI), slI⟩) (cI : PySem.W.codeIn K cdI "BadText.__init__" = true) (kI : PySem.W.keepIn K (.ref fI) = true)
    (kC : PySem.W.keepIn K (.ref C) = true) (eC : PySem.W.subIn K (.ref C) (.type "BaseException") = some true) (yC : PySem.W.typeIn K (.ref C) = some (.type "type")) (hC : PySem.W.hasDictIn K C = true)
    (e1 : PySem.W.subIn K (.ref C1) (.type "BaseException") = some true) (j1 : PySem.W.isClsIn K C1 = true) (y1 : PySem.W.typeIn K (.ref C1) = some (.type "type")) (s1 : PySem.W.subIn K (.ref C) (.ref C1) = some true)
    (e2 : PySem.W.subIn K (.ref C2) (.type "BaseException") = some true) (j2 : PySem.W.isClsIn K C2 = true) (y2 : PySem.W.typeIn K (.ref C2) = some (.type "type")) (s2 : PySem.W.subIn K (.ref C) (.ref C2) = some false)
    (e3 : PySem.W.subIn K (.ref C3) (.type "BaseException") = some true) (j3 : PySem.W.isClsIn K C3 = true) (y3 : PySem.W.typeIn K (.ref C3) = some (.type "type")) (s3 : PySem.W.subIn K (.ref C) (.ref C3) = some false)
    (z_bool : PySem.W.nsIn K mainGlobals "bool" = some none) (z_len : PySem.W.nsIn K mainGlobals "len" = some none) (z_all : PySem.W.nsIn K mainGlobals "all" = some none) (z_int : PySem.W.nsIn K mainGlobals "int" = some none) (z_isinstance : PySem.W.nsIn K mainGlobals "isinstance" = some none) (z_str : PySem.W.nsIn K mainGlobals "str" = some none) (z_sum : PySem.W.nsIn K mainGlobals "sum" = some none) (z_range : PySem.W.nsIn K mainGlobals "range" = some none) (z_enumerate : PySem.W.nsIn K mainGlobals "enumerate" = some none) (z_tuple : PySem.W.nsIn K mainGlobals "tuple" = some none) (z_set : PySem.W.nsIn K mainGlobals "set" = some none) (z_list : PySem.W.nsIn K mainGlobals "list" = some none) (z_max : PySem.W.nsIn K mainGlobals "max" = some none) (z_min : PySem.W.nsIn K mainGlobals "min" = some none) (z_repr : PySem.W.nsIn K mainGlobals "repr" = some none)
    (iN : PySem.W.nsIn K mainGlobals "MAX_NODES" = some (some (.int 60 tN))) (iE : PySem.W.nsIn K mainGlobals "MAX_EDGES" = some (some (.int 120 tE))) (iC : PySem.W.nsIn K mainGlobals "MAX_CHARACTERS" = some (some (.int 250000 tC))) (iD : PySem.W.nsIn K mainGlobals "MAX_DIGITS" = some (some (.int 1000 tD))) (iS : PySem.W.nsIn K mainGlobals "DIGITS" = some (some (.str "0123456789" tS))) :
    ∃ fd : FuncData, (∀ (s : Shared) (v : Value), BindsTo s fd ⟨[v], []⟩ [("_law_script", v)]) ∧ ∀ base : Heap, K.In base → base.Ns mainGlobals mg → NoDig base → EnterG P w K mg base fa fd "_law_script" (spLaw K) := by
  have e := hfa.symm.trans (PySem.W.mg_of X G a19)
  cases e
  have n_len := PySem.W.mg_none_of X G z_len
  have n_all := PySem.W.mg_none_of X G z_all
  have n_int := PySem.W.mg_none_of X G z_int
  have n_isinstance := PySem.W.mg_none_of X G z_isinstance
  have n_str := PySem.W.mg_none_of X G z_str
  have n_sum := PySem.W.mg_none_of X G z_sum
  have n_range := PySem.W.mg_none_of X G z_range
  have n_enumerate := PySem.W.mg_none_of X G z_enumerate
  have n_tuple := PySem.W.mg_none_of X G z_tuple
  have n_set := PySem.W.mg_none_of X G z_set
  have n_list := PySem.W.mg_none_of X G z_list
  have n_max := PySem.W.mg_none_of X G z_max
  have n_min := PySem.W.mg_none_of X G z_min
  have n_repr := PySem.W.mg_none_of X G z_repr
  have vN : ∃ t, mg "MAX_NODES" = some (.int 60 t) := ⟨_, PySem.W.mg_of X G iN⟩
  have vE : ∃ t, mg "MAX_EDGES" = some (.int 120 t) := ⟨_, PySem.W.mg_of X G iE⟩
  have vC : ∃ t, mg "MAX_CHARACTERS" = some (.int 250000 t) := ⟨_, PySem.W.mg_of X G iC⟩
  have vD : ∃ t, mg "MAX_DIGITS" = some (.int 1000 t) := ⟨_, PySem.W.mg_of X G iD⟩
  have vS : ∃ t, mg "DIGITS" = some (.str "0123456789" t) := ⟨_, PySem.W.mg_of X G iS⟩
  have F0 := fun_mk (st := sIdx) l0 c0 k0
  have b0 := F0.binds (ps := ["value", "many"]) fun _ _ _ _ _ _ us hl => match us, hl with | [_, _], _ => rfl
  have g0 := PySem.W.mg_of X G a0
  have F1 := fun_mk (st := sFault) l1 c1 k1
  have b1 := F1.binds (ps := ["value"]) fun _ _ _ _ _ _ us hl => match us, hl with | [_], _ => rfl
  have g1 := PySem.W.mg_of X G a1
  have F2 := fun_mk (st := sCheck) l2 c2 k2
  have b2 := F2.binds (ps := ["graph"]) fun _ _ _ _ _ _ us hl => match us, hl with | [_], _ => rfl
  have g2 := PySem.W.mg_of X G a2
  have F3 := fun_mk (st := sPNum) l3 c3 k3
  have b3 := F3.binds (ps := ["word"]) fun _ _ _ _ _ _ us hl => match us, hl with | [_], _ => rfl
  have g3 := PySem.W.mg_of X G a3
  have F4 := fun_mk (st := sLines) l4 c4 k4
  have b4 := F4.binds (ps := ["text"]) fun _ _ _ _ _ _ us hl => match us, hl with | [_], _ => rfl
  have g4 := PySem.W.mg_of X G a4
  have F5 := fun_mk (st := sHead) l5 c5 k5
  have b5 := F5.binds (ps := ["line"]) fun _ _ _ _ _ _ us hl => match us, hl with | [_], _ => rfl
  have g5 := PySem.W.mg_of X G a5
  have F6 := fun_mk (st := sParse) l6 c6 k6
  have b6 := F6.binds (ps := ["text"]) fun _ _ _ _ _ _ us hl => match us, hl with | [_], _ => rfl
  have g6 := PySem.W.mg_of X G a6
  have F7 := fun_mk (st := sLine) l7 c7 k7
  have b7 := F7.binds (ps := ["words"]) fun _ _ _ _ _ _ us hl => match us, hl with | [_], _ => rfl
  have g7 := PySem.W.mg_of X G a7
  have F8 := fun_mk (st := sText) l8 c8 k8
  have b8 := F8.binds (ps := ["graph"]) fun _ _ _ _ _ _ us hl => match us, hl with | [_], _ => rfl
  have g8 := PySem.W.mg_of X G a8
  have F9 := fun_mk (st := sSrc) l9 c9 k9
  have b9 := F9.binds (ps := ["_law_script", "_law_k"]) fun _ _ _ _ _ _ us hl => match us, hl with | [_, _], _ => rfl
  have g9 := PySem.W.mg_of X G a9
  have F10 := fun_mk (st := sNext) l10 c10 k10
  have b10 := F10.binds (ps := ["_law_source_here", "_law_many"]) fun _ _ _ _ _ _ us hl => match us, hl with | [_, _], _ => rfl
  have g10 := PySem.W.mg_of X G a10
  have F11 := fun_mk (st := sMixed) l11 c11 k11
  have b11 := F11.binds (ps := ["_law_source_here", "_law_items"]) fun _ _ _ _ _ _ us hl => match us, hl with | [_, _], _ => rfl
  have g11 := PySem.W.mg_of X G a11
  have F12 := fun_mk (st := sAny) l12 c12 k12
  have b12 := F12.binds (ps := ["_law_source_here", "_law_nodes", "_law_edges"]) fun _ _ _ _ _ _ us hl => match us, hl with | [_, _, _], _ => rfl
  have g12 := PySem.W.mg_of X G a12
  have F13 := fun_mk (st := sGLines) l13 c13 k13
  have b13 := F13.binds (ps := ["_law_graph"]) fun _ _ _ _ _ _ us hl => match us, hl with | [_], _ => rfl
  have g13 := PySem.W.mg_of X G a13
  have F14 := fun_mk (st := sChg) l14 c14 k14
  have b14 := F14.binds (ps := ["_law_source_here", "_law_lines", "_law_near"]) fun _ _ _ _ _ _ us hl => match us, hl with | [_, _, _], _ => rfl
  have g14 := PySem.W.mg_of X G a14
  have F15 := fun_mk (st := sPlain) l15 c15 k15
  have b15 := F15.binds (ps := ["_law_word", "_law_most"]) fun _ _ _ _ _ _ us hl => match us, hl with | [_, _], _ => rfl
  have g15 := PySem.W.mg_of X G a15
  have F16 := fun_mk (st := sLPar) l16 c16 k16
  have b16 := F16.binds (ps := ["_law_spelt"]) fun _ _ _ _ _ _ us hl => match us, hl with | [_], _ => rfl
  have g16 := PySem.W.mg_of X G a16
  have F17 := fun_mk (st := sTold) l17 c17 k17
  have b17 := F17.binds (ps := ["_law_spelt"]) fun _ _ _ _ _ _ us hl => match us, hl with | [_], _ => rfl
  have g17 := PySem.W.mg_of X G a17
  have F18 := fun_mk (st := sLim) l18 c18 k18
  have b18 := F18.binds (ps := []) fun _ _ _ _ _ _ us hl => match us, hl with | [], _ => rfl
  have g18 := PySem.W.mg_of X G a18
  have F19 := fun_mk (st := sLaw) l19 c19 k19
  have FI := fun_mk (st := sInit) lI cI kI
  have B : BadC K mg C fI _ := ⟨PySem.W.mg_of X G aC, ⟨⟨nm, q, N, bs, _, sn, sub, ab, col, dd, m0, m1, m2, m3, m5, xL, by show PySem.HandSPX.refsVE [.type "ValueError", .type "Exception", .type "BaseException", .type "object"] = true; decide +kernel⟩, sa, eC, yC, kC⟩, nl, aI, tI, FI⟩
  have XC : XfC K C := ⟨ga, gg, eC, hC⟩
  have ex := exm_three (exm_one e1 j1 y1 s1) (exm_one e2 j2 y2 s2) (exm_one e3 j3 y3 s3)
  refine ⟨PySem.W.fnOf "law" "law" (defArgs sLaw) (defBody sLaw) (defScope sLaw) .none kV19 dc19 pm19 an19 cd19 ct19, fun s v => .of_eq rfl, fun base _ _ nd => ?_⟩
  have O_idx : FnOk P w K mg base CX0 1 _ _ _ _ := ok_idx F0 n_isinstance n_int (PySem.W.mg_none_of X G z_bool)
  have O_fault : FnOk P w K mg base CX0 2 _ _ _ _ := ok_fault F1 O_idx b0 g0 k0 n_isinstance n_tuple n_len n_all n_sum n_range vN vE
  have O_check : FnOk P w K mg base CX0 3 _ _ _ _ := ok_check F2 O_fault b1 g1 k1
  have O_line : FnOk P w K mg base CX0 1 _ _ _ _ := ok_line (k := 0) F7 n_str
  have O_text : FnOk P w K mg base CX0 4 _ _ _ _ := ok_text F8 O_check b2 g2 k2 O_line b7 g7 k7 n_len n_sum
  have O_pnum : FnOk P w K mg base CX0 1 _ _ _ _ := ok_pnum (k := 0) F3 nd n_len n_all n_int vD vS
  have O_lines : FnOk P w K mg base CX0 1 _ _ _ _ := ok_lines (k := 0) F4 n_isinstance n_str n_len vC
  have O_head : FnOk P w K mg base (L2.CX P w) 3 _ _ _ _ := ok_head (k := 0) F5 B O_pnum b3 g3 k3 n_len vN vE
  have O_parse : FnOk P w K mg base (L2.CX P w) 4 _ _ _ _ := ok_parse F6 B O_pnum b3 g3 k3 O_lines b4 g4 k4 O_head b5 g5 k5 n_len n_enumerate n_tuple
  have O_told : FnOk P w K mg base CX0 5 _ _ _ _ := ok_told F17 B XC O_parse b6 g6 k6 O_text b8 g8 k8 (PySem.W.mg_of X G aC1) (PySem.W.mg_of X G aC2) (PySem.W.mg_of X G aC3) ex n_isinstance
  have O_plain : FnOk P w K mg base CX0 1 _ _ _ _ := ok_plain (k := 0) F15 nd n_len n_int n_str
  have O_lpar : FnOk P w K mg base CX0 2 _ _ _ _ := ok_lpar F16 O_plain b15 g15 k15 n_len n_enumerate n_tuple n_set
  have O_src : FnOk P w K mg base CX0 1 _ _ _ _ := ok_src (k := 0) F9 n_len
  have O_next : FnOk P w K mg base CX0 1 _ _ _ _ := ok_next (k := 0) F10
  have O_mixed : FnOk P w K mg base CX0 2 _ _ _ _ := ok_mixed F11 O_next b10 g10 k10 n_len n_list
  have O_any : FnOk P w K mg base CX0 3 _ _ _ _ := ok_any F12 O_next b10 g10 k10 O_mixed b11 g11 k11 n_len n_list n_range n_tuple
  have O_gl : FnOk P w K mg base CX0 1 _ _ _ _ := ok_glines (k := 0) F13 n_len n_sum n_str
  have O_chg : FnOk P w K mg base CX0 2 _ _ _ _ := ok_chg F14 O_next b10 g10 k10 n_len
  have O_lim : FnOk P w K mg base CX0 6 _ _ _ _ := ok_lim F18 O_told b17 g17 k17 n_str n_range n_isinstance n_tuple
  exact ok_law F19 O_src ⟨b9, g9, k9⟩ O_any ⟨b12, g12, k12⟩ O_gl ⟨b13, g13, k13⟩ O_chg ⟨b14, g14, k14⟩ O_told ⟨b17, g17, k17⟩ O_lpar ⟨b16, g16, k16⟩ O_lim ⟨b18, g18, k18⟩ n_len n_range n_max n_min n_repr
theorem walk {l : PySem.W.OpenLaw} {q : Program} {loose : List Str} {XP : (Str → Option Value) → Heap → Prop} {YP : World → Heap → Prop} {d : DefRec} {K : Params → PySem.W.Frag} (hn : l.most = some 63) (hdf : d.params.defaults = [])
    (hY : ∀ (w : World) (h : Heap), YP w h → (K w.params).In h)
    (F : ∀ (w : World) (mg : Str → Option Value) (fa : Addr) (h : Heap), (K w.params).In h → h.Ns mainGlobals mg → mg d.name = some (.ref fa) →
      ∃ fd : FuncData, (∀ (s : Shared) (u : Value), BindsTo s fd ⟨[u], []⟩ [("_law_script", u)]) ∧ ∀ base : Heap, (K w.params).In base → base.Ns mainGlobals mg → NoDig base → EnterG l.prog w (K w.params) mg base fa fd "_law_script" (spLaw (K w.params))) :
    PySem.W.WalkO q loose XP YP l.row.toRowW d [] (fun f vs => PySem.call f vs) :=
  walk_G (n := 63) (x := "_law_script") hn (by decide) hdf fun w mg fa h Y G hmg => by
    obtain ⟨fd, hb, hF⟩ := F w mg fa h (hY w h Y) G hmg
    exact ⟨K w.params, fd, spLaw (K w.params), hY w h Y, hb, fun H a ns _ hS => ⟨a, ns, rfl, hS, fun _ => rfl⟩, hF⟩
end Fl
-- H1
open PySem PySem.W PyProof.Rows in
set_option maxRecDepth 100000 in
set_option maxHeartbeats 0 in
theorem PySem.Challenge.cw_flatsum_k54_whole_texts_of_no_graph_holds : PySem.Challenge.rw_flatsum_k54_whole_texts_of_no_graph.Holds := by
  w_on; o_law; k_head; (case hw => w_witness2)
  k_fill
  refine Fl.walk (l := PySem.Challenge.rw_flatsum_k54_whole_texts_of_no_graph) rfl rfl (fun w h Y => PySem.W.kIn_of Y) ?F
  case F =>
    intro w mg fa h KX G hmg
    refine' Fl.all_mk KX G hmg ?a0 ?l0 ?c0 ?k0 ?a1 ?l1 ?c1 ?k1 ?a2 ?l2 ?c2 ?k2 ?a3 ?l3 ?c3 ?k3 ?a4 ?l4 ?c4 ?k4 ?a5 ?l5 ?c5 ?k5 ?a6 ?l6 ?c6 ?k6 ?a7 ?l7 ?c7 ?k7 ?a8 ?l8 ?c8 ?k8 ?a9 ?l9 ?c9 ?k9 ?a10 ?l10 ?c10 ?k10 ?a11 ?l11 ?c11 ?k11 ?a12 ?l12 ?c12 ?k12 ?a13 ?l13 ?c13 ?k13 ?a14 ?l14 ?c14 ?k14 ?a15 ?l15 ?c15 ?k15 ?a16 ?l16 ?c16 ?k16 ?a17 ?l17 ?c17 ?k17 ?a18 ?l18 ?c18 ?k18 ?a19 ?l19 ?c19 ?k19 ?aC ?aC1 ?aC2 ?aC3 ?xL ?sa ?ga ?gg ?nl ?aI ?tI ?lI ?cI ?kI ?kC ?eC ?yC ?hC ?e1 ?j1 ?y1 ?s1 ?e2 ?j2 ?y2 ?s2 ?e3 ?j3 ?y3 ?s3 ?z_bool ?z_len ?z_all ?z_int ?z_isinstance ?z_str ?z_sum ?z_range ?z_enumerate ?z_tuple ?z_set ?z_list ?z_max ?z_min ?z_repr ?iN ?iE ?iC ?iD ?iS
    (case a0 => k_is)
    (case l0 => k_is)
    (case c0 => k_is)
    (case k0 => k_is)
    (case a1 => k_is)
    (case l1 => k_is)
    (case c1 => k_is)
    (case k1 => k_is)
    (case a2 => k_is)
    (case l2 => k_is)
    (case c2 => k_is)
    (case k2 => k_is)
    (case a3 => k_is)
    (case l3 => k_is)
    (case c3 => k_is)
    (case k3 => k_is)
    (case a4 => k_is)
    (case l4 => k_is)
    (case c4 => k_is)
    (case k4 => k_is)
    (case a5 => k_is)
    (case l5 => k_is)
    (case c5 => k_is)
    (case k5 => k_is)
    (case a6 => k_is)
    (case l6 => k_is)
    (case c6 => k_is)
    (case k6 => k_is)
    (case a7 => k_is)
    (case l7 => k_is)
    (case c7 => k_is)
    (case k7 => k_is)
    (case a8 => k_is)
    (case l8 => k_is)
    (case c8 => k_is)
    (case k8 => k_is)
    (case a9 => k_is)
    (case l9 => k_is)
    (case c9 => k_is)
    (case k9 => k_is)
    (case a10 => k_is)
    (case l10 => k_is)
    (case c10 => k_is)
    (case k10 => k_is)
    (case a11 => k_is)
    (case l11 => k_is)
    (case c11 => k_is)
    (case k11 => k_is)
    (case a12 => k_is)
    (case l12 => k_is)
    (case c12 => k_is)
    (case k12 => k_is)
    (case a13 => k_is)
    (case l13 => k_is)
    (case c13 => k_is)
    (case k13 => k_is)
    (case a14 => k_is)
    (case l14 => k_is)
    (case c14 => k_is)
    (case k14 => k_is)
    (case a15 => k_is)
    (case l15 => k_is)
    (case c15 => k_is)
    (case k15 => k_is)
    (case a16 => k_is)
    (case l16 => k_is)
    (case c16 => k_is)
    (case k16 => k_is)
    (case a17 => k_is)
    (case l17 => k_is)
    (case c17 => k_is)
    (case k17 => k_is)
    (case a18 => k_is)
    (case l18 => k_is)
    (case c18 => k_is)
    (case k18 => k_is)
    (case a19 => k_is)
    (case l19 => k_is)
    (case c19 => k_is)
    (case k19 => k_is)
    (case aC => k_is)
    (case aC1 => k_is)
    (case aC2 => k_is)
    (case aC3 => k_is)
    (case xL => k_is)
    (case sa => k_is)
    (case ga => k_is)
    (case gg => k_is)
    (case nl => k_is)
    (case aI => k_is)
    (case tI => k_is)
    (case lI => k_is)
    (case cI => k_is)
    (case kI => k_is)
    (case kC => k_is)
    (case eC => k_is)
    (case yC => k_is)
    (case hC => k_is)
    (case e1 => k_is)
    (case j1 => k_is)
    (case y1 => k_is)
    (case s1 => k_is)
    (case e2 => k_is)
    (case j2 => k_is)
    (case y2 => k_is)
    (case s2 => k_is)
    (case e3 => k_is)
    (case j3 => k_is)
    (case y3 => k_is)
    (case s3 => k_is)
    (case z_bool => k_is)
    (case z_len => k_is)
    (case z_all => k_is)
    (case z_int => k_is)
    (case z_isinstance => k_is)
    (case z_str => k_is)
    (case z_sum => k_is)
    (case z_range => k_is)
    (case z_enumerate => k_is)
    (case z_tuple => k_is)
    (case z_set => k_is)
    (case z_list => k_is)
    (case z_max => k_is)
    (case z_min => k_is)
    (case z_repr => k_is)
    (case iN => k_is)
    (case iE => k_is)
    (case iC => k_is)
    (case iD => k_is)
    (case iS => k_is)
