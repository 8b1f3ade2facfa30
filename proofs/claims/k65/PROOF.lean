import PyProof.Rows.All
import HandS.ForMost
import HandS.Codes
import HandS.IsInst
import HandS.Strs
import HandS.Zip
import HandS.Conv
import HandS.TupAny
import HandS.SetFor
import HandS.SortRule
import HandS.Style
import HandS.Deep
import PySem.Challenge.RW_deedsheaf_k65_whole_what_copies_settle
import KE.GoesEnum
import HandS.NamedTupSort
import HandS.Head0
import HandS.Head1
import HandS.Head2
import HandS.HeadEnd
import HandS.HeadHook1
import HandS.HeadHook2
set_option Elab.async false
set_option linter.all false
set_option maxRecDepth 100000
set_option maxHeartbeats 0
namespace LB
/-! ### the mirror: plain functions over lists and numbers -/
inductive Kd | kAt | kNot | kAhd
  deriving DecidableEq
structure Wd where
  k : Kd
  one : Nat
  oth : Nat
  deriving DecidableEq
/-- a word of copies of a book of n pages -/
structure Wd.Ok (n : Nat) (w : Wd) : Prop where
  h1 : w.one < n
  h2 : w.oth < n
  h3 : w.k = .kAhd → w.one ≠ w.oth
def has (u d : Nat) : Bool := u / 2 ^ d % 2 == 1
def bits (u : Nat) : List Nat := (List.range 7).filter fun d => has u d
def cnt (u : Nat) : Nat := (bits u).length
/-- one word lets the deed d stand behind those of pre -/
def ok1 (w : Wd) (page : Nat) (hs : Nat → Bool) (d : Nat) : Bool :=
  match w.k with
  | .kAt => !(w.one == d && w.oth != page)
  | .kNot => !(w.one == d && w.oth == page)
  | .kAhd => !(w.oth == d && !hs w.one)
def letM (ws : List Wd) (u d : Nat) : Bool := ws.all fun w => ok1 w (cnt u) (has u) d
def nextM (n : Nat) (ws : List Wd) (u : Nat) : List Nat := (List.range n).filter fun d => !has u d && letM ws u d
def letL (ws : List Wd) (pre : List Nat) (d : Nat) : Bool := ws.all fun w => ok1 w pre.length (fun e => pre.contains e) d
def nextL (n : Nat) (ws : List Wd) (pre : List Nat) : List Nat := (List.range n).filter fun d => !pre.contains d && letL ws pre d
/-- in how many ways k more deeds may stand behind those of pre -/
def waysL (n : Nat) (ws : List Wd) : Nat → List Nat → Nat
  | 0, _ => 1
  | k + 1, pre => ((nextL n ws pre).map fun d => waysL n ws k (pre ++ [d])).sum
def waysM (n : Nat) (ws : List Wd) (u : Nat) : Nat := waysL n ws (n - cnt u) (bits u)
def many (n : Nat) (ws : List Wd) : Nat := waysL n ws n []
/-! ### bits -/
theorem bits_add : ∀ u < 128, ∀ d < 7, has u d = false → (u + 2 ^ d < 128 ∧ cnt (u + 2 ^ d) = cnt u + 1 ∧ ∀ e < 7, has (u + 2 ^ d) e = (has u e || e == d)) := by decide +kernel
theorem bits_zero : bits 0 = [] := by decide +kernel
theorem full_lt : ∀ n < 8, ∀ u < 2 ^ n, ∀ d < n, has u d = false → u + 2 ^ d < 2 ^ n := by decide +kernel
theorem cnt_full : ∀ n < 8, cnt (2 ^ n - 1) = n := by decide +kernel
theorem cnt_lt : ∀ n < 8, ∀ u < 2 ^ n - 1, cnt u < n := by decide +kernel
theorem full_max : ∀ n < 8, ∀ u < 2 ^ n, cnt u = n → u = 2 ^ n - 1 := by decide +kernel
theorem pow_le : ∀ n < 8, 2 ^ n ≤ 128 := by decide
theorem mem_bits {u d : Nat} (h : d < 7) : d ∈ bits u ↔ has u d = true := by
  unfold bits
  rw [List.mem_filter, List.mem_range]
  exact ⟨fun x => x.2, fun x => ⟨h, x⟩⟩
theorem bits_contains {u d : Nat} (h : d < 7) : (bits u).contains d = has u d := by
  rw [Bool.eq_iff_iff, List.contains_iff_mem, mem_bits h]
theorem bits_nodup (u : Nat) : (bits u).Nodup := List.Nodup.sublist List.filter_sublist List.nodup_range
theorem bits_lt {u d : Nat} (h : d ∈ bits u) : d < 7 := List.mem_range.mp (List.mem_filter.mp h).1
/-! ### what the order of those that stand, and of the words, matters: nothing -/
theorem letL_perm {ws : List Wd} {p q : List Nat} (h : p.Perm q) (d : Nat) : letL ws p d = letL ws q d := by
  unfold letL
  have e : (fun e => p.contains e) = fun e => q.contains e := funext fun e => by
    rw [Bool.eq_iff_iff, List.contains_iff_mem, List.contains_iff_mem]
    exact h.mem_iff
  rw [e, h.length_eq]
theorem nextL_perm {n : Nat} {ws : List Wd} {p q : List Nat} (h : p.Perm q) : nextL n ws p = nextL n ws q := by
  unfold nextL
  have e : (fun d => !p.contains d && letL ws p d) = fun d => !q.contains d && letL ws q d := funext fun d => by
    rw [letL_perm h d]
    have : p.contains d = q.contains d := by
      rw [Bool.eq_iff_iff, List.contains_iff_mem, List.contains_iff_mem]
      exact h.mem_iff
    rw [this]
  rw [e]
theorem waysL_perm {n : Nat} {ws : List Wd} : ∀ (k : Nat) {p q : List Nat}, p.Perm q → waysL n ws k p = waysL n ws k q
  | 0, _, _, _ => rfl
  | k + 1, p, q, h => by
    unfold waysL
    rw [nextL_perm h]
    have e : (fun d => waysL n ws k (p ++ [d])) = fun d => waysL n ws k (q ++ [d]) := funext fun d => waysL_perm k (h.append_right [d])
    rw [e]
theorem all_congr {ws ws' : List Wd} (h : ∀ w, w ∈ ws ↔ w ∈ ws') (f : Wd → Bool) : ws.all f = ws'.all f := by
  rw [Bool.eq_iff_iff, List.all_eq_true, List.all_eq_true]
  exact ⟨fun a w m => a w ((h w).mpr m), fun a w m => a w ((h w).mp m)⟩
theorem letL_same {ws ws' : List Wd} (h : ∀ w, w ∈ ws ↔ w ∈ ws') : letL ws = letL ws' := funext fun p => funext fun d => all_congr h _
theorem letM_same {ws ws' : List Wd} (h : ∀ w, w ∈ ws ↔ w ∈ ws') : letM ws = letM ws' := funext fun p => funext fun d => all_congr h _
theorem nextL_same {n : Nat} {ws ws' : List Wd} (h : ∀ w, w ∈ ws ↔ w ∈ ws') : nextL n ws = nextL n ws' := by
  funext p
  unfold nextL
  rw [letL_same h]
theorem nextM_same {n : Nat} {ws ws' : List Wd} (h : ∀ w, w ∈ ws ↔ w ∈ ws') : nextM n ws = nextM n ws' := by
  funext p
  unfold nextM
  rw [letM_same h]
theorem waysL_same {n : Nat} {ws ws' : List Wd} (h : ∀ w, w ∈ ws ↔ w ∈ ws') : ∀ k p, waysL n ws k p = waysL n ws' k p
  | 0, _ => rfl
  | k + 1, p => by
    unfold waysL
    rw [nextL_same h, funext fun d => waysL_same h k (p ++ [d])]
theorem many_same {n : Nat} {ws ws' : List Wd} (h : ∀ w, w ∈ ws ↔ w ∈ ws') : many n ws = many n ws' := waysL_same h n []
/-! ### masks and lists -/
theorem ok1_congr {w : Wd} {p : Nat} {f g : Nat → Bool} (h : f w.one = g w.one) (d : Nat) : ok1 w p f d = ok1 w p g d := by
  unfold ok1
  rw [h]
theorem letM_eq {n : Nat} {ws : List Wd} (hn : n ≤ 7) (hw : ∀ w ∈ ws, w.Ok n) (u d : Nat) : letM ws u d = letL ws (bits u) d := by
  unfold letM letL
  rw [Bool.eq_iff_iff, List.all_eq_true, List.all_eq_true]
  have e : ∀ w ∈ ws, ok1 w (cnt u) (has u) d = ok1 w (bits u).length (fun e => (bits u).contains e) d := fun w m =>
    ok1_congr (bits_contains (Nat.lt_of_lt_of_le (hw w m).h1 hn)).symm d
  exact ⟨fun a w m => by rw [← e w m]; exact a w m, fun a w m => by rw [e w m]; exact a w m⟩
theorem nextM_eq {n : Nat} {ws : List Wd} (hn : n ≤ 7) (hw : ∀ w ∈ ws, w.Ok n) (u : Nat) : nextM n ws u = nextL n ws (bits u) := by
  unfold nextM nextL
  refine List.filter_congr fun d hd => ?_
  rw [letM_eq hn hw, bits_contains (Nat.lt_of_lt_of_le (List.mem_range.mp hd) hn)]
theorem bits_snoc {u d : Nat} (hu : u < 128) (hd : d < 7) (h : has u d = false) : (bits (u + 2 ^ d)).Perm (bits u ++ [d]) := by
  obtain ⟨_, _, hh⟩ := bits_add u hu d hd h
  have nd : (bits u ++ [d]).Nodup := by
    rw [List.nodup_append]
    refine ⟨bits_nodup u, List.pairwise_singleton _ _, fun a ha b hb => ?_⟩
    rw [List.mem_singleton] at hb
    subst hb
    intro e
    subst e
    rw [mem_bits hd, h] at ha
    cases ha
  refine (List.perm_ext_iff_of_nodup (bits_nodup _) nd).mpr fun a => ?_
  rw [List.mem_append, List.mem_singleton]
  constructor
  · intro m
    have ha := bits_lt m
    rw [mem_bits ha, hh a ha, Bool.or_eq_true] at m
    rcases m with m | m
    · exact .inl ((mem_bits ha).mpr m)
    · exact .inr (eq_of_beq m)
  · rintro (m | rfl)
    · have ha := bits_lt m
      rw [mem_bits ha] at m ⊢
      rw [hh a ha, m]
      rfl
    · rw [mem_bits hd, hh _ hd, beq_self_eq_true, Bool.or_true]
theorem mem_nextL {n : Nat} {ws : List Wd} {p : List Nat} {d : Nat} : d ∈ nextL n ws p ↔ d < n ∧ d ∉ p ∧ letL ws p d = true := by
  unfold nextL
  rw [List.mem_filter, List.mem_range, Bool.and_eq_true, Bool.not_eq_true', ← Bool.not_eq_true, List.contains_iff_mem]
theorem mem_nextM {n : Nat} {ws : List Wd} {u d : Nat} : d ∈ nextM n ws u ↔ d < n ∧ has u d = false ∧ letM ws u d = true := by
  unfold nextM
  rw [List.mem_filter, List.mem_range, Bool.and_eq_true, Bool.not_eq_true']
theorem cnt_add {n u d : Nat} (hn : n ≤ 7) (hu : u < 2 ^ n) (hd : d < n) (h : has u d = false) : cnt (u + 2 ^ d) = cnt u + 1 :=
  (bits_add u (Nat.lt_of_lt_of_le hu (pow_le n (by omega))) d (by omega) h).2.1
theorem waysM_step {n : Nat} {ws : List Wd} (hn : n ≤ 7) (hw : ∀ w ∈ ws, w.Ok n) {u : Nat} (hu : u < 2 ^ n - 1) :
    waysM n ws u = ((nextM n ws u).map fun d => waysM n ws (u + 2 ^ d)).sum := by
  have h1 := cnt_lt n (by omega) u hu
  have hu2 : u < 2 ^ n := by omega
  unfold waysM
  obtain ⟨k, hk⟩ : ∃ k, n - cnt u = k + 1 := ⟨n - cnt u - 1, by omega⟩
  rw [hk]
  conv => lhs; unfold waysL
  rw [nextM_eq hn hw]
  congr 1
  refine List.map_congr_left fun d hd => ?_
  obtain ⟨a, b, c⟩ := mem_nextM.mp (nextM_eq hn hw u ▸ hd)
  have e : n - cnt (u + 2 ^ d) = k := by
    rw [cnt_add hn hu2 a b]
    omega
  rw [e]
  exact (waysL_perm k (bits_snoc (Nat.lt_of_lt_of_le hu2 (pow_le n (by omega))) (by omega) b)).symm
theorem waysM_full {n : Nat} {ws : List Wd} (hn : n ≤ 7) : waysM n ws (2 ^ n - 1) = 1 := by
  unfold waysM
  rw [cnt_full n (by omega), Nat.sub_self]
  rfl
theorem waysM_zero {n : Nat} {ws : List Wd} : waysM n ws 0 = many n ws := by
  unfold waysM many cnt
  rw [bits_zero]
  rfl
/-! ### paths -/
inductive Path (n : Nat) (ws : List Wd) : List Nat → Prop
  | nil : Path n ws []
  | snoc {p : List Nat} {d : Nat} : Path n ws p → d ∈ nextL n ws p → Path n ws (p ++ [d])
theorem Path.nodup {n : Nat} {ws : List Wd} {p : List Nat} (h : Path n ws p) : p.Nodup ∧ ∀ d ∈ p, d < n := by
  induction h with
  | nil => exact ⟨List.nodup_nil, fun _ h => nomatch h⟩
  | snoc h m ih =>
    obtain ⟨a, b, _⟩ := mem_nextL.mp m
    refine ⟨?_, fun d hd => ?_⟩
    · rw [List.nodup_append]
      refine ⟨ih.1, List.pairwise_singleton _ _, fun x hx y hy => ?_⟩
      rw [List.mem_singleton] at hy
      subst hy
      intro e
      subst e
      exact b hx
    · rcases List.mem_append.mp hd with h | h
      · exact ih.2 d h
      · rw [List.mem_singleton.mp h]
        exact a
/-- every deed on a path was let behind those ahead of it -/
theorem Path.at {n : Nat} {ws : List Wd} {p : List Nat} (h : Path n ws p) : ∀ i d, p[i]? = some d → letL ws (p.take i) d = true := by
  induction h with
  | nil => intro i d h; simp at h
  | @snoc p e h m ih =>
    intro i d hd
    by_cases hi : i < p.length
    · rw [List.getElem?_append_left hi] at hd
      rw [List.take_append_of_le_length (Nat.le_of_lt hi)]
      exact ih i d hd
    · have hi2 : i = p.length := by
        have := (List.getElem?_eq_some_iff.mp hd).1
        rw [List.length_append, List.length_singleton] at this
        omega
      subst hi2
      rw [List.getElem?_append_right (Nat.le_refl _), Nat.sub_self] at hd
      have e1 : e = d := Option.some.inj hd
      subst e1
      rw [List.take_left]
      exact (mem_nextL.mp m).2.2
/-! ### whether words are so in an order -/
def soB (o : List Nat) (w : Wd) : Bool :=
  match w.k with
  | .kAt => o[w.oth]? == some w.one
  | .kNot => !(o[w.oth]? == some w.one)
  | .kAhd => decide (o.idxOf w.one < o.idxOf w.oth)
theorem at_idx {o : List Nat} {d : Nat} (h : d ∈ o) : o[o.idxOf d]? = some d := by
  have hl := List.idxOf_lt_length_iff.mpr h
  rw [List.getElem?_eq_getElem hl]
  exact congrArg some (List.getElem_idxOf hl)
theorem nodup_at {o : List Nat} (h : o.Nodup) {i j d : Nat} (a : o[i]? = some d) (b : o[j]? = some d) : i = j := by
  obtain ⟨h1, e1⟩ := List.getElem?_eq_some_iff.mp a
  obtain ⟨h2, e2⟩ := List.getElem?_eq_some_iff.mp b
  exact (List.getElem_inj h).mp (e1.trans e2.symm)
theorem mem_of_full {n : Nat} {o : List Nat} (nd : o.Nodup) (hl : o.length = n) (hb : ∀ d ∈ o, d < n) {d : Nat} (h : d < n) : d ∈ o := by
  refine Classical.byContradiction fun hd => ?_
  have nd2 : (d :: o).Nodup := List.nodup_cons.mpr ⟨hd, nd⟩
  have := nd2.length_le_of_subset (l₂ := List.range n) fun x hx => by
    rcases List.mem_cons.mp hx with e | e
    · rw [e]; exact List.mem_range.mpr h
    · exact List.mem_range.mpr (hb x e)
  rw [List.length_cons, List.length_range, hl] at this
  omega
theorem Path.so {n : Nat} {ws : List Wd} {o : List Nat} (h : Path n ws o) (hl : o.length = n) (hw : ∀ w ∈ ws, w.Ok n) : ∀ w ∈ ws, soB o w = true := by
  intro w hm
  obtain ⟨nd, hb⟩ := h.nodup
  obtain ⟨h1, h2, h3⟩ := hw w hm
  have let1 : ∀ i d, o[i]? = some d → ok1 w i (fun e => (o.take i).contains e) d = true := fun i d hd => by
    have a := List.all_eq_true.mp (h.at i d hd) w hm
    have hi := (List.getElem?_eq_some_iff.mp hd).1
    rw [List.length_take, Nat.min_eq_left (Nat.le_of_lt hi)] at a
    exact a
  unfold soB
  cases hk : w.k with
  | kAt =>
    have m := mem_of_full nd hl hb h1
    have a := let1 _ _ (at_idx m)
    unfold ok1 at a
    rw [hk] at a
    simp only [beq_self_eq_true, Bool.true_and, Bool.not_eq_true', bne_eq_false_iff_eq] at a
    show (o[w.oth]? == some w.one) = true
    rw [a, at_idx m]
    exact beq_self_eq_true _
  | kNot =>
    show (!(o[w.oth]? == some w.one)) = true
    rw [Bool.not_eq_true']
    refine beq_eq_false_iff_ne.mpr fun e => ?_
    have a := let1 _ _ e
    unfold ok1 at a
    rw [hk] at a
    simp at a
  | kAhd =>
    have m := mem_of_full nd hl hb h2
    have a := let1 _ _ (at_idx m)
    unfold ok1 at a
    rw [hk] at a
    simp only [beq_self_eq_true, Bool.true_and, Bool.not_not] at a
    rw [List.contains_iff_mem] at a
    refine decide_eq_true ?_
    obtain ⟨j, hj⟩ := List.mem_iff_getElem?.mp a
    rw [List.getElem?_take] at hj
    by_cases hji : j < o.idxOf w.oth
    · rw [if_pos hji] at hj
      rw [nodup_at nd (at_idx (mem_of_full nd hl hb h1)) hj]
      exact hji
    · rw [if_neg hji] at hj
      cases hj
end LB
namespace LB
open PySem PySem.Spec PyProof.Rows L2
/-! ### the text by places -/
def topS (i : Nat) : Stmt := PySem.Challenge.pw_deedsheaf_k65_whole_what_copies_settle.main.body.getD i (.Pass ⟨0, 0, 0, 0⟩)
abbrev sWhole : Stmt := topS 5
abbrev sFrom : Stmt := topS 6
abbrev sRises : Stmt := topS 7
abbrev sTold : Stmt := topS 12
abbrev sNeed : Stmt := topS 13
abbrev sHas : Stmt := topS 14
abbrev sCount : Stmt := topS 15
abbrev sLet : Stmt := topS 16
abbrev sNext : Stmt := topS 17
abbrev sWays : Stmt := topS 18
abbrev sFit : Stmt := topS 19
abbrev sMany : Stmt := topS 20
abbrev sFirst : Stmt := topS 21
abbrev sOpenIn : Stmt := topS 22
abbrev sOpens : Stmt := topS 23
abbrev sSettled : Stmt := topS 24
abbrev sSo : Stmt := topS 25
abbrev sFits : Stmt := topS 26
abbrev sLots : Stmt := topS 27
abbrev sSome : Stmt := topS 28
abbrev sClash : Stmt := topS 29
abbrev sHolds : Stmt := topS 30
abbrev sPen : Stmt := topS 32
abbrev sCellAt : Stmt := topS 33
abbrev sDraw : Stmt := topS 34
abbrev sMixed : Stmt := topS 35
abbrev sTrue : Stmt := topS 36
abbrev sLTold : Stmt := topS 37
abbrev sWords : Stmt := topS 38
abbrev sShown : Stmt := topS 39
abbrev sRight : Stmt := topS 40
abbrev sNamed : Stmt := topS 41
abbrev sLaw : Stmt := topS 42
theorem scWhole : FnScope ["thing"] ["thing"] (defScope sWhole) := ⟨rfl, rfl, rfl, by decide +kernel, rfl, by decide +kernel, by decide +kernel⟩
theorem scFrom : FnScope ["thing", "low", "high"] ["thing", "low", "high"] (defScope sFrom) := ⟨rfl, rfl, rfl, by decide +kernel, rfl, by decide +kernel, by decide +kernel⟩
theorem scRises : FnScope ["things", "one", "other"] ["things"] (defScope sRises) := ⟨rfl, rfl, rfl, by decide +kernel, rfl, by decide +kernel, by decide +kernel⟩
theorem scTold : FnScope ["size", "thing", "one"] ["size", "thing"] (defScope sTold) := ⟨rfl, rfl, rfl, by decide +kernel, rfl, by decide +kernel, by decide +kernel⟩
theorem scNeed : FnScope ["size", "words", "one"] ["size", "words"] (defScope sNeed) := ⟨rfl, rfl, rfl, by decide +kernel, rfl, by decide +kernel, by decide +kernel⟩
theorem scHas : FnScope ["used", "deed"] ["used", "deed"] (defScope sHas) := ⟨rfl, rfl, rfl, by decide +kernel, rfl, by decide +kernel, by decide +kernel⟩
theorem scCount : FnScope ["used", "deed"] ["used"] (defScope sCount) := ⟨rfl, rfl, rfl, by decide +kernel, rfl, by decide +kernel, by decide +kernel⟩
theorem scLet : FnScope ["words", "used", "deed", "page", "word", "one", "other"] ["words", "used", "deed"] (defScope sLet) := ⟨rfl, rfl, rfl, by decide +kernel, rfl, by decide +kernel, by decide +kernel⟩
theorem scNext : FnScope ["size", "words", "used", "deed"] ["size", "words", "used"] (defScope sNext) := ⟨rfl, rfl, rfl, by decide +kernel, rfl, by decide +kernel, by decide +kernel⟩
theorem scWays : FnScope ["size", "words", "full", "found", "used", "deed"] ["size", "words"] (defScope sWays) := ⟨rfl, rfl, rfl, by decide +kernel, rfl, by decide +kernel, by decide +kernel⟩
theorem scFit : FnScope ["size", "words"] ["size", "words"] (defScope sFit) := ⟨rfl, rfl, rfl, by decide +kernel, rfl, by decide +kernel, by decide +kernel⟩
theorem scMany : FnScope ["size", "words"] ["size", "words"] (defScope sMany) := ⟨rfl, rfl, rfl, by decide +kernel, rfl, by decide +kernel, by decide +kernel⟩
theorem scFirst : FnScope ["size", "words", "ways", "found", "used", "page", "good", "deed"] ["size", "words"] (defScope sFirst) := ⟨rfl, rfl, rfl, by decide +kernel, rfl, by decide +kernel, by decide +kernel⟩
theorem scOpenIn : FnScope ["size", "words", "ways", "begun", "found", "page", "here", "later", "used", "good", "deed"] ["size", "words"] (defScope sOpenIn) := ⟨rfl, rfl, rfl, by decide +kernel, rfl, by decide +kernel, by decide +kernel⟩
theorem scOpens : FnScope ["size", "words"] ["size", "words"] (defScope sOpens) := ⟨rfl, rfl, rfl, by decide +kernel, rfl, by decide +kernel, by decide +kernel⟩
theorem scSettled : FnScope ["size", "words", "deeds"] ["size", "words"] (defScope sSettled) := ⟨rfl, rfl, rfl, by decide +kernel, rfl, by decide +kernel, by decide +kernel⟩
theorem scSo : FnScope ["order", "told", "word", "one", "other"] ["order", "told"] (defScope sSo) := ⟨rfl, rfl, rfl, by decide +kernel, rfl, by decide +kernel, by decide +kernel⟩
theorem scFits : FnScope ["size", "words", "thing", "one", "told"] ["size", "words", "thing"] (defScope sFits) := ⟨rfl, rfl, rfl, by decide +kernel, rfl, by decide +kernel, by decide +kernel⟩
theorem scLots : FnScope ["many", "found", "place", "lot", "long"] ["many"] (defScope sLots) := ⟨rfl, rfl, rfl, by decide +kernel, rfl, by decide +kernel, by decide +kernel⟩
theorem scSome : FnScope ["size", "words", "places", "place"] ["size", "words", "places"] (defScope sSome) := ⟨rfl, rfl, rfl, by decide +kernel, rfl, by decide +kernel, by decide +kernel⟩
theorem scClash : FnScope ["size", "words", "lot"] ["size", "words"] (defScope sClash) := ⟨rfl, rfl, rfl, by decide +kernel, rfl, by decide +kernel, by decide +kernel⟩
theorem scHolds : FnScope ["size", "words", "thing", "one", "place"] ["size", "words", "thing"] (defScope sHolds) := ⟨rfl, rfl, rfl, by decide +kernel, rfl, by decide +kernel, by decide +kernel⟩
theorem scPen : FnScope ["_law_cell"] ["_law_cell"] (defScope sPen) := ⟨rfl, rfl, rfl, by decide +kernel, rfl, by decide +kernel, by decide +kernel⟩
theorem scCellAt : FnScope ["_law_script", "_law_k"] ["_law_script", "_law_k"] (defScope sCellAt) := ⟨rfl, rfl, rfl, by decide +kernel, rfl, by decide +kernel, by decide +kernel⟩
theorem scDraw : FnScope ["_law_pen_here", "_law_bound", "_law_found", "_law_stir"] ["_law_pen_here", "_law_bound"] (defScope sDraw) := ⟨rfl, rfl, rfl, by decide +kernel, rfl, by decide +kernel, by decide +kernel⟩
theorem scMixed : FnScope ["_law_pen_here", "_law_some", "_law_left", "_law_k"] ["_law_pen_here", "_law_some"] (defScope sMixed) := ⟨rfl, rfl, rfl, by decide +kernel, rfl, by decide +kernel, by decide +kernel⟩
theorem scTrue : FnScope ["_law_pen_here", "_law_order", "_law_size", "_law_at", "_law_to", "_law_way"] ["_law_pen_here", "_law_order"] (defScope sTrue) := ⟨rfl, rfl, rfl, by decide +kernel, rfl, by decide +kernel, by decide +kernel⟩
theorem scLTold : FnScope ["_law_pen_here", "_law_size", "_law_word", "_law_one", "_law_other"] ["_law_pen_here", "_law_size"] (defScope sLTold) := ⟨rfl, rfl, rfl, by decide +kernel, rfl, by decide +kernel, by decide +kernel⟩
theorem scWords : FnScope ["_law_pen_here", "_law_size", "_law_order", "_law_found", "_law_turn"] ["_law_pen_here", "_law_size"] (defScope sWords) := ⟨rfl, rfl, rfl, by decide +kernel, rfl, by decide +kernel, by decide +kernel⟩
theorem scShown : FnScope ["_law_size", "_law_words_here", "_law_many", "_law_first", "_law_opened", "_law_row", "_law_deed"] ["_law_size", "_law_words_here"] (defScope sShown) := ⟨rfl, rfl, rfl, by decide +kernel, rfl, by decide +kernel, by decide +kernel⟩
theorem scRight : FnScope ["_law_size", "_law_words_here", "_law_lot", "_law_place", "_law_one"] ["_law_size", "_law_words_here"] (defScope sRight) := ⟨rfl, rfl, rfl, by decide +kernel, rfl, by decide +kernel, by decide +kernel⟩
theorem scNamed : FnScope ["_law_words_here", "_law_names", "_law_found", "_law_word", "_law_one", "_law_other"] ["_law_words_here", "_law_names"] (defScope sNamed) := ⟨rfl, rfl, rfl, by decide +kernel, rfl, by decide +kernel, by decide +kernel⟩
theorem scLaw : FnScope ["_law_script", "_law_k", "_law_pen_here", "_law_size", "_law_words_here", "_law_many", "_law_opened", "_law_more", "_law_row", "_law_ahead", "_law_mixed_here", "_law_names", "_law_order", "_law_told_here", "_law_deed", "_law_page"] ["_law_script"] (defScope sLaw) := ⟨rfl, rfl, rfl, by decide +kernel, rfl, by decide +kernel, by decide +kernel⟩
end LB
namespace LB
open PySem PySem.Spec PyProof.Rows L2
open C8 (Cal pe_c)
def bitsV : List V := [.int 1, .int 2, .int 4, .int 8, .int 16, .int 32, .int 64]
/-- what the top has left for the defs -/
structure Txt (K : PySem.W.Frag) (mg : Str → Option Value) (aB : Addr) : Prop where
  bi : ∀ x ∈ (["isinstance", "len", "all", "zip", "range", "sum", "sorted", "set", "list", "tuple", "min", "max", "enumerate", "int", "bool", "str"] : List Str), mg x = none
  ms : ∃ t, mg "MOST_SIZE" = some (.int 7 t)
  mw : ∃ t, mg "MOST_WORDS" = some (.int 8 t)
  mb : mg "BITS" = some (.ref aB)
  bt : ∀ H, SqT K H aB bitsV
/-- a def as the top has left it -/
structure Df (K : PySem.W.Frag) (mg : Str → Option Value) (x : Str) (st : Stmt) (ps : List Str) : Prop where
  ex : ∃ f fd, Fun K x x st f fd ∧ mg x = some (.ref f) ∧ Binds K fd ps []
/-! ### heaps -/
theorem same_upd {H : Hp} {p : Addr} {o : HO} (h : H p = none) : Same H (upd H p o) := fun b x e => by
  rw [upd_ne (ne_of_none e h)]
  exact e
theorem same_put {H0 H : Hp} {p : Addr} {o : HO} (s : Same H0 H) (n : H0 p = none) : Same H0 (upd H p o) := fun b x e => by
  rw [upd_ne (ne_of_none e n)]
  exact s _ _ e
theorem same_tup {K : PySem.W.Frag} {H H' : Hp} {a : Addr} {xs : List V} (e : Same H H') (h : SqT K H a xs) : SqT K H' a xs := by
  rcases h with (h | ⟨o, h⟩) | h
  · exact .inl (.inl (e _ _ h))
  · exact .inl (.inr ⟨o, e _ _ h⟩)
  · exact .inr h
def nums (l : List Nat) : List V := l.map fun d : Nat => V.int (d : Int)
theorem nums_app (a b : List Nat) : nums (a ++ b) = nums a ++ nums b := List.map_append
theorem nums_len (a : List Nat) : (nums a).length = a.length := List.length_map _
theorem nums_at {l : List Nat} {i : Nat} {v : V} (h : (nums l)[i]? = some v) : ∃ d, l[i]? = some d ∧ v = .int (d : Int) := by
  unfold nums at h
  rw [List.getElem?_map] at h
  cases e : l[i]? with
  | none =>
    rw [e] at h
    cases h
  | some d =>
    rw [e] at h
    exact ⟨d, rfl, (Option.some.inj h).symm⟩
theorem nums_get {l : List Nat} {i d : Nat} (h : l[i]? = some d) : (nums l)[i]? = some (.int (d : Int)) := by
  unfold nums
  rw [List.getElem?_map, h]
  rfl
theorem range_filter (p : Nat → Bool) (i : Nat) : (List.range (i + 1)).filter p = (List.range i).filter p ++ (if p i = true then [i] else []) := by
  rw [List.range_succ, List.filter_append, List.filter_cons, List.filter_nil]
theorem len_filter_range (p : Nat → Bool) (i : Nat) : ((List.range i).filter p).length ≤ i := by
  have h := List.length_filter_le p (List.range i)
  rw [List.length_range] at h
  exact h
section
variable {P : Program} {w : World} {K : PySem.W.Frag} {mg : Str → Option Value} {base : Heap} {aB : Addr}
theorem Df.cal {x : Str} {st : Stmt} {ps N : List Str} {k : Nat} {sp : Sp} (D : Df K mg x st ps) (S : FnScope N ps (defScope st)) (len : ∀ vs H Q E, sp vs H Q E → vs.length = ps.length)
    (hbody : ∀ (f : Addr) (cdv : Value) (A : Around) (outer : List Env) (s : Shared) (H : Hp) (vs : List V) (Q : VK) (E : XK), Room k (A.deeper (envOfC x (defScope st) s.heap.objs.size f cdv)) → sp vs H Q E →
      ∃ t, PSs (cxOf CX0 P w K mg base N x (defScope st) f cdv A outer s H E).nox (defBody st) t ∧ t { nx := fun _ H' => Q .non H', rt := Q } (start N vs) H) : Cal P w K mg base (k + 1) x sp [] := by
  obtain ⟨f, fd, F, m, b⟩ := D.ex
  exact ⟨f, fd, ps, [], F.ok S len (hbody f), m, F.kp, b, .nil⟩
theorem Txt.isi (T : Txt K mg aB) : mg "isinstance" = none := T.bi _ (by decide +kernel)
theorem Txt.len (T : Txt K mg aB) : mg "len" = none := T.bi _ (by decide +kernel)
theorem Txt.all (T : Txt K mg aB) : mg "all" = none := T.bi _ (by decide +kernel)
theorem Txt.zip (T : Txt K mg aB) : mg "zip" = none := T.bi _ (by decide +kernel)
theorem Txt.range (T : Txt K mg aB) : mg "range" = none := T.bi _ (by decide +kernel)
theorem Txt.sum (T : Txt K mg aB) : mg "sum" = none := T.bi _ (by decide +kernel)
theorem Txt.sorted (T : Txt K mg aB) : mg "sorted" = none := T.bi _ (by decide +kernel)
theorem Txt.set (T : Txt K mg aB) : mg "set" = none := T.bi _ (by decide +kernel)
theorem Txt.list (T : Txt K mg aB) : mg "list" = none := T.bi _ (by decide +kernel)
theorem Txt.tuple (T : Txt K mg aB) : mg "tuple" = none := T.bi _ (by decide +kernel)
theorem Txt.min (T : Txt K mg aB) : mg "min" = none := T.bi _ (by decide +kernel)
theorem Txt.max (T : Txt K mg aB) : mg "max" = none := T.bi _ (by decide +kernel)
theorem Txt.enum (T : Txt K mg aB) : mg "enumerate" = none := T.bi _ (by decide +kernel)
theorem Txt.int (T : Txt K mg aB) : mg "int" = none := T.bi _ (by decide +kernel)
theorem Txt.bool (T : Txt K mg aB) : mg "bool" = none := T.bi _ (by decide +kernel)
theorem Txt.str (T : Txt K mg aB) : mg "str" = none := T.bi _ (by decide +kernel)
/-! ### is_whole, is_from -/
def spWhole : Sp := fun vs H Q _ => ∃ i : Int, vs = [.int i] ∧ Q (.bl true) H
theorem c_whole (T : Txt K mg aB) (D : Df K mg "is_whole" sWhole ["thing"]) : Cal P w K mg base 1 "is_whole" spWhole [] := by
  refine D.cal scWhole (fun vs H Q E h => ?_) (fun f cdv A outer s H vs Q E hr h => ?_)
  · obtain ⟨i, rfl, _⟩ := h
    rfl
  · obtain ⟨i, rfl, q⟩ := h
    refine ⟨_, pss_one (ps_ret (pe_and (pe_callB call_isi (by rfl) T.isi (by decide +kernel) (pa_cons (pv 0) (pa_cons (pe_bltn (v := .ty "int") (by rfl) T.int (by decide +kernel) rfl) pa_nil)))
      (pe_one (pe_not (pe_callB call_isi (by rfl) T.isi (by decide +kernel) (pa_cons (pv 0) (pa_cons (pe_bltn (v := .ty "bool") (by rfl) T.bool (by decide +kernel) rfl) pa_nil))))))), ?_⟩
    refine ⟨_, rfl, .int i, .ty "int", _, _, true, rfl, .ty "int", .base (.int i), kit_ty (by decide +kernel), true, rfl, iteT ?_⟩
    exact ⟨_, rfl, .int i, .ty "bool", _, _, false, rfl, .ty "bool", .base (.int i), kit_ty (by decide +kernel), false, rfl, q⟩
def spFrom : Sp := fun vs H Q _ => ∃ i lo hi : Int, vs = [.int i, .int lo, .int hi] ∧ Q (.bl (decide (lo ≤ i ∧ i ≤ hi))) H
theorem c_from (T : Txt K mg aB) (D : Df K mg "is_from" sFrom ["thing", "low", "high"]) (GW : Cal P w K mg base 1 "is_whole" spWhole []) : Cal P w K mg base 2 "is_from" spFrom [] := by
  refine D.cal scFrom (fun vs H Q E h => ?_) (fun f cdv A outer s H vs Q E hr h => ?_)
  · obtain ⟨i, lo, hi, rfl, _⟩ := h
    rfl
  · obtain ⟨i, lo, hi, rfl, q⟩ := h
    refine ⟨_, pss_one (ps_ret (pe_and (pe_c GW hr (by decide) (by rfl) (pa_cons (pv 0) pa_nil)) (pe_one (pe_chain op_le op_le (pv 1) (pv 0) (pv 2))))), ?_⟩
    refine ⟨_, rfl, i, rfl, true, rfl, iteT ?_⟩
    refine ⟨_, rfl, _, rfl, lo, i, rfl, rfl, _, rfl, ?_⟩
    refine ite2 (fun e => ?_) (fun e => ?_)
    · refine ⟨_, rfl, i, hi, rfl, rfl, ?_⟩
      have e1 : lo ≤ i := of_decide_eq_true e
      have e2 : decide (lo ≤ i ∧ i ≤ hi) = decide (i ≤ hi) := by
        rw [Bool.eq_iff_iff, decide_eq_true_iff, decide_eq_true_iff]
        omega
      rw [e2] at q
      exact q
    · have e1 : ¬ lo ≤ i := fun z => e (decide_eq_true z)
      have e2 : decide (lo ≤ i ∧ i ≤ hi) = false := decide_eq_false fun z => e1 z.1
      rw [e2] at q
      exact q
/-! ### has, count_of -/
theorem bitsV_at : ∀ d < 7, bitsV[d]? = some (.int ((2 ^ d : Nat) : Int)) := by decide +kernel
theorem pow_ok : ∀ d < 7, (0 : Int) < ((2 ^ d : Nat) : Int) ∧ ((2 ^ d : Nat) : Int) < 1073741824 := by decide +kernel
theorem has_eq (u d : Nat) : decide (V.int ((u : Int) / ((2 ^ d : Nat) : Int) % 2) = V.int 1) = has u d := by
  have e : (u : Int) / ((2 ^ d : Nat) : Int) % 2 = ((u / 2 ^ d % 2 : Nat) : Int) := by
    rw [Int.natCast_emod, Int.natCast_ediv]
    rfl
  unfold has
  rw [Bool.eq_iff_iff, decide_eq_true_iff, beq_iff_eq, V.int.injEq, e]
  omega
def spHas : Sp := fun vs H Q _ => ∃ u d : Nat, vs = [.int u, .int d] ∧ d < 7 ∧ Q (.bl (has u d)) H
theorem c_has (T : Txt K mg aB) (D : Df K mg "has" sHas ["used", "deed"]) : Cal P w K mg base 1 "has" spHas [] := by
  refine D.cal scHas (fun vs H Q E h => ?_) (fun f cdv A outer s H vs Q E hr h => ?_)
  · obtain ⟨i, d, rfl, _⟩ := h
    rfl
  · obtain ⟨u, d, rfl, hd, q⟩ := h
    refine ⟨_, pss_one (ps_ret (pe_cmpR op_eq (pe_op op_mod (pe_op op_fdiv (pv 0) (pe_ix ix_tup (pe_glob (v := .ref aB) (by rfl) T.mb rfl) (pv 1) (fun _ _ => rfl))) pe_int) pe_int (nomark _))), ?_⟩
    refine ⟨_, rfl, _, rfl, _, _, _, _, rfl, rfl, T.bt _, atI_nat (bitsV_at d hd), _, _, rfl, rfl, pow_ok d hd, _, _, rfl, rfl, (by show (0 : Int) < 2; decide), rfl, ?_⟩
    rw [← has_eq] at q
    exact q
def spCount : Sp := fun vs H Q _ => ∃ u : Nat, vs = [.int u] ∧ ∀ H', Same H H' → Q (.int (cnt u : Nat)) H'
theorem c_count (T : Txt K mg aB) (D : Df K mg "count_of" sCount ["used"]) (GH : Cal P w K mg base 1 "has" spHas []) : Cal P w K mg base 2 "count_of" spCount [] := by
  obtain ⟨tms, ems⟩ := T.ms
  refine D.cal scCount (fun vs H Q E h => ?_) (fun f cdv A outer s H vs Q E hr h => ?_)
  · obtain ⟨u, rfl, _⟩ := h
    rfl
  · obtain ⟨u, rfl, q⟩ := h
    refine ⟨_, pss_one (ps_ret (pe_callB call_len_seq (by rfl) T.len PySem.boot_len (pa_cons
      (pe_lc (own := [("deed", 1)]) (g := gName 1) rfl scCount.nd (pi_range1 (by rfl) T.range (pa_cons (pe_glob (v := .int 7) (by rfl) ems ⟨_, rfl⟩) pa_nil))
        (blkOk_by (own := [("deed", 1)]) (N := ["used", "deed"]) (sc := defScope sCount) (by decide +kernel)) (fun _ _ _ _ _ => pg_name (i := 1) scCount.nd rfl (Or.inl rfl))
        (fun _ _ _ _ _ => pts_one (pt_val (pe_c GH hr (by decide) (by rfl) (pa_cons (pv 0) (pa_cons (pv 1) pa_nil))))) (fun _ _ _ _ _ => pv 1)) pa_nil))), ?_⟩
    refine ⟨7, rfl, by decide, by decide, fun L hL => ?_⟩
    refine lc_range (n := 7) (fun i H1 => Same H H1 ∧ H1 L = some (.lst (nums ((List.range i).filter (has u))))) ⟨same_upd hL, upd_same⟩ ?_ ?_
    · rintro i H1 hi ⟨s1, e1⟩
      have ei : (0 : Int) + (i : Int) = ((i : Nat) : Int) := by omega
      refine ⟨rfl, _, rfl, _, rfl, u, i, ?_, hi, _, rfl, ?_⟩
      · rw [ei]
        rfl
      · rw [range_filter, nums_app]
        cases has u i with
        | true =>
          refine iteT ⟨_, rfl, _, e1, ?_, same_put s1 hL, ?_⟩
          · rw [nums_len]
            exact Nat.lt_of_le_of_lt (len_filter_range _ _) (small1000 (by omega))
          · rw [upd_same, ei]
            rfl
        | false =>
          refine iteF ⟨s1, ?_⟩
          rw [e1]
          show _ = some (HO.lst (_ ++ []))
          rw [List.append_nil]
    · rintro H1 ⟨s1, e1⟩
      refine ⟨L, _, rfl, .inl (SqL.of e1), ?_⟩
      rw [nums_len]
      exact q H1 s1
end
end LB
namespace LB
open PySem PySem.Spec PyProof.Rows L2
open C8 (Cal pe_c)
theorem iteE {c : Bool} {A B : Prop} (h : c = true) (k : A) : if c = true then A else B := by
  rw [if_pos h]
  exact k
theorem iteN {c : Bool} {A B : Prop} (h : c = false) (k : B) : if c = true then A else B := by
  rw [h]
  exact iteF k
/-! ### walks of a list or a tuple -/
def SqA (K : PySem.W.Frag) (H : Hp) (a : Addr) (xs : List V) : Prop := SqL K H a xs ∨ SqT K H a xs
theorem SqA.same {K : PySem.W.Frag} {H H' : Hp} {a : Addr} {xs : List V} (h : SqA K H a xs) (s : Same H H') : SqA K H' a xs := h.elim (fun h => .inl (s.seq h)) fun h => .inr (same_tup s h)
def iSeq (K : PySem.W.Frag) (tl : TE) : TI := fun σ H R => tl σ H fun x H1 => ∃ a xs, x = .ref a ∧ ((SqL K H1 a xs ∧ R (Itl K a) H1) ∨ (SqT K H1 a xs ∧ R (Itt K a) H1))
theorem pi_seq {X : Cx} {tg l : Expr} {tl : TE} (hl : PE X l tl) : PI X tg l (iSeq X.K tl) := by
  refine ⟨fun pins s σ H R I h => ?_⟩
  refine thn (hl.run pins s σ H _ I h) fun v s1 ⟨x, H1, I1, r1, q1⟩ => ?_
  obtain ⟨a, xs, rfl, q⟩ := q1
  cases r1
  rcases q with ⟨hq, q⟩ | ⟨hq, q⟩
  · obtain ⟨its, rv, p, hz⟩ := I1.list hq
    refine wpAny_pyIter_list p.isList ?_
    refine ⟨s1.heap.objs.size, [s1.heap.objs.size], _, _, H1, rfl, I1.kept (t' := s1.toks) fun b o e => Heap.get?_push_of_some _ e, turn_list a _, ⟨_, Heap.get?_push_size _ rfl, rfl, rfl⟩, fun b hb => ?_, q⟩
    have e : b = s1.heap.objs.size := by simpa using hb
    subst e
    exact I1.fpOk (Nat.le_refl _) (I1.hok.fresh (Nat.le_refl _))
  · obtain ⟨its, rv, p, hz⟩ := I1.tuple hq
    refine wpAny_pyIter_tuple (show s1.heap.IsTuple a its.toArray from p) ?_
    refine ⟨s1.heap.objs.size, [s1.heap.objs.size], _, _, H1, rfl, I1.kept (t' := s1.toks) fun b o e => Heap.get?_push_of_some _ e, turn_tuple a _, ⟨_, Heap.get?_push_size _ rfl, rfl, rfl⟩, fun b hb => ?_, q⟩
    have e : b = s1.heap.objs.size := by simpa using hb
    subst e
    exact I1.fpOk (Nat.le_refl _) (I1.hok.fresh (Nat.le_refl _))
/-- the reading of a for over a list or a tuple; Same holds of what stood -/
theorem for_seq {K : PySem.W.Frag} {a : Addr} {xs : List V} {g : TG} {tb : TS} {D : Ends} {σ : L2.St} {H : Hp} (hq : SqA K H a xs) (Pv : Nat → L2.St → Hp → Prop) (h0 : Pv 0 σ H) (hk : ∀ i σ' H', Pv i σ' H' → Same H H')
    (hs : ∀ i x σ H, xs[i]? = some x → Pv i σ H → g x σ H fun σ2 H2 => tb { D with nx := Pv (i + 1), ct := Pv (i + 1), bk := D.nx } σ2 H2) (hd : ∀ σ H, Pv xs.length σ H → D.nx σ H) :
    ∃ b ys, V.ref a = .ref b ∧ ((SqL K H b ys ∧ ∃ W : Nat → Nat → L2.St → Hp → Prop, (∃ m, W 0 m σ H) ∧ ∀ i m σ H, W i m σ H →
      ((Itl K b).stop i H ∧ D.nx σ H) ∨ ((Itl K b).go i H ∧ ∃ N : L2.St → Hp → Prop, (∀ σ' H', N σ' H' → ∃ m', m' < m ∧ W (i + 1) m' σ' H') ∧ ∀ x H', (Itl K b).yld i H x H' → g x σ H' fun σ2 H2 => tb { D with nx := N, ct := N, bk := D.nx } σ2 H2)) ∨
      (SqT K H b ys ∧ ∃ W : Nat → Nat → L2.St → Hp → Prop, (∃ m, W 0 m σ H) ∧ ∀ i m σ H, W i m σ H →
      ((Itt K b).stop i H ∧ D.nx σ H) ∨ ((Itt K b).go i H ∧ ∃ N : L2.St → Hp → Prop, (∀ σ' H', N σ' H' → ∃ m', m' < m ∧ W (i + 1) m' σ' H') ∧ ∀ x H', (Itt K b).yld i H x H' → g x σ H' fun σ2 H2 => tb { D with nx := N, ct := N, bk := D.nx } σ2 H2))) := by
  refine ⟨a, xs, rfl, ?_⟩
  rcases hq with h | h
  · exact .inl ⟨h, for_list Pv h0 (fun i σ' H' _ p => (hk i σ' H' p).seq h) hs hd⟩
  · exact .inr ⟨h, for_tup Pv h0 (fun i σ' H' _ p => same_tup (hk i σ' H' p) h) hs hd⟩
theorem lc_seq {K : PySem.W.Frag} {a : Addr} {xs : List V} {g : TG} {tt : TT} {te : TE} {vs : List Nat} {σ : L2.St} {H1 : Hp} {Qd : Addr → Hp → Prop} (hq : SqA K H1 a xs) (Pv : Addr → Nat → Hp → Prop) (h0 : ∀ D, H1 D = none → Pv D 0 (upd H1 D (.lst []))) (hk : ∀ D i H', H1 D = none → Pv D i H' → Same H1 H')
    (hs : ∀ D i x H, H1 D = none → xs[i]? = some x → Pv D i H → g x (wipe σ vs) H fun σ2 H2 => wipe σ2 vs = wipe σ vs ∧ tt σ2 H2 fun b H3 =>
      if b = true then te σ2 H3 fun y H4 => ∃ acc, H4 D = some (.lst acc) ∧ acc.length < sizeLine ∧ Pv D (i + 1) (upd H4 D (.lst (acc ++ [y]))) else Pv D (i + 1) H3) (hd : ∀ D H, H1 D = none → Pv D xs.length H → Qd D H) :
    ∃ b ys, V.ref a = .ref b ∧ ((SqL K H1 b ys ∧ ∀ D, H1 D = none → ∃ W : Nat → Nat → Hp → Prop, (∃ m, W 0 m (upd H1 D (.lst []))) ∧ ∀ i m H, W i m H →
      ((Itl K b).stop i H ∧ Qd D H) ∨ ((Itl K b).go i H ∧ ∃ Nx : Hp → Prop, (∀ H', Nx H' → ∃ m', m' < m ∧ W (i + 1) m' H') ∧ ∀ x H', (Itl K b).yld i H x H' → g x (wipe σ vs) H' fun σ2 H2 => wipe σ2 vs = wipe σ vs ∧ tt σ2 H2 fun b H3 =>
        if b = true then te σ2 H3 fun y H4 => ∃ acc, H4 D = some (.lst acc) ∧ acc.length < sizeLine ∧ Nx (upd H4 D (.lst (acc ++ [y]))) else Nx H3)) ∨
      (SqT K H1 b ys ∧ ∀ D, H1 D = none → ∃ W : Nat → Nat → Hp → Prop, (∃ m, W 0 m (upd H1 D (.lst []))) ∧ ∀ i m H, W i m H →
      ((Itt K b).stop i H ∧ Qd D H) ∨ ((Itt K b).go i H ∧ ∃ Nx : Hp → Prop, (∀ H', Nx H' → ∃ m', m' < m ∧ W (i + 1) m' H') ∧ ∀ x H', (Itt K b).yld i H x H' → g x (wipe σ vs) H' fun σ2 H2 => wipe σ2 vs = wipe σ vs ∧ tt σ2 H2 fun b H3 =>
        if b = true then te σ2 H3 fun y H4 => ∃ acc, H4 D = some (.lst acc) ∧ acc.length < sizeLine ∧ Nx (upd H4 D (.lst (acc ++ [y]))) else Nx H3))) := by
  refine ⟨a, xs, rfl, ?_⟩
  rcases hq with h | h
  · exact .inl ⟨h, fun D n => lc_list (Pv D) (h0 D n) (fun i H' _ p => (hk D i H' n p).seq h) (fun i x H e p => hs D i x H n e p) fun H p => hd D H n p⟩
  · exact .inr ⟨h, fun D n => lc_tup (Pv D) (h0 D n) (fun i H' _ p => same_tup (hk D i H' n p) h) (fun i x H e p => hs D i x H n e p) fun H p => hd D H n p⟩
/-! ### words of copies in the heap -/
def kW : Kd → Str
  | .kAt => "at"
  | .kNot => "not"
  | .kAhd => "ahead"
theorem kw_t (k : Kd) : decide (V.str (kW k) = V.str (kW k)) = true := decide_eq_true rfl
theorem kw_f {k k' : Kd} (h : k ≠ k') : decide (V.str (kW k) = V.str (kW k')) = false := by
  cases k <;> cases k' <;> first
    | exact absurd rfl h
    | decide +kernel
def WdAt (H : Hp) (v : V) (w : Wd) : Prop := ∃ p, v = .ref p ∧ H p = some (.tup [.str (kW w.k), .int (w.one : Int), .int (w.oth : Int)])
abbrev WsAt (H : Hp) : List V → List Wd → Prop := Paired (WdAt H)
theorem WsAt.same {H H' : Hp} (s : Same H H') {vs : List V} {ws : List Wd} (h : WsAt H vs ws) : WsAt H' vs ws := L2.Paired.mapP h fun _ _ ⟨p, e, q⟩ => ⟨p, e, s _ _ q⟩
theorem paired_at {α β : Type} {F : α → β → Prop} : ∀ {xs : List α} {ys : List β} {i : Nat} {x : α}, Paired F xs ys → xs[i]? = some x → ∃ y, ys[i]? = some y ∧ F x y
  | _, _, _, _, .nil, e => by simp at e
  | _, _, 0, _, .cons r _, e => by
    simp at e
    subst e
    exact ⟨_, rfl, r⟩
  | _, _, i + 1, x, .cons _ t, e => by
    obtain ⟨u, h1, h2⟩ := paired_at (i := i) (x := x) t (by simpa using e)
    exact ⟨u, by simpa using h1, h2⟩
theorem WsAt.len {H : Hp} {vs : List V} {ws : List Wd} (h : WsAt H vs ws) : vs.length = ws.length := Paired.length h
section
variable {P : Program} {w : World} {K : PySem.W.Frag} {mg : Str → Option Value} {base : Heap} {aB : Addr}
/-! ### is_let, next_ones -/
def spLet (K : PySem.W.Frag) : Sp := fun vs H Q _ => ∃ (a : Addr) (xs : List V) (ws : List Wd) (u d : Nat), vs = [.ref a, .int u, .int d] ∧ SqA K H a xs ∧ WsAt H xs ws ∧ (∀ w ∈ ws, w.one < 7) ∧ ∀ H', Same H H' → Q (.bl (letM ws u d)) H'
theorem all_take {α : Type} {l : List α} {f : α → Bool} {i : Nat} {x : α} (h : l[i]? = some x) (hf : (l.take i).all f = true) (hx : f x = true) : (l.take (i + 1)).all f = true := by
  rw [List.take_add_one, h, List.all_append, hf]
  simp [hx]
theorem not_all {α : Type} {l : List α} {f : α → Bool} {i : Nat} {x : α} (h : l[i]? = some x) (hx : f x = false) : l.all f = false := by
  rw [Bool.eq_false_iff]
  intro e
  rw [List.all_eq_true] at e
  have := e x (List.mem_of_getElem? h)
  rw [hx] at this
  cases this
theorem nat_dec (a b : Nat) : decide (V.int (a : Int) = V.int (b : Int)) = (a == b) := by
  rw [Bool.eq_iff_iff, decide_eq_true_iff, beq_iff_eq, V.int.injEq]
  omega
theorem c_let (T : Txt K mg aB) (D : Df K mg "is_let" sLet ["words", "used", "deed"]) (GC : Cal P w K mg base 2 "count_of" spCount []) (GH : Cal P w K mg base 1 "has" spHas []) : Cal P w K mg base 3 "is_let" (spLet K) [] := by
  refine D.cal scLet (fun vs H Q E h => ?_) (fun f cdv A outer s H vs Q E hr h => ?_)
  · obtain ⟨_, _, _, _, _, rfl, _⟩ := h
    rfl
  · obtain ⟨a, xs, ws, u, d, rfl, hq, hw, h7, q⟩ := h
    refine ⟨_, pss_cons (ps_set (i := 3) scLet.nd rfl (Or.inl rfl) (pe_c GC hr (by decide) (by rfl) (pa_cons (pv 1) pa_nil)))
      (pss_cons (ps_for PassesOwn.never rfl (pi_seq (pv 0)) (pg_tup rfl (pgs_cons (pg_name (i := 4) scLet.nd rfl (.inl rfl)) (pgs_cons (pg_name (i := 5) scLet.nd rfl (.inl rfl)) (pgs_cons (pg_name (i := 6) scLet.nd rfl (.inl rfl)) pgs_nil))))
        (pss_cons (ps_if (PW.pt (pw_and (pt_cmpR op_eq (pv 4) pe_str (nomark _)) (pw_and (pt_cmpR op_eq (pv 5) (pv 2) (nomark _)) (pw_and1 (pt_cmpR op_ne (pv 6) (pv 3) (nomark _)))))) (pss_one (ps_ret pe_bl)) pss_nil)
        (pss_cons (ps_if (PW.pt (pw_and (pt_cmpR op_eq (pv 4) pe_str (nomark _)) (pw_and (pt_cmpR op_eq (pv 5) (pv 2) (nomark _)) (pw_and1 (pt_cmpR op_eq (pv 6) (pv 3) (nomark _)))))) (pss_one (ps_ret pe_bl)) pss_nil)
        (pss_one (ps_if (PW.pt (pw_and (pt_cmpR op_eq (pv 4) pe_str (nomark _)) (pw_and (pt_cmpR op_eq (pv 6) (pv 2) (nomark _)) (pw_and1 (pt_not (pt_val (pe_c GH hr (by decide) (by rfl) (pa_cons (pv 1) (pa_cons (pv 5) pa_nil))))))))) (pss_one (ps_ret pe_bl)) pss_nil)))))
      (pss_one (ps_ret pe_bl))), ?_⟩
    refine ⟨_, rfl, u, rfl, fun H1 s1 => ?_⟩
    refine ⟨_, rfl, ?_⟩
    refine for_seq (hq.same s1) (fun i σ H2 => ∃ y4 y5 y6, σ = [some (V.ref a), some (.int u), some (.int d), some (.int (cnt u : Nat)), y4, y5, y6] ∧ Same H1 H2 ∧ (ws.take i).all (fun w => ok1 w (cnt u) (has u) d) = true)
      ⟨none, none, none, rfl, Same.refl _, rfl⟩ (fun i σ H2 ⟨_, _, _, _, s, _⟩ => s) ?_ ?_
    · rintro i x σ H2 hi ⟨y4, y5, y6, rfl, s2, ha⟩
      obtain ⟨wd, hwi, p, rfl, hp⟩ := paired_at (hw.same (s1.trans s2)) hi
      have hno : ok1 wd (cnt u) (has u) d = false → letM ws u d = false := fun e => not_all hwi e
      have hyes : ok1 wd (cnt u) (has u) d = true → (ws.take (i + 1)).all (fun w => ok1 w (cnt u) (has u) d) = true := fun e => all_take hwi ha e
      have hn : ∀ b, letM ws u d = b → Q (.bl b) H2 := fun b e => by
        rw [← e]
        exact q _ (s1.trans s2)
      have h7' := h7 wd (List.mem_of_getElem? hwi)
      refine ⟨p, _, rfl, .inl (.inl hp), rfl, _, _, rfl, _, _, rfl, _, _, rfl, rfl, ?_⟩
      have hnx : ok1 wd (cnt u) (has u) d = true → (fun σ H2 => ∃ y4 y5 y6, σ = [some (V.ref a), some (.int u), some (.int d), some (.int (cnt u : Nat)), y4, y5, y6] ∧ Same H1 H2 ∧ (ws.take (i + 1)).all (fun w => ok1 w (cnt u) (has u) d) = true)
          [some (V.ref a), some (.int u), some (.int d), some (.int (cnt u : Nat)), some (.str (kW wd.k)), some (.int (wd.one : Int)), some (.int (wd.oth : Int))] H2 := fun e => ⟨_, _, _, rfl, s2, hyes e⟩
      revert hno hnx
      obtain ⟨k, one, oth⟩ := wd
      intro hno hnx
      cases k with
      | kAt =>
        refine ⟨_, rfl, rfl, _, rfl, iteE (kw_t .kAt) ⟨_, rfl, _, rfl, rfl, _, rfl, ?_⟩⟩
        rw [nat_dec]
        cases e1 : (one == d) with
        | false => exact iteF (iteF (⟨_, rfl, rfl, _, rfl, iteN (kw_f (k := .kAt) (k' := .kNot) (by decide)) (iteF ⟨_, rfl, rfl, _, rfl, iteN (kw_f (k := .kAt) (k' := .kAhd) (by decide)) (iteF (hnx (by unfold ok1; simp [e1])))⟩)⟩))
        | true =>
          refine iteT ⟨_, rfl, _, rfl, rfl, _, rfl, ?_⟩
          rw [nat_dec]
          cases e2 : (oth == cnt u) with
          | true => exact iteF (⟨_, rfl, rfl, _, rfl, iteN (kw_f (k := .kAt) (k' := .kNot) (by decide)) (iteF ⟨_, rfl, rfl, _, rfl, iteN (kw_f (k := .kAt) (k' := .kAhd) (by decide)) (iteF (hnx (by unfold ok1; simp [e1, e2, bne])))⟩)⟩)
          | false => exact iteT (hn false (hno (by unfold ok1; simp [e1, e2, bne])))
      | kNot =>
        refine ⟨_, rfl, rfl, _, rfl, iteN (kw_f (k := .kNot) (k' := .kAt) (by decide)) (iteF ?_)⟩
        refine ⟨_, rfl, rfl, _, rfl, iteE (kw_t .kNot) ⟨_, rfl, _, rfl, rfl, _, rfl, ?_⟩⟩
        rw [nat_dec]
        cases e1 : (one == d) with
        | false => exact iteF (iteF (⟨_, rfl, rfl, _, rfl, iteN (kw_f (k := .kNot) (k' := .kAhd) (by decide)) (iteF (hnx (by unfold ok1; simp [e1])))⟩))
        | true =>
          refine iteT ⟨_, rfl, _, rfl, rfl, _, rfl, ?_⟩
          rw [nat_dec]
          cases e2 : (oth == cnt u) with
          | false => exact iteF (⟨_, rfl, rfl, _, rfl, iteN (kw_f (k := .kNot) (k' := .kAhd) (by decide)) (iteF (hnx (by unfold ok1; simp [e1, e2])))⟩)
          | true => exact iteT (hn false (hno (by unfold ok1; simp [e1, e2])))
      | kAhd =>
        refine ⟨_, rfl, rfl, _, rfl, iteN (kw_f (k := .kAhd) (k' := .kAt) (by decide)) (iteF ?_)⟩
        refine ⟨_, rfl, rfl, _, rfl, iteN (kw_f (k := .kAhd) (k' := .kNot) (by decide)) (iteF ?_)⟩
        refine ⟨_, rfl, rfl, _, rfl, iteE (kw_t .kAhd) ⟨_, rfl, _, rfl, rfl, _, rfl, ?_⟩⟩
        rw [nat_dec]
        cases e1 : (oth == d) with
        | false => exact iteF (iteF (hnx (by unfold ok1; simp [e1])))
        | true =>
          refine iteT ⟨_, rfl, _, rfl, u, one, rfl, h7', _, rfl, ?_⟩
          cases e2 : has u one with
          | true => exact iteF (hnx (by unfold ok1; simp [e1, e2]))
          | false => exact iteT (hn false (hno (by unfold ok1; simp [e1, e2])))
    · rintro σ H2 ⟨y4, y5, y6, rfl, s2, ha⟩
      have e : letM ws u d = true := by
        have hl : ws.take xs.length = ws := List.take_of_length_le (by rw [hw.len]; exact Nat.le_refl _)
        rw [hl] at ha
        exact ha
      have := q _ (s1.trans s2)
      rw [e] at this
      exact this
end
end LB
namespace LB
open PySem PySem.Spec PyProof.Rows L2
/-! ### own rules: sum of a tuple, place of an int in a tuple, set of a list of ints -/
section
variable {P : Program} {w : World} {A : Around} {E : Value → Shared → Prop} {s : Shared} {l : Addr}
theorem sum_of_tup {its : List Value} {ns : List Int} {Q : Value → Shared → Prop} (hh : A.handled = none) (hl : s.heap.IsTuple l its.toArray) (hi : IntsAre its ns)
    (h : ∀ h' tk t', (∀ b o, s.heap.get? b = some o → h'.get? b = some o) → Q (.int ns.sum t') { s with heap := h', toks := tk }) : wpAny (model P w) A (call (.builtin "sum") [.ref l]) Q E s := by
  obtain ⟨xs, e⟩ := hi.allInts.items
  have hn : numsOf (intItems xs).toList = ns := by
    rw [← e]
    exact hi.numsOf
  rw [nums_intItems] at hn
  rw [e] at hl
  have hlt : l < s.heap.objs.size := by
    obtain ⟨_, q, _⟩ := hl
    exact Heap.lt_size q
  refine call_sum_walkG (wpAny_pyIter_tuple hl ⟨s.heap.objs.size, _, _, _, _, _, numAt xs, rfl, Walks.tuple (A := A.in1) hh _ l (Nat.ne_of_lt hlt) (intItems xs), (⟨⟨_, Heap.get?_push_size _ rfl, rfl, rfl⟩, hl.push _⟩ : Heap.IsTupleIter _ _ _ _ ∧ Heap.IsTuple _ _ _), fun b hb => ?_, fun _ _ => intItems_at, fun h' tk t' hk => ?_⟩)
  · show b < (s.heap.push _).objs.size
    rw [Heap.size_push]
    rcases List.mem_cons.mp hb with q | q
    · rw [q]
      exact Nat.lt_succ_self _
    · rw [List.mem_singleton.mp q]
      exact Nat.lt_succ_of_lt hlt
  · have hsz : (intItems xs).size = xs.size := by simp [intItems]
    have q := h h' tk t' fun b o e => hk b o (fun m => Nat.ne_of_lt (Heap.lt_size e) (List.mem_singleton.mp m)) (Heap.get?_push_of_some _ e)
    rw [hsz, preSum_eq, List.take_of_length_le (by simp), hn]
    exact q
/-- set(xs) of a list of ints -/
theorem set_of_list {items : Array Value} (ns : List Int) {Q : Value → Shared → Prop} (hh : A.handled = none) (hl : s.heap.IsList l items) (hit : IntsAre items.toList ns) (hb : ns.length + 1 < scanBound)
    (h : ∀ (h' : Heap) (tk c : Nat), SetR w h' s.heap.objs.size (fun j => decide (j ∈ ns)) c → (∀ b o, s.heap.get? b = some o → h'.get? b = some o) → Q (.ref s.heap.objs.size) { s with heap := h', toks := tk }) :
    wpAny (model P w) A (call (.type "set") [.ref l]) Q E s := by
  have hlen : items.size = ns.length := by
    have q := IntsAre.length hit
    rw [Array.length_toList] at q
    exact q
  obtain ⟨mc, mt, hmro⟩ := F.called_set.mro
  have hmade := F.called_set.made
  have hsub := F.called_set.sub
  refine wpAny_call (codeAny_of_tree (show wpAny _ _ (callAny (.type "set") _) _ _ _ from wpAny_pure ⟨Code.quiet_builtin _ (by decide +kernel), codeAny_builtin F.entry_type_call ?_⟩))
  rw [Around.under_plain (weight_type_call_type "set" [.ref l] []) rfl]
  have n1 := F.called_set.notType
  have n2 := F.called_set.canCreate
  have n3 := F.typeCall_set_1 (.ref l)
  repeat (any_goals (first | assumption | wp_step))
  generalize ob : ({ cls := .type "set", dict := none, data := .set #[] 0 (.fresh 0 0 (!w.params.followText "set-order")) } : Obj) = o0
  refine codeAny_mono (code_set_led1 (.ref l) (E := E) (Q₁ := fun v s₁ => v = .ref s.heap.objs.size ∧ s₁ = { s with heap := s.heap.push o0 }) ⟨rfl, by rw [ob]⟩) fun r s₁ hr => ?_
  cases r with
  | error e => exact hr
  | ok fl =>
    cases fl with
    | ret v =>
      obtain ⟨rfl, rfl⟩ := hr
      have hS : (s.heap.push o0).get? s.heap.objs.size = some o0 := Heap.get?_push_size _ (by rw [← ob]; rfl)
      have hT : Shared.TypeIs { s with heap := s.heap.push o0 } (.ref s.heap.objs.size) "set" := ⟨_, hS, by rw [← ob]⟩
      have i1 := F.called_set.init.lookup
      have i2 := F.called_set.init.bind (.ref s.heap.objs.size)
      repeat (any_goals (first | assumption | wp_step))
      refine codeAny_mono (codeAny_call_builtin (R := wants (fun r s₂ => r = .none ∧ ∃ h' tk c, s₂ = { s with heap := h', toks := tk } ∧ SetR w h' s.heap.objs.size (fun j => decide (j ∈ ns)) c ∧
          (∀ b o, s.heap.get? b = some o → h'.get? b = some o)) E) F.called_set.init.plain F.entry_set_init (check_set_init_1 hT ?_)) fun r₂ s₂ hr₂ => ?_
      · obtain ⟨⟨lc, ld, ldt, lsl⟩, hol, hcl, nl, hdl⟩ := hl
        simp only at hcl hdl
        subst hcl hdl
        have hol2 : (s.heap.push o0).get? l = some { cls := .type "list", dict := ld, data := .seq items nl, slots := lsl } := Heap.get?_push_of_some _ hol
        have u1 := F.sub_list_set
        have u2 := F.sub_list_frozenset
        have u3 : (Value.type "list" == Value.type "dict") = false := by decide
        have hl1 : (s.heap.push o0).IsList l items := ⟨_, hol2, rfl, nl, rfl⟩
        have lt1 : l < s.heap.objs.size := Heap.lt_size hol
        have lt2 : (s.heap.push o0).objs.size = s.heap.objs.size + 1 := Heap.size_push ..
        have hne : l ≠ (s.heap.push o0).objs.size := by
          rw [lt2]
          exact Nat.ne_of_lt (Nat.lt_succ_of_lt lt1)
        have hnot : s.heap.objs.size ∉ [(s.heap.push o0).objs.size, l] := fun m => by
          rw [lt2] at m
          rcases List.mem_cons.mp m with q | q
          · exact absurd q (Nat.ne_of_lt (Nat.lt_succ_self _))
          · exact absurd (List.mem_singleton.mp q) (Nat.ne_of_gt lt1)
        subst ob
        unfold Builtin.«set.__init__» noKeywords Builtin.Frozenset.updateFrom
        generalize hPI : pyIter = PI
        wp_walk
        subst hPI
        refine wpAny_pyIter_list hl1 ?_
        refine wpAny_bind (wpAny_runValue ?_)
        refine set_update_ints ((Walks.list (show A.in1.in1.in1.handled = none by simp [hh]) _ l hne items).toS) s.heap.objs.size hnot ns hlen hb (fun i v hv => ?_) (items.size - 0) 0 _ (by omega) (Nat.zero_le _)
          ⟨⟨_, Heap.get?_push_size _ rfl, rfl, rfl⟩, hl1.push _⟩ ?z0 ?zR
        · have hi : i < ns.length := by
            rw [← hlen]
            exact (Array.getElem?_eq_some_iff.mp hv).1
          obtain ⟨t, e⟩ := PyProof.Rows.IntsAre.int_at hit i v (by rw [Array.getElem?_toList]; exact hv)
          refine ⟨ns[i], t, List.getElem?_eq_getElem hi, ?_⟩
          rw [e, List.getD_eq_getElem?_getD, List.getElem?_eq_getElem hi]
          rfl
        case z0 =>
          refine ⟨0, Nat.le_refl 0, setR_new_at ?_⟩
          exact Heap.get?_push_of_some _ hS
        case zR =>
          intro s' c' hm _ hS'
          obtain ⟨h', g2, d', tk', os'⟩ := s'
          have eg : g2 = s.gens := hm.gens
          have ed : d' = s.drawn := hm.drawn
          have eo : os' = s.os := hm.os
          subst eg ed eo
          show wpAny _ _ _ _ _ _
          refine wpAny_pure (show wpAny _ _ (ret Value.none) _ _ _ from wpAny_pure ⟨rfl, h', tk', c', rfl, hS', fun b o e => ?_⟩)
          have hb0 : b < s.heap.objs.size := Heap.lt_size e
          refine hm.heap b o (fun m => ?_) (Heap.get?_push_of_some _ (Heap.get?_push_of_some _ e))
          rw [lt2] at m
          rcases List.mem_cons.mp m with q | q
          · exact absurd q (Nat.ne_of_lt hb0)
          · exact absurd (List.mem_singleton.mp q) (Nat.ne_of_lt (Nat.lt_succ_of_lt hb0))
      · cases r₂ with
        | error e => exact hr₂
        | ok fl₂ =>
          cases fl₂ with
          | ret r =>
            obtain ⟨rfl, h', tk, c', rfl, hS', hk'⟩ := hr₂
            repeat (any_goals (first | assumption | wp_step))
            exact h _ _ _ hS' hk'
          | _ => exact hr₂.elim
    | _ => exact hr.elim
/-- how many a set of ints has -/
theorem setR_card {h : Heap} {a : Addr} {S : Int → Bool} {n : Nat} (R : SetR w h a S n) : ∃ ks : List Int, ks.Nodup ∧ (∀ k, k ∈ ks ↔ S k = true) ∧ ks.length = n := by
  obtain ⟨o, es, ep, t, _, _, _, _, nd, hm, _, _, hn, _⟩ := R
  refine ⟨_, nd, fun k => (hm k).symm, ?_⟩
  rw [List.length_map, Array.length_toList, hn]
end
section
variable {X : Cx}
def rSumT (K : PySem.W.Frag) : List V → Hp → VK → Prop := fun vs H Q => ∃ (a : Addr) (ns : List Int), vs = [V.ref a] ∧ SqT K H a (ns.map V.int) ∧ Q (.int ns.sum) H
theorem cr_sumT (hc : X.calm = true) : CallR X (.builtin "sum") (rSumT X.K) := by
  intro pins s σ H vs us Q I r h
  obtain ⟨a, ns, rfl, hs, q⟩ := h
  obtain ⟨its, rv, ht, _⟩ := I.tuple hs
  rw [Vals.ref1 r]
  exact sum_of_tup (I.ok.hd hc) (show s.heap.IsTuple a its.toArray from ht) rv.ints fun h' tk t' hk => ⟨.int _, H, I.kept hk, ⟨_, rfl⟩, q⟩
theorem mt_indexI : MtR X "tuple.index" (fun x xs H Q => ∃ (p : Addr) (ns : List Int) (k : Int) (j : Nat), x = .ref p ∧ xs = [.int k] ∧ SqT X.K H p (ns.map V.int) ∧ ns[j]? = some k ∧ (∀ m, m < j → ns[m]? ≠ some k) ∧ Q (.int (j : Nat)) H) := by
  intro pins s σ H x xs v us Q I rx rs h
  obtain ⟨p, ns, k, j, rfl, rfl, hq, hy, hno, q⟩ := h
  cases rx
  obtain ⟨u, rfl, t, rfl⟩ := vals1 rs
  obtain ⟨its, r, ⟨⟨cls, dd, dt, sl⟩, ho, hc, n, hd⟩, hz⟩ := I.tuple hq
  simp only at hc hd
  subst hc hd
  have hi := ints_of_vals r
  have hl : its.toArray.size = ns.length := by rw [List.size_toArray, ← r.length, List.length_map]
  have at' : ∀ (m : Nat) (hm : m < its.toArray.size), ∃ t', its.toArray[m] = Value.int (ns[m]'(by omega)) t' := fun m hm => by
    obtain ⟨t', e⟩ := hi.get m _ (List.getElem?_eq_getElem (show m < ns.length by omega))
    have e2 := (List.getElem?_eq_some_iff.mp e).2
    exact ⟨t', by simpa using e2⟩
  have hj : j < its.toArray.size := by
    rw [hl]
    exact (List.getElem?_eq_some_iff.mp hy).1
  refine call_meets PySem.F.slot_tuple_index ⟨_, ho, rfl⟩ PySem.F.entry_tuple_index (PySem.F.args_tuple_index_2 _ _) (TI.tuple_indexAt p its.toArray n dd sl (.int k t) (eqk k) j hj ?_ ?_)
    ⟨ho, fun y my => (eqk_gives hi y (by simpa using my)).at _ _, ⟨.int (j : Nat), H, I.tok _, ⟨_, rfl⟩, q⟩⟩
  · obtain ⟨t', e⟩ := at' j hj
    rw [e, (List.getElem?_eq_some_iff.mp hy).2]
    exact beq_self_eq_true k
  · intro m hm hmj
    obtain ⟨t', e⟩ := at' m hm
    rw [e]
    exact beq_eq_false_iff_ne.mpr fun z => hno m hmj (by rw [List.getElem?_eq_getElem (show m < ns.length by omega), z])
/-- set(xs), xs a list or a tuple of ints -/
def rSetA (K : PySem.W.Frag) (w : World) : List V → Hp → VK → Prop := fun vs H Q => ∃ (a : Addr) (ns : List Int), vs = [V.ref a] ∧ SqA K H a (ns.map V.int) ∧ ns.length ≤ 1000 ∧
  ∀ (p : Addr) (ks : List Int), H p = none → ks.Nodup → (∀ k, k ∈ ks ↔ k ∈ ns) → Q (.ref p) (upd H p (SetO w p (fun j => decide (j ∈ ns)) ks.length))
theorem cr_setA (hc : X.calm = true) : CallR X (.type "set") (rSetA X.K X.w) := by
  intro pins s σ H vs us Q I r h
  obtain ⟨a, ns, rfl, hq, hl, q⟩ := h
  rw [Vals.ref1 r]
  have fin : ∀ (h' : Heap) (tk c : Nat), SetR X.w h' s.heap.objs.size (fun j => decide (j ∈ ns)) c → (∀ b o, s.heap.get? b = some o → h'.get? b = some o) → EP X pins σ Q (.ref s.heap.objs.size) { s with heap := h', toks := tk } := fun h' tk c R k => by
    obtain ⟨ks, nd, hm, rfl⟩ := setR_card R
    exact ⟨.ref _, _, I.laid k (Nat.le_refl _) (setO_new R), rfl, q _ ks (I.hok.fresh (Nat.le_refl _)) nd fun k => by rw [hm k, decide_eq_true_eq]⟩
  rcases hq with hq | hq
  · obtain ⟨its, rv, hL, _⟩ := I.list hq
    exact set_of_list ns (I.ok.hd hc) hL.isList (by simpa using ints_of_vals rv) (by unfold scanBound; omega) fin
  · obtain ⟨its, rv, hT, _⟩ := I.tuple hq
    exact call_set_tupI ns (I.ok.hd hc) (show s.heap.IsTuple a its.toArray from hT) (by simpa using ints_of_vals rv) (by unfold scanBound; omega) fun h' tk c R _ k => fin h' tk c R k
/-- len of such a set -/
def rLenSet (w : World) : List V → Hp → VK → Prop := fun vs H Q => ∃ (a : Addr) (S : Int → Bool) (n : Nat), vs = [V.ref a] ∧ H a = some (SetO w a S n) ∧ n ≤ 1000 ∧ Q (.int (n : Nat)) H
theorem cr_lenSet : CallR X (.builtin "len") (rLenSet X.w) := by
  intro pins s σ H vs us Q I r h
  obtain ⟨a, S, n, rfl, ha, hn, q⟩ := h
  rw [Vals.ref1 r]
  obtain ⟨o, es, ep, t, ho, hx, hd, _, _, _, _, hf, en, _⟩ := setO_get I ha
  exact call_len_set ho hx hd hf (by rw [en]; omega) ⟨.int (n : Nat), H, I.tok _, ⟨_, by rw [en]⟩, q⟩
/-- the same with the world named -/
theorem cr_setAw {w : World} (hw : X.w = w) (hc : X.calm = true) : CallR X (.type "set") (rSetA X.K w) := hw ▸ cr_setA hc
theorem cr_sortedSetw {w : World} (hw : X.w = w) (hc : X.calm = true) : CallR X (.builtin "sorted") (rSortedSet w) := hw ▸ cr_sortedSet hc
theorem cr_lenSetw {w : World} (hw : X.w = w) : CallR X (.builtin "len") (rLenSet w) := hw ▸ cr_lenSet
end
end LB
namespace LB
open PySem PySem.Spec PyProof.Rows L2
/-! ### zip of a tuple and a list; enumerate of a tuple -/
/-- the tuple at a and the list at b, item by item, in new pairs -/
def ItzM (K : PySem.W.Frag) (a b : Addr) : It :=
  ⟨fun i H => ∃ (xs ys : List V) (x y : V), SqT K H a xs ∧ SqL K H b ys ∧ xs[i]? = some x ∧ ys[i]? = some y,
    fun i H v H' => ∃ T x y, v = .ref T ∧ H T = none ∧ H' = upd H T (.tup [x, y]) ∧ (∀ xs, SqT K H a xs → xs[i]? = some x) ∧ ∀ ys, SqL K H b ys → ys[i]? = some y,
    fun i H => ∃ xs ys : List V, SqT K H a xs ∧ SqL K H b ys ∧ i = xs.length ∧ i = ys.length⟩
theorem turn_zipM {P : Program} {w : World} {K : PySem.W.Frag} {elts : List Expr} {kk : Nat} {tpos : Pos} {a b N : Addr} (ha : a < N) (hb : b < N) :
    Turn P w K (.Tuple elts kk tpos) (ItzM K a b) [N + 4, N + 2, N + 3, N, N + 1] (N + 4)
      (fun i h => IsZip h (N + 4) (N + 2) (N + 3) .none ∧ IsTupOf2 h (N + 2) (.ref N) (.ref (N + 1)) ∧ (∃ x y, IsTupOf2 h (N + 3) x y) ∧ h.IsTupleIter N a i ∧ h.IsListIter (N + 1) b i) where
  mem := by simp
  obj := fun i h st c hc => by
    obtain ⟨hz, h1, ⟨x, y, h2⟩, ⟨o1, e1, _, d1⟩, ⟨o2, e2, _, d2⟩⟩ := st
    rcases (by simpa using hc : c = N + 4 ∨ c = N + 2 ∨ c = N + 3 ∨ c = N ∨ c = N + 1) with rfl | rfl | rfl | rfl | rfl
    · exact ⟨_, hz, fun v q => nomatch q⟩
    · exact ⟨_, h1, fun v q => nomatch q⟩
    · exact ⟨_, h2, fun v q => nomatch q⟩
    · exact ⟨o1, e1, fun v q => by rw [d1] at q; cases q⟩
    · exact ⟨o2, e2, fun v q => by rw [d2] at q; cases q⟩
  keep := fun i h h' st k => by
    obtain ⟨hz, h1, ⟨x, y, h2⟩, h3, h4⟩ := st
    exact ⟨k _ (by simp) _ hz, k _ (by simp) _ h1, ⟨x, y, k _ (by simp) _ h2⟩, h3.at fun o q => k _ (by simp) o q, h4.at fun o q => k _ (by simp) o q⟩
  item := by
    intro X hP hw hK hc i pins s σ H E I hf st hg
    subst hP hw hK
    obtain ⟨hz, h1, h2, h3, h4⟩ := st
    obtain ⟨xs, ys, x, y, hqx, hqy, hx, hy⟩ := hg
    obtain ⟨its, rv, p1, _⟩ := I.tuple hqx
    obtain ⟨its2, rv2, p2, _⟩ := I.list hqy
    obtain ⟨u, hu, ru⟩ := rv.get hx
    obtain ⟨u2, hu2, ru2⟩ := rv2.get hy
    have hd : X.A.in1.handled = none := I.ok.hd hc
    have W := WalksT.zipD2 (P1 := fun i v => its.toArray[i]? = some v) (P2 := fun i v => its2.toArray[i]? = some v)
      (zip_sep2 (N := N) (fp1 := [a]) (fp2 := [b]) (fun c hc => by rw [List.mem_singleton.mp hc]; exact ha) fun c hc => by rw [List.mem_singleton.mp hc]; exact hb)
      (Draws.tuple (prog := X.prog) (w := X.w) hd N a (Nat.ne_of_lt ha) its.toArray) (Draws.list (prog := X.prog) (w := X.w) hd (N + 1) b (Nat.ne_of_lt (Nat.lt_succ_of_lt hb)) its2.toArray)
    have i1 : i < its.toArray.size := by
      rw [List.size_toArray]
      exact (List.getElem?_eq_some_iff.mp hu).1
    have i2 : i < its2.toArray.size := by
      rw [List.size_toArray]
      exact (List.getElem?_eq_some_iff.mp hu2).1
    refine W.item i s _ _ (by omega) ⟨hz, h1, h2, ⟨h3, p1⟩, ⟨h4, p2.isList⟩⟩ fun T vals h' tk hPt hT hIT hMid hk => ?_
    refine ⟨_, rfl, W.go elts kk tpos i T { s with heap := h', toks := tk } _ _ hMid fun h'' hSt hk2 => ?_⟩
    obtain ⟨v1, v2, e1, e2, rfl⟩ := hPt
    have ev1 : v1 = u := Option.some.inj (e1.symm.trans (by simpa using hu))
    have ev2 : v2 = u2 := Option.some.inj (e2.symm.trans (by simpa using hu2))
    subst ev1 ev2
    have hTw := W.apart _ _ _ hMid
    obtain ⟨oT, hoT, hcT, nT, hdT⟩ := hIT
    have hoT2 : h''.get? T = some oT := hk2 T oT hTw hoT
    have new : ObjOk X.prog X.w (upd H T (.tup [x, y])) h'' T (.tup [x, y]) := ⟨by show 2 ≤ sizeLine; decide, [v1, v2], .cons ru (.cons ru2 .nil), oT, hoT2, hcT, nT, hdT⟩
    have I1 : Inv X pins σ (upd H T (.tup [x, y])) { s with heap := h'', toks := tk } :=
      I.turnedNew (ch := [N + 4, N + 2, N + 3, N, N + 1]) (fun c o hn q => hk2 c o (fun m => hn (by rcases List.mem_cons.mp m with e | m <;> simp_all)) (hk c o (fun m => hn (by rcases List.mem_cons.mp m with e | m <;> simp_all)) q)) hf hT new
    obtain ⟨z1, z2, z3, ⟨z4, _⟩, ⟨z5, _⟩⟩ := hSt
    refine ⟨.ref T, _, I1, rfl, ⟨T, x, y, rfl, I.hok.fresh hT, rfl, fun l hl => by rw [I.tuple_inj hl hqx]; exact hx, fun l hl => by rw [I.list_inj hl hqy]; exact hy⟩, ⟨z1, z2, z3, z4, z5⟩, fun c hcm => ?_⟩
    have hlt : c < s.heap.objs.size := by
      rcases (by simpa using hcm : c = N + 4 ∨ c = N + 2 ∨ c = N + 3 ∨ c = N ∨ c = N + 1) with rfl | rfl | rfl | rfl | rfl
      · exact Heap.lt_size hz
      · exact Heap.lt_size h1
      · obtain ⟨_, _, e⟩ := h2
        exact Heap.lt_size e
      · obtain ⟨_, e, _⟩ := h3
        exact Heap.lt_size e
      · obtain ⟨_, e, _⟩ := h4
        exact Heap.lt_size e
    rw [upd_ne (Nat.ne_of_lt (Nat.lt_of_lt_of_le hlt hT))]
    exact (hf c hcm).1
  done := by
    intro X hP hw hK hc i pins s σ H E I hf st hg
    subst hP hw hK
    obtain ⟨hz, h1, h2, h3, h4⟩ := st
    obtain ⟨xs, ys, hqx, hqy, rfl, hl⟩ := hg
    obtain ⟨its, rv, p1, _⟩ := I.tuple hqx
    obtain ⟨its2, rv2, p2, _⟩ := I.list hqy
    have hd : X.A.in1.handled = none := I.ok.hd hc
    have W := WalksT.zipD2 (P1 := fun i v => its.toArray[i]? = some v) (P2 := fun i v => its2.toArray[i]? = some v)
      (zip_sep2 (N := N) (fp1 := [a]) (fp2 := [b]) (fun c hc => by rw [List.mem_singleton.mp hc]; exact ha) fun c hc => by rw [List.mem_singleton.mp hc]; exact hb)
      (Draws.tuple (prog := X.prog) (w := X.w) hd N a (Nat.ne_of_lt ha) its.toArray) (Draws.list (prog := X.prog) (w := X.w) hd (N + 1) b (Nat.ne_of_lt (Nat.lt_succ_of_lt hb)) its2.toArray)
    have e1 : min its.toArray.size its2.toArray.size = xs.length := by
      have q1 := rv.length
      have q2 := rv2.length
      rw [List.size_toArray, List.size_toArray]
      omega
    refine W.done s _ _ ?_ fun h' tk hk => ⟨rfl, I.turnedL (ch := [N + 4, N + 2, N + 3, N, N + 1]) (fun c o hn q => hk c o (fun m => hn (by rcases List.mem_cons.mp m with e | m <;> simp_all)) q) hf⟩
    rw [e1]
    exact ⟨hz, h1, h2, ⟨h3, p1⟩, ⟨h4, p2.isList⟩⟩
  self := fun A i s Q E st h => wpAny_pyIter_zip st.1 h
def iZipM (K : PySem.W.Frag) (ta : TA) : TI := fun σ H R => ta σ H fun vs H1 => ∃ a b xs ys, vs = [.ref a, .ref b] ∧ SqT K H1 a xs ∧ SqL K H1 b ys ∧ R (ItzM K a b) H1
theorem pi_zipM {X : Cx} {e e2 : Expr} {ta : TA} {p pos tpos : Pos} {elts : List Expr} {kk : Nat} (hg : Gl X "zip") (hm : X.mg "zip" = none) (ha : PA X [e, e2] ta)
    (hs : starEach [e, e2] X.env = (false, eval e X.env) :: starEach [e2] X.env := by rfl) (hpl : (backTo pos (starEach [e2] X.env)).any (·.1) = false := by rfl) :
    PI X (.Tuple elts kk tpos) (.Call (.Name "zip" p) [e, e2] [] pos) (iZipM X.K ta) := by
  refine ⟨fun pins s σ H R I h => Call_ (ld_blt I hg hm PyProof.Rows.boot_zip (PyProof.Rows.callWith_type1 (thn (ha.run pos pins s σ H _ I h) fun us s1 ⟨vs, H1, I1, r1, q1⟩ => ?_) hs hpl))⟩
  obtain ⟨a, b, xs, ys, rfl, hqx, hqy, q⟩ := q1
  obtain ⟨u1, u2, rfl, e1, e2⟩ := vals2 r1
  cases e1
  cases e2
  obtain ⟨its, rv, p1, _⟩ := I1.tuple hqx
  obtain ⟨its2, rv2, p2, _⟩ := I1.list hqy
  obtain ⟨o1, ho1, _⟩ := id p1
  refine zip_begins2 (begins_tuple a its.toArray) (begins_list b its2.toArray) p1 p2.isList fun h' hz hTI hTO h1 h2 hsz hk => wpAny_pyIter_zip hz ?_
  refine ⟨s1.heap.objs.size + 4, [s1.heap.objs.size + 4, s1.heap.objs.size + 2, s1.heap.objs.size + 3, s1.heap.objs.size, s1.heap.objs.size + 1], _, _, H1, rfl, I1.kept (t' := s1.toks) hk, turn_zipM (Heap.lt_size ho1) p2.lt,
    ⟨hz, hTI, ⟨_, _, hTO⟩, ⟨_, h1, rfl, rfl⟩, ⟨_, h2, rfl, rfl⟩⟩, fun c hcm => ?_, q⟩
  have hle : s1.heap.objs.size ≤ c := by
    rcases (by simpa using hcm : c = s1.heap.objs.size + 4 ∨ c = s1.heap.objs.size + 2 ∨ c = s1.heap.objs.size + 3 ∨ c = s1.heap.objs.size ∨ c = s1.heap.objs.size + 1) with rfl | rfl | rfl | rfl | rfl
    · exact Nat.le_add_right _ _
    · exact Nat.le_add_right _ _
    · exact Nat.le_add_right _ _
    · exact Nat.le_refl _
    · exact Nat.le_add_right _ _
  exact I1.fpOk hle (I1.hok.fresh hle)
/-- the reading of a comprehension over such a zip, both of one length, neither changed -/
theorem lc_zipM {K : PySem.W.Frag} {a b : Addr} {xs ys : List V} {g : TG} {tt : TT} {te : TE} {vs : List Nat} {σ : L2.St} {H1 : Hp} {D : Addr} {Qd : Hp → Prop} (hlen : xs.length = ys.length) (Pv : Nat → Hp → Prop) (h0 : Pv 0 (upd H1 D (.lst [])))
    (hq : ∀ i H, Pv i H → SqT K H a xs ∧ SqL K H b ys)
    (hs : ∀ (i : Nat) (x y : V) (T : Addr) (H : Hp), xs[i]? = some x → ys[i]? = some y → Pv i H → H T = none → g (.ref T) (wipe σ vs) (upd H T (.tup [x, y])) fun σ2 H2 => wipe σ2 vs = wipe σ vs ∧ tt σ2 H2 fun b H3 =>
      if b = true then te σ2 H3 fun y H4 => ∃ acc, H4 D = some (.lst acc) ∧ acc.length < sizeLine ∧ Pv (i + 1) (upd H4 D (.lst (acc ++ [y]))) else Pv (i + 1) H3) (hd : ∀ H, Pv xs.length H → Qd H) :
    ∃ W : Nat → Nat → Hp → Prop, (∃ m, W 0 m (upd H1 D (.lst []))) ∧ ∀ i m H, W i m H →
      ((ItzM K a b).stop i H ∧ Qd H) ∨ ((ItzM K a b).go i H ∧ ∃ Nx : Hp → Prop, (∀ H', Nx H' → ∃ m', m' < m ∧ W (i + 1) m' H') ∧ ∀ x H', (ItzM K a b).yld i H x H' → g x (wipe σ vs) H' fun σ2 H2 => wipe σ2 vs = wipe σ vs ∧ tt σ2 H2 fun b H3 =>
        if b = true then te σ2 H3 fun y H4 => ∃ acc, H4 D = some (.lst acc) ∧ acc.length < sizeLine ∧ Nx (upd H4 D (.lst (acc ++ [y]))) else Nx H3) := by
  refine ⟨fun i m H => m = xs.length - i ∧ i ≤ xs.length ∧ Pv i H, ⟨xs.length, rfl, Nat.zero_le _, h0⟩, ?_⟩
  rintro i m H ⟨rfl, hi, p⟩
  obtain ⟨q1, q2⟩ := hq i H p
  by_cases hlt : i < xs.length
  · have hlt2 : i < ys.length := by omega
    refine .inr ⟨⟨xs, ys, _, _, q1, q2, List.getElem?_eq_getElem hlt, List.getElem?_eq_getElem hlt2⟩, Pv (i + 1), fun H' p' => ⟨xs.length - (i + 1), by omega, rfl, hlt, p'⟩, fun v H' y => ?_⟩
    obtain ⟨T, x', y', rfl, hT, rfl, f1, f2⟩ := y
    exact hs i x' y' T H (f1 xs q1) (f2 ys q2) p hT
  · have e : i = xs.length := by omega
    exact .inl ⟨⟨xs, ys, q1, q2, e, by omega⟩, hd H (e ▸ p)⟩
/-! enumerate of a tuple -/
theorem enum_new_tup (l : Addr) (items : Array Value) :
    Meets (Builtin.«enumerate.__new__» ⟨[.type "enumerate", .ref l], []⟩) (fun _ R s => s.heap.IsTuple l items ∧
      R (.ok (.ret (.ref (s.heap.push { cls := .type "tuple_iterator", data := .fields #[.ref l, .int 0 0] }).objs.size)))
        { s with heap := (s.heap.push { cls := .type "tuple_iterator", data := .fields #[.ref l, .int 0 0] }).push { cls := .type "enumerate", data := .fields #[.none, .bool false, .ref s.heap.objs.size, rawInt 0, .none, .none] } }) :=
  .of_wp fun prog w A R s h => by
    obtain ⟨hp, g, d, tk, os⟩ := s
    obtain ⟨hL, h⟩ := h
    have hsub := sub_enumerate
    have hL2 : Heap.IsTuple (Shared.heap ⟨hp, g, d, tk, os⟩) l items := hL
    wp_walk
    refine wpAny_stack_any fun st => wpAny_pure ?_
    split
    · rename_i c _ _ _ _ _
      cases (c == Value.type "enumerate")
      all_goals
        wp_walk using wpAny_pyIter_tuple hL2
        exact ⟨_, rfl, h⟩
    · wp_walk using wpAny_pyIter_tuple hL2
      exact ⟨_, rfl, h⟩
end LB
namespace LB
open PySem PySem.Spec PyProof.Rows L2
/-! ### sorted of pairs (number, tuple of ints) -/
def IsLot (h : Heap) (v : Value) (k : List Int) : Prop := ∃ a o t b n x ns its, v = .ref a ∧ h.get? a = some o ∧ o.cls = .type "tuple" ∧ o.data = .seq #[.int x t, .ref b] n ∧ k = x :: ns ∧ h.IsTuple b its ∧ IntsAre its.toList ns
theorem IsLot.keeps {h h' : Heap} {v : Value} {k : List Int} (p : IsLot h v k) (kp : ∀ b o, h.get? b = some o → o.cls = .type "tuple" → h'.get? b = some o) : IsLot h' v k := by
  obtain ⟨a, o, t, b, n, x, ns, its, e, ho, hc, hd, ek, ⟨o2, ho2, hc2, r⟩, hi⟩ := p
  exact ⟨a, o, t, b, n, x, ns, its, e, kp _ _ ho hc, hc, hd, ek, ⟨o2, kp _ _ ho2 hc2, hc2, r⟩, hi⟩
theorem firsts_lots {h : Heap} : ∀ {vs : List Value}, (∀ v ∈ vs, ∃ k, IsLot h v k) → ∃ fs : List Value, PySem.W.KatTups h vs fs ∧ fs.length = vs.length ∧ ∀ f ∈ fs, ∃ x t, f = Value.int x t
  | [], _ => ⟨[], PySem.W.KatTups.nil, rfl, fun _ hm => by simp at hm⟩
  | v :: vs, hp => by
    obtain ⟨fs, h1, h2, h3⟩ := firsts_lots (vs := vs) fun v' hm => hp v' (List.mem_cons_of_mem _ hm)
    obtain ⟨k, a, o, t, b, n, x, ns, its, rfl, ho, hc, hd, _⟩ := hp v (List.mem_cons_self ..)
    refine ⟨.int x t :: fs, PySem.W.KatTups.cons ho hc hd rfl h1, by rw [List.length_cons, List.length_cons, h2], fun f hm => ?_⟩
    rcases List.mem_cons.mp hm with rfl | hm
    · exact ⟨x, t, rfl⟩
    · exact h3 f hm
section
variable {prog : Program} {w : World} {A : Around} {E : Value → Shared → Prop} {s : Shared}
/-- two tuples of ints are equal just where their ints are -/
theorem eq_tupInts {b b' : Addr} {its its2 : Array Value} {ns ms : List Int} (h1 : s.heap.IsTuple b its) (h2 : s.heap.IsTuple b' its2) (i1 : IntsAre its.toList ns) (i2 : IntsAre its2.toList ms) (hu : A.units < cLine) :
    SeqAt.EqAt A s (.ref b) (.ref b') (decide (ns = ms)) := by
  have l1 := IntsAre.length i1
  have l2 := IntsAre.length i2
  rw [Array.length_toList] at l1 l2
  by_cases hb : b = b'
  · subst hb
    have e : its = its2 := by
      obtain ⟨o1, ho1, _, n1, hd1⟩ := h1
      obtain ⟨o2, ho2, _, n2, hd2⟩ := h2
      rw [ho1] at ho2
      cases ho2
      rw [hd1] at hd2
      injection hd2
    subst e
    have e2 : ns = ms := by
      refine List.ext_getElem? fun i => ?_
      by_cases hi : i < ns.length
      · obtain ⟨t1, q1⟩ := i1.get i _ (List.getElem?_eq_getElem hi)
        obtain ⟨t2, q2⟩ := i2.get i _ (List.getElem?_eq_getElem (show i < ms.length by omega))
        rw [q1] at q2
        rw [List.getElem?_eq_getElem hi, List.getElem?_eq_getElem (show i < ms.length by omega)]
        injection (Option.some.inj q2) with e _
        rw [e]
      · rw [List.getElem?_eq_none (by omega), List.getElem?_eq_none (by omega)]
    rw [decide_eq_true e2]
    exact SeqAt.EqAt.same _
  · have R := SeqAt.RcAt.tuples (A := A) (e := fun j => ns.getD j 0 == ms.getD j 0) h1 h2 hu fun j j1 j2 => by
      obtain ⟨t1, q1⟩ := i1.get j _ (List.getElem?_eq_getElem (show j < ns.length by omega))
      obtain ⟨t2, q2⟩ := i2.get j _ (List.getElem?_eq_getElem (show j < ms.length by omega))
      rw [Array.getElem?_toList, Array.getElem?_eq_getElem j1] at q1
      rw [Array.getElem?_toList, Array.getElem?_eq_getElem j2] at q2
      rw [Option.some.inj q1, Option.some.inj q2, List.getD_eq_getElem?_getD, List.getD_eq_getElem?_getD, List.getElem?_eq_getElem (show j < ns.length by omega), List.getElem?_eq_getElem (show j < ms.length by omega)]
      exact SeqAt.EqAt.int_int _ _ _ _
    have e : ((List.range (min its.size its2.size)).all (fun j => ns.getD j 0 == ms.getD j 0) && its.size == its2.size) = decide (ns = ms) := by
      rw [Bool.eq_iff_iff, Bool.and_eq_true, List.all_eq_true, decide_eq_true_iff, beq_iff_eq]
      constructor
      · rintro ⟨q1, q2⟩
        refine List.ext_getElem? fun i => ?_
        by_cases hi : i < ns.length
        · have z := q1 i (List.mem_range.mpr (by omega))
          rw [beq_iff_eq, List.getD_eq_getElem?_getD, List.getD_eq_getElem?_getD, List.getElem?_eq_getElem hi, List.getElem?_eq_getElem (show i < ms.length by omega)] at z
          rw [List.getElem?_eq_getElem hi, List.getElem?_eq_getElem (show i < ms.length by omega)]
          exact congrArg some z
        · rw [List.getElem?_eq_none (by omega), List.getElem?_eq_none (by omega)]
      · rintro rfl
        exact ⟨fun j _ => beq_self_eq_true _, by omega⟩
    rw [e] at R
    exact SeqAt.EqAt.of_refs hb R
theorem lot_cmp {vs : List Value} {k : Value → List Int} (hu : A.units + 8 < cLine) (hp : ∀ v ∈ vs, IsLot s.heap v (k v)) : SrtO.Cmp prog w A s (tuples' true) (fun p => p.1 ∈ vs) (SrtO.lt2 fun v u => HT.lexLt (k v) (k u)) := by
  intro p q hm hm'
  have h1 := hp _ hm
  have h2 := hp _ hm'
  show wpAny (model prog w) A (keyLt' (tuples' true) p.1 q.1) (fun r s' => s' = s ∧ r = HT.lexLt (k p.1) (k q.1)) (fun _ _ => False) s
  generalize k p.1 = kp at h1 ⊢
  generalize k q.1 = kq at h2 ⊢
  obtain ⟨a, o, t, b, n, x, ns, its, e, ho, hc, hd, rfl, ht, hi⟩ := h1
  obtain ⟨a', o', t', b', n', x', ns', its', e', ho', hc', hd', rfl, ht', hi'⟩ := h2
  rw [e, e', HT.lexLt_cons]
  refine PySem.W.kat_lt ho hd ho' hd' ?_
  show PySem.W.KatLex prog w A true (decide (2 < 2)) _ [(.int x t, .int x' t'), (.ref b, .ref b')] 0 s
  refine PySem.W.kat_cons (SeqAt.EqAt.int_int x t x' t' prog w _ _ ?_)
  refine PySem.W.kat_go (fun e1 => ?_) (fun e1 => ?_)
  · rw [if_pos (show x = x' by simpa using e1)]
    refine PySem.W.kat_yes (PySem.W.kat_cons (eq_tupInts ht ht' hi hi' (by omega) prog w _ _ ?_))
    refine PySem.W.kat_go (fun e2 => ?_) (fun e2 => ?_)
    · have en : ns = ns' := of_decide_eq_true e2
      subst en
      exact PySem.W.kat_yes (PySem.W.kat_nil ⟨rfl, ((NtL.swo_lexL (fun z : List Int => z)).refl ns).symm⟩)
    · exact PySem.W.kat_no (PySem.W.kat_one _ _ (HT.lt_tupInts ht ht' hi hi' (by omega) (show s = s ∧ HT.lexLt ns ns' = HT.lexLt ns ns' from ⟨rfl, rfl⟩)))
  · rw [if_neg (show ¬ x = x' by simpa using e1)]
    exact PySem.W.kat_no (oneLt_int ⟨rfl, rfl⟩)
theorem lots_sortable {a : Addr} {vs : List Value} {k : Value → List Int} (hu : A.units + 8 < cLine) (h0 : 0 < vs.length) (hp : ∀ v ∈ vs, IsLot s.heap v (k v)) (ha : ∀ o, s.heap.get? a = some o → o.cls ≠ .type "tuple") : SrtO.SortableO prog w A s a vs fun v u => HT.lexLt (k v) (k u) := by
  intro h' keep
  have hp' : ∀ v ∈ vs, IsLot h' v (k v) := fun v hm => (hp v hm).keeps fun b o e c => keep b o (fun z => by subst z; exact ha o e c) e
  obtain ⟨fs, h1, h2, h3⟩ := firsts_lots fun v hm => ⟨_, hp' v hm⟩
  refine ⟨tuples' true, fun Q E hq => ?_, lot_cmp hu hp'⟩
  refine PySem.W.kat_kind (T := .type "int") h1 (by omega) (fun f hm => ?_) (by rfl) ?_
  · obtain ⟨x, t, rfl⟩ := h3 f hm
    exact PySem.W.Looks.now
  · rw [show (Value.type "int" != Value.type "tuple") = true by decide +kernel]
    exact hq
theorem sorted_lots {l : Addr} {vs : List Value} {k : Value → List Int} {Q : Value → Shared → Prop} (hu : A.units + 32 < cLine) (hl : s.heap.IsList l vs.toArray) (hz : vs.length ≤ sizeLine) (hp : ∀ v ∈ vs, IsLot s.heap v (k v))
    (h : ∀ (h' : Heap) (d : Addr) (out : List Value), SrtO.Srtd (fun v u => HT.lexLt (k v) (k u)) out → out.Perm vs → (∀ b o, s.heap.get? b = some o → h'.get? b = some o) → s.heap.objs.size ≤ d → (∃ n, h'.get? d = some (seqObj "list" out.toArray n)) → Q (.ref d) { s with heap := h' }) :
    wpAny (model prog w) A (call (.builtin "sorted") [.ref l]) Q E s := by
  refine SrtO.sorted_ord (NtL.swo_lexL k) hl hz (fun h2 h₁ a ha kk => ?_) fun out hs hb => ?_
  · refine lots_sortable (s := { s with heap := h₁ }) (A := A.in1.in1) (by show A.units + 1 + 1 + 8 < cLine; omega) (by omega) (fun v hm => (hp v hm).keeps fun b o e _ => (kk b o e).2) fun o e c => ?_
    have e' : some o = some (seqObj "list" vs.toArray 0) := e.symm.trans ha
    cases e'
    exact absurd (Value.type.inj c) (by decide)
  · exact h _ _ out hs hb.perm (fun b o e => sortedAll_old e) (Nat.le_succ _) (sortedAll_at s.heap vs out.toArray)
end
/-- x is the pair of a number and a tuple of ints, k both one behind the other -/
def LotV (K : PySem.W.Frag) (H : Hp) (x : V) (k : List Int) : Prop := ∃ (t b : Addr) (n : Int) (ns : List Int), x = .ref t ∧ H t = some (.tup [.int n, .ref b]) ∧ H b = some (.tup (ns.map V.int)) ∧ k = n :: ns
def rSortedL (K : PySem.W.Frag) : List V → Hp → VK → Prop := fun vs H Q => ∃ (a : Addr) (xs : List V) (k : V → List Int), vs = [V.ref a] ∧ SqL K H a xs ∧ (∀ x ∈ xs, LotV K H x (k x)) ∧
  ∀ ys p, ys.Pairwise (fun x y => HT.lexLt (k y) (k x) = false) → ys.Perm xs → H p = none → Q (.ref p) (upd H p (.lst ys))
section
variable {X : Cx}
theorem cr_sortedL (hu : X.A.units + 64 < cLine) : CallR X (.builtin "sorted") (rSortedL X.K) := by
  intro pins s σ H vs us Q I r h
  obtain ⟨a, xs, k, rfl, hs, hx, q⟩ := h
  obtain ⟨its, rv, hl, hz⟩ := I.list hs
  rw [Vals.ref1 r]
  obtain ⟨e1, e2⟩ := refs_back rv fun x m => by
    obtain ⟨t, _, _, _, e, _⟩ := hx x m
    exact ⟨t, e⟩
  refine sorted_lots (k := fun u => k (backV u)) (by omega) hl.isList (by rw [← rv.length]; exact hz) (fun v hv => ?_) fun h' d out h1 h2 kp hd hn => ?_
  · obtain ⟨t, rfl⟩ := e2 v hv
    have hm : V.ref t ∈ xs := by
      rw [e1]
      exact List.mem_map.mpr ⟨_, hv, rfl⟩
    obtain ⟨t', b, n, ns, e, ht, hb, ek⟩ := hx _ hm
    cases e
    obtain ⟨_, its2, r2, o, ho, hc, m, hdt⟩ := I.hok _ _ ht
    obtain ⟨u1, u2, rfl, ri, rj⟩ := vals2 r2
    obtain ⟨t1, rfl⟩ := ri
    cases rj
    obtain ⟨its3, r3, hb3, _⟩ := I.tuple (SqT.of hb)
    exact ⟨t, o, t1, b, m, n, ns, its3.toArray, rfl, ho, hc, hdt, ek, hb3, by simpa using ints_of_vals r3⟩
  · have h3 : ∀ u ∈ out, ∃ a, u = Value.ref a := fun u hu => e2 u (h2.mem_iff.mp hu)
    obtain ⟨n, hn⟩ := hn
    have hp : (out.map backV).Perm xs := by
      rw [e1]
      exact h2.map backV
    refine ⟨.ref d, upd H d (.lst (out.map backV)), I.laid (t' := s.toks) kp hd ⟨?_, out, n, vals_back h3, hn⟩, rfl, q _ d (List.pairwise_map.mpr h1) hp (I.hok.fresh hd)⟩
    rw [hp.length_eq]
    exact hz
end
end LB
namespace LB
open PySem PySem.Spec PyProof.Rows L2
section
variable {P : Program} {w : World} {A : Around} {E : Value → Shared → Prop} {s : Shared}
theorem call_enum_tup {l : Addr} {items : Array Value} {Q : Value → Shared → Prop} (hL : s.heap.IsTuple l items)
    (h : ∀ h', IsEnum h' (s.heap.objs.size + 1) s.heap.objs.size 0 .none → h'.IsTupleIter s.heap.objs.size l 0 → (∀ b o, s.heap.get? b = some o → h'.get? b = some o) → Q (.ref (s.heap.objs.size + 1)) { s with heap := h' }) :
    wpAny (model P w) A (call (.type "enumerate") [.ref l]) Q E s := by
  refine callType_new F.called_enumerate (by decide) (F.typeCall_enumerate_1 _) (F.newCall_enumerate_1 _) (fun obj => F.args_object_init_2 obj _) F.entry_enumerate_new (enum_new_tup l items) ⟨hL, ?_⟩
  have hz : (s.heap.push { cls := .type "tuple_iterator", data := .fields #[.ref l, .int 0 0] }).objs.size = s.heap.objs.size + 1 := Heap.size_push ..
  have he := Heap.get?_push_size (s.heap.push { cls := .type "tuple_iterator", data := .fields #[.ref l, .int 0 0] }) (o := { cls := .type "enumerate", data := .fields #[.none, .bool false, .ref s.heap.objs.size, rawInt 0, .none, .none] }) rfl
  show _ ∧ _
  rw [hz] at he ⊢
  exact ⟨⟨_, he, rfl⟩, h _ he ⟨_, Heap.get?_push_of_some _ (Heap.get?_push_size _ rfl), rfl, rfl⟩ fun b o x => Heap.get?_push_of_some _ (Heap.get?_push_of_some _ x)⟩
end
/-- the tuple at a, its items behind their places in new pairs -/
def IteT (K : PySem.W.Frag) (a : Addr) : It :=
  ⟨fun i H => ∃ (xs : List V) (x : V), SqT K H a xs ∧ xs[i]? = some x, fun i H v H' => ∃ T x, v = .ref T ∧ H T = none ∧ H' = upd H T (.tup [.int (i : Nat), x]) ∧ ∀ xs, SqT K H a xs → xs[i]? = some x,
    fun i H => ∃ xs : List V, SqT K H a xs ∧ i = xs.length⟩
theorem turn_enumT {P : Program} {w : World} {K : PySem.W.Frag} {elts : List Expr} {kk : Nat} {tpos : Pos} {a N : Addr} (ha : a < N) :
    Turn P w K (.Tuple elts kk tpos) (IteT K a) [N + 1, N] (N + 1) (fun i h => (∃ old, IsEnum h (N + 1) N (0 + (i : Int)) old) ∧ h.IsTupleIter N a i) where
  mem := by simp
  obj := fun i h st c hc => by
    obtain ⟨⟨old, he⟩, o1, e1, _, d1⟩ := st
    rcases (by simpa using hc : c = N + 1 ∨ c = N) with rfl | rfl
    · exact ⟨_, he, fun v q => nomatch q⟩
    · exact ⟨o1, e1, fun v q => by rw [d1] at q; cases q⟩
  keep := fun i h h' st k => by
    obtain ⟨⟨old, he⟩, h3⟩ := st
    exact ⟨⟨old, k _ (by simp) _ he⟩, h3.at fun o q => k _ (by simp) o q⟩
  item := by
    intro X hP hw hK hc i pins s σ H E I hf st hg
    subst hP hw hK
    obtain ⟨⟨old, he⟩, h3⟩ := st
    obtain ⟨xs, x, hqx, hx⟩ := hg
    obtain ⟨its, rv, p1, _⟩ := I.tuple hqx
    obtain ⟨u, hu, ru⟩ := rv.get hx
    have hd : X.A.in1.handled = none := I.ok.hd hc
    have W := WalksT.enumFrom (P := fun i v => its.toArray[i]? = some v) 0 (Draws.tuple (prog := X.prog) (w := X.w) hd N a (Nat.ne_of_lt ha) its.toArray) (N + 1) (Nat.succ_ne_self N)
      (fun m => by rcases List.mem_cons.mp m with q | q
                   · exact absurd q (Nat.succ_ne_self N)
                   · exact absurd (List.mem_singleton.mp q) (Nat.ne_of_gt (Nat.lt_succ_of_lt ha))) (by simp)
    have i1 : i < its.toArray.size := by
      rw [List.size_toArray]
      exact (List.getElem?_eq_some_iff.mp hu).1
    refine W.item i s _ _ i1 ⟨⟨old, he⟩, h3, p1⟩ fun T vals h' tk hPt hT hIT hMid hk => ?_
    refine ⟨_, rfl, W.go elts kk tpos i T { s with heap := h', toks := tk } _ _ hMid fun h'' hSt hk2 => ?_⟩
    obtain ⟨t1, v1, e1, rfl⟩ := hPt
    have ev1 : v1 = u := Option.some.inj (e1.symm.trans (by simpa using hu))
    subst ev1
    have hTw := W.apart _ _ _ hMid
    obtain ⟨oT, hoT, hcT, nT, hdT⟩ := hIT
    have hoT2 : h''.get? T = some oT := hk2 T oT hTw hoT
    have new : ObjOk X.prog X.w (upd H T (.tup [.int (i : Nat), x])) h'' T (.tup [.int (i : Nat), x]) :=
      ⟨by show 2 ≤ sizeLine; decide, [.int (0 + (i : Int)) t1, v1], .cons ⟨t1, by rw [Int.zero_add]⟩ (.cons ru .nil), oT, hoT2, hcT, nT, hdT⟩
    have I1 : Inv X pins σ (upd H T (.tup [.int (i : Nat), x])) { s with heap := h'', toks := tk } := I.turnedNew (ch := [N + 1, N]) (fun c o hn q => hk2 c o hn (hk c o hn q)) hf hT new
    obtain ⟨z1, z2, _⟩ := hSt
    refine ⟨.ref T, _, I1, rfl, ⟨T, x, rfl, I.hok.fresh hT, rfl, fun l hl => by rw [I.tuple_inj hl hqx]; exact hx⟩, ⟨z1, z2⟩, fun c hcm => ?_⟩
    have hlt : c < s.heap.objs.size := by
      rcases (by simpa using hcm : c = N + 1 ∨ c = N) with rfl | rfl
      · exact Heap.lt_size he
      · obtain ⟨_, e, _⟩ := h3
        exact Heap.lt_size e
    rw [upd_ne (Nat.ne_of_lt (Nat.lt_of_lt_of_le hlt hT))]
    exact (hf c hcm).1
  done := by
    intro X hP hw hK hc i pins s σ H E I hf st hg
    subst hP hw hK
    obtain ⟨⟨old, he⟩, h3⟩ := st
    obtain ⟨xs, hqx, rfl⟩ := hg
    obtain ⟨its, rv, p1, _⟩ := I.tuple hqx
    have hd : X.A.in1.handled = none := I.ok.hd hc
    have W := WalksT.enumFrom (P := fun i v => its.toArray[i]? = some v) 0 (Draws.tuple (prog := X.prog) (w := X.w) hd N a (Nat.ne_of_lt ha) its.toArray) (N + 1) (Nat.succ_ne_self N)
      (fun m => by rcases List.mem_cons.mp m with q | q
                   · exact absurd q (Nat.succ_ne_self N)
                   · exact absurd (List.mem_singleton.mp q) (Nat.ne_of_gt (Nat.lt_succ_of_lt ha))) (by simp)
    have e1 : its.toArray.size = xs.length := by rw [List.size_toArray, rv.length]
    refine W.done s _ _ ?_ fun h' tk hk => ⟨rfl, I.turnedL (ch := [N + 1, N]) (fun c o hn q => hk c o hn q) hf⟩
    rw [e1]
    exact ⟨⟨old, he⟩, h3, p1⟩
  self := fun A i s Q E st h => let ⟨⟨_, he⟩, _⟩ := st; wpAny_pyIter_enum he h
def iEnumT (K : PySem.W.Frag) (ta : TA) : TI := fun σ H R => ta σ H fun vs H1 => ∃ a xs, vs = [.ref a] ∧ SqT K H1 a xs ∧ R (IteT K a) H1
theorem pi_enumT {X : Cx} {e : Expr} {ta : TA} {p pos tpos : Pos} {elts : List Expr} {kk : Nat} (hg : Gl X "enumerate") (hm : X.mg "enumerate" = none) (ha : PA X [e] ta) (hs : starEach [e] X.env = [(false, eval e X.env)] := by rfl) :
    PI X (.Tuple elts kk tpos) (.Call (.Name "enumerate" p) [e] [] pos) (iEnumT X.K ta) := by
  refine ⟨fun pins s σ H R I h => Call_ (ld_blt I hg hm boot_enumerate (PyProof.Rows.callWith_type1 (thn (ha.run pos pins s σ H _ I h) fun us s1 ⟨vs, H1, I1, r1, q1⟩ => ?_) hs rfl))⟩
  obtain ⟨a, xs, rfl, hqx, q⟩ := q1
  rw [Vals.ref1 r1]
  obtain ⟨its, rv, p1, _⟩ := I1.tuple hqx
  obtain ⟨o1, ho1, _⟩ := id p1
  refine call_enum_tup (show s1.heap.IsTuple a its.toArray from p1) fun h' he hit hk => wpAny_pyIter_enum he ?_
  refine ⟨s1.heap.objs.size + 1, [s1.heap.objs.size + 1, s1.heap.objs.size], _, _, H1, rfl, I1.kept (t' := s1.toks) hk, turn_enumT (Heap.lt_size ho1), ⟨⟨_, he⟩, hit⟩, fun c hcm => ?_, q⟩
  have hle : s1.heap.objs.size ≤ c := by
    rcases (by simpa using hcm : c = s1.heap.objs.size + 1 ∨ c = s1.heap.objs.size) with rfl | rfl
    · exact Nat.le_add_right _ _
    · exact Nat.le_refl _
  exact I1.fpOk hle (I1.hok.fresh hle)
theorem lc_enumT {K : PySem.W.Frag} {a : Addr} {xs : List V} {g : TG} {tt : TT} {te : TE} {vs : List Nat} {σ : L2.St} {H1 : Hp} {D : Addr} {Qd : Hp → Prop} (Pv : Nat → Hp → Prop) (h0 : Pv 0 (upd H1 D (.lst []))) (hq : ∀ i H, Pv i H → SqT K H a xs)
    (hs : ∀ (i : Nat) (x : V) (T : Addr) (H : Hp), xs[i]? = some x → Pv i H → H T = none → g (.ref T) (wipe σ vs) (upd H T (.tup [.int (i : Nat), x])) fun σ2 H2 => wipe σ2 vs = wipe σ vs ∧ tt σ2 H2 fun b H3 =>
      if b = true then te σ2 H3 fun y H4 => ∃ acc, H4 D = some (.lst acc) ∧ acc.length < sizeLine ∧ Pv (i + 1) (upd H4 D (.lst (acc ++ [y]))) else Pv (i + 1) H3) (hd : ∀ H, Pv xs.length H → Qd H) :
    ∃ W : Nat → Nat → Hp → Prop, (∃ m, W 0 m (upd H1 D (.lst []))) ∧ ∀ i m H, W i m H →
      ((IteT K a).stop i H ∧ Qd H) ∨ ((IteT K a).go i H ∧ ∃ Nx : Hp → Prop, (∀ H', Nx H' → ∃ m', m' < m ∧ W (i + 1) m' H') ∧ ∀ x H', (IteT K a).yld i H x H' → g x (wipe σ vs) H' fun σ2 H2 => wipe σ2 vs = wipe σ vs ∧ tt σ2 H2 fun b H3 =>
        if b = true then te σ2 H3 fun y H4 => ∃ acc, H4 D = some (.lst acc) ∧ acc.length < sizeLine ∧ Nx (upd H4 D (.lst (acc ++ [y]))) else Nx H3) := by
  refine ⟨fun i m H => m = xs.length - i ∧ i ≤ xs.length ∧ Pv i H, ⟨xs.length, rfl, Nat.zero_le _, h0⟩, ?_⟩
  rintro i m H ⟨rfl, hi, p⟩
  by_cases hlt : i < xs.length
  · refine .inr ⟨⟨xs, _, hq i H p, List.getElem?_eq_getElem hlt⟩, Pv (i + 1), fun H' p' => ⟨xs.length - (i + 1), by omega, rfl, hlt, p'⟩, fun v H' y => ?_⟩
    obtain ⟨T, x', rfl, hT, rfl, f1⟩ := y
    exact hs i x' T H (f1 xs (hq i H p)) p hT
  · have e : i = xs.length := by omega
    exact .inl ⟨⟨xs, hq i H p, e⟩, hd H (e ▸ p)⟩
/-- len, as a reading over K -/
def rLenS (K : PySem.W.Frag) : List V → Hp → VK → Prop := fun xs H Q => ∃ p ys, xs = [.ref p] ∧ (SqL K H p ys ∨ SqT K H p ys) ∧ Q (.int ys.length) H
theorem cr_len {X : Cx} : CallR X (.builtin "len") (rLenS X.K) := call_len_seq
end LB
namespace LB
open PySem PySem.Spec PyProof.Rows L2
/-! ### a tuple whose object is known to have no dict of its own; a method of it -/
section
variable {X : Cx}
def rTupF (K : PySem.W.Frag) : List V → Hp → VK → Prop := fun vs H Q => ∃ (p : Addr) (ys : List V), vs = [V.ref p] ∧ SqL K H p ys ∧ ∀ (t : Addr) (o : Obj), H t = none → o.dict = none → Q (.ref t) (upd H t (.frz o (.tup ys)))
theorem cr_tupF : CallR X (.type "tuple") (rTupF X.K) := by
  intro pins s σ H vs us Q I r h
  obtain ⟨p, ys, rfl, hq, q⟩ := h
  rw [Vals.ref1 r]
  obtain ⟨its, rv, pl, hz⟩ := I.list hq
  have hlen := rv.length
  refine call_tuple_list pl.isList (fun h' kp => ?_) (by rw [List.size_toArray]; omega)
  have I1 : Inv X pins σ H { s with heap := h' } := I.kept (t' := s.toks) kp
  have I2 : Inv X pins σ (upd H h'.objs.size (.frz { cls := .type "tuple", data := .seq its.toArray } (.tup ys))) { s with heap := h'.push { cls := .type "tuple", data := .seq its.toArray } } :=
    I1.laid (t' := s.toks) (fun b o e => Heap.get?_push_of_some _ e) (Nat.le_refl _) (show ObjOk X.prog X.w _ _ _ (.frz _ (.tup ys)) from ⟨Heap.get?_push_size _ rfl, hz, its, rv, IsTup.new _ _⟩)
  exact ⟨.ref h'.objs.size, _, I2, rfl, q _ _ (I1.hok.fresh (Nat.le_refl _)) rfl⟩
def tBMT (r : V → List V → Hp → VK → Prop) (to : TE) (t : TA) : TE := fun σ H Q => to σ H fun x H1 => (∃ (p : Addr) (o : Obj) (xs : List V), x = .ref p ∧ H1 p = some (.frz o (.tup xs)) ∧ o.dict = none) ∧ t σ H1 fun xs H2 => r x xs H2 Q
theorem pe_bmT {name : Str} {id : String} {o e : Expr} {es : List Expr} {apos cpos : Pos} {r : V → List V → Hp → VK → Prop} {to : TE} {t : TA} (pa : PlainAttrs "tuple") (slot : Slot "tuple" name id) (hty : typeOf (.builtin id) = pure (.type "method_descriptor")) (hm : MtR X id r) (ho : PE X o to) (ha : PA X (e :: es) t)
    (hbase : attributeBase o name X.env (eval o X.env) = eval o X.env := by rfl)
    (hfew : ((backTo cpos (starEach (e :: es) X.env)).all (fun x => !x.1) && (backToKw cpos (keywordEach [] X.env)).all (fun x => x.1.isSome) && decide ((e :: es).length + ([] : List Keyword).length + (if ([] : List Keyword).isEmpty then 0 else 1) < 30)) = true := by rfl)
    (hline : (apos.endLine == cpos.line) = true := by rfl) (hs : starEach (e :: es) X.env = (false, eval e X.env) :: starEach es X.env := by rfl) (hplain : (backTo cpos (starEach es X.env)).any (·.1) = false := by rfl) :
    PE X (.Call (.Attribute o name apos) (e :: es) [] cpos) (tBMT r to t) := by
  refine ⟨fun pins s σ H Q I h => wpAny_Call_method_late hbase hfew hline rfl (thn (ho.run pins s σ H _ I h) fun v s1 ⟨x, H1, I1, r1, ⟨p, ob, xs, ex, hp, hd⟩, q1⟩ => ?_)⟩
  subst ex
  cases (show v = Value.ref p from r1)
  obtain ⟨e1, z, its, rv, pt⟩ := (show ObjOk X.prog X.w H1 s1.heap p (.frz ob (.tup xs)) from I1.hok p _ hp)
  refine ⟨"tuple", id, pa, slot, hty, pt.typeIs, fun a e => ?_, ?_⟩
  · cases e
    exact ⟨ob, e1, hd⟩
  have hA := ha.run cpos pins s1 σ H1 _ I1 q1
  rw [hs] at hA ⊢
  refine Calls.callWith_builtin (by show (false || (backTo cpos (starEach es X.env)).any (·.1)) = false; rw [hplain] <;> rfl) (Calls.evalArgs_plain ?_)
  exact thn hA fun us s2 ⟨vs, H2, I2, r2, q2⟩ => hm pins s2 σ H2 (.ref p) vs (.ref p) us Q I2 rfl r2 q2
end
/-- an order at t -/
def OrdAt (H : Hp) (t : Addr) (o : List Nat) : Prop := ∃ ob : Obj, H t = some (.frz ob (.tup (nums o))) ∧ ob.dict = none
theorem OrdAt.same {H H' : Hp} {t : Addr} {o : List Nat} (h : OrdAt H t o) (s : Same H H') : OrdAt H' t o := let ⟨ob, e, d⟩ := h; ⟨ob, s _ _ e, d⟩
theorem OrdAt.sq {K : PySem.W.Frag} {H : Hp} {t : Addr} {o : List Nat} (h : OrdAt H t o) : SqT K H t (nums o) := let ⟨ob, e, _⟩ := h; .inl (.inr ⟨ob, e⟩)
end LB
namespace LB
open PySem PySem.Spec PyProof.Rows L2
open C8 (Cal pe_c)
/-- words of copies handed in, of a book of n pages -/
structure Arg (K : PySem.W.Frag) (H : Hp) (a : Addr) (n : Nat) (ws : List Wd) : Prop where
  ex : ∃ xs, SqA K H a xs ∧ WsAt H xs ws
  ok : ∀ w ∈ ws, w.Ok n
  n1 : 1 ≤ n
  n6 : n ≤ 6
theorem Arg.same {K : PySem.W.Frag} {H H' : Hp} {a : Addr} {n : Nat} {ws : List Wd} (g : Arg K H a n ws) (s : Same H H') : Arg K H' a n ws := by
  obtain ⟨⟨xs, h1, h2⟩, h3, h4, h5⟩ := g
  exact ⟨⟨xs, h1.same s, h2.same s⟩, h3, h4, h5⟩
theorem putK_len {κ : Type} [DecidableEq κ] (kvs : List (κ × V)) (k : κ) (v : V) : (putK kvs k v).length ≤ kvs.length + 1 := by
  unfold putK
  split
  · rw [List.length_map]
    omega
  · rw [List.length_append, List.length_singleton]
    omega
theorem nums_sum (l : List Nat) (f : Nat → Nat) : (l.map fun d => (f d : Int)).sum = (((l.map f).sum : Nat) : Int) := by
  induction l with
  | nil => rfl
  | cons x r ih =>
    rw [List.map_cons, List.map_cons, List.sum_cons, List.sum_cons, ih]
    exact (Int.natCast_add _ _).symm
theorem tyes_i {σ : L2.St} {H : Hp} {F G : Hp → Prop} (h : F H) : tYes σ H fun b H3 => if b = true then F H3 else G H3 := iteT (B := G H) h
def pows : List Nat := [1, 2, 4, 8, 16, 32, 64]
theorem cut_bits : ∀ n < 7, cutV bitsV none (some ((n : Nat) : Int)) = (pows.take n).map (fun d : Nat => V.int (d : Int)) ∧ (pows.take n).sum = 2 ^ n - 1 ∧ ¬ (HT.sIx bitsV.length 0 none = 0 ∧ HT.sIx bitsV.length bitsV.length (some ((n : Nat) : Int)) = bitsV.length) := by decide +kernel
section
variable {P : Program} {w : World} {K : PySem.W.Frag} {mg : Str → Option Value} {base : Heap} {aB : Addr}
def spNext (K : PySem.W.Frag) : Sp := fun vs H Q _ => ∃ (a : Addr) (n u : Nat) (ws : List Wd), vs = [.int n, .ref a, .int u] ∧ Arg K H a n ws ∧
  ∀ H' L, Same H H' → H L = none → H' L = some (.lst (nums (nextM n ws u))) → Q (.ref L) H'
theorem c_next (T : Txt K mg aB) (D : Df K mg "next_ones" sNext ["size", "words", "used"]) (GH : Cal P w K mg base 1 "has" spHas []) (GL : Cal P w K mg base 3 "is_let" (spLet K) []) : Cal P w K mg base 4 "next_ones" (spNext K) [] := by
  refine D.cal scNext (fun vs H Q E h => ?_) (fun f cdv A outer s H vs Q E hr h => ?_)
  · obtain ⟨_, _, _, _, rfl, _⟩ := h
    rfl
  · obtain ⟨a, n, u, ws, rfl, g, q⟩ := h
    have n6 := g.n6
    refine ⟨_, pss_one (ps_ret (pe_lc (own := [("deed", 3)]) (g := gName 3) rfl scNext.nd (pi_range1 (by rfl) T.range (pa_cons (pv 0) pa_nil))
        (blkOk_by (own := [("deed", 3)]) (N := ["size", "words", "used", "deed"]) (sc := defScope sNext) (by decide +kernel)) (fun _ _ _ _ _ => pg_name (i := 3) scNext.nd rfl (Or.inl rfl))
        (fun _ _ _ _ _ => pts_one (PW.pt (pw_and (pt_not (pt_val (pe_c GH hr (by decide) (by rfl) (pa_cons (pv 2) (pa_cons (pv 3) pa_nil))))) (pw_and1 (pt_val (pe_c GL hr (by decide) (by rfl) (pa_cons (pv 1) (pa_cons (pv 2) (pa_cons (pv 3) pa_nil)))))))))
        (fun _ _ _ _ _ => pv 3))), ?_⟩
    refine ⟨_, rfl, _, rfl, by omega, by omega, fun L hL => ?_⟩
    rw [Int.toNat_natCast]
    refine lc_range (n := n) (fun i H1 => Same H H1 ∧ H1 L = some (.lst (nums ((List.range i).filter fun d => !has u d && letM ws u d)))) ⟨same_upd hL, upd_same⟩ ?_ ?_
    · rintro i H1 hi ⟨s1, e1⟩
      have ei : (0 : Int) + (i : Int) = ((i : Nat) : Int) := by omega
      rw [ei]
      have no : ∀ H2, Same H1 H2 → (!has u i && letM ws u i) = false → (Same H H2 ∧ H2 L = some (.lst (nums ((List.range (i + 1)).filter fun d => !has u d && letM ws u d)))) := fun H2 s2 e => by
        refine ⟨s1.trans s2, ?_⟩
        rw [range_filter, e, nums_app]
        show _ = some (HO.lst (_ ++ []))
        rw [List.append_nil]
        exact s2 _ _ e1
      refine ⟨rfl, _, rfl, _, rfl, u, i, rfl, by omega, _, rfl, ?_⟩
      cases eh : has u i with
      | true => exact iteF (iteF (no H1 (Same.refl _) (by rw [eh]; rfl)))
      | false =>
        obtain ⟨⟨xs, h1, h2⟩, h3, _, _⟩ := g.same s1
        refine iteT ⟨_, rfl, _, rfl, _, rfl, a, xs, ws, u, i, rfl, h1, h2, fun w m => by have := (h3 w m).h1; omega, fun H2 s2 => ⟨_, rfl, ?_⟩⟩
        cases el : letM ws u i with
        | false => exact iteF (no H2 s2 (by rw [eh, el]; rfl))
        | true =>
          refine iteT ⟨_, rfl, _, s2 _ _ e1, ?_, same_put (s1.trans s2) hL, ?_⟩
          · rw [nums_len]
            exact Nat.lt_of_le_of_lt (len_filter_range _ _) (small1000 (by omega))
          · rw [upd_same, range_filter, eh, el, nums_app]
            rfl
    · rintro H1 ⟨s1, e1⟩
      exact q H1 L s1 hL e1
def spWays (K : PySem.W.Frag) : Sp := fun vs H Q _ => ∃ (a : Addr) (n : Nat) (ws : List Wd), vs = [.int n, .ref a] ∧ Arg K H a n ws ∧
  ∀ H' p kvs, Same H H' → H p = none → H' p = some (.dK kvs) → (∀ u : Nat, u < 2 ^ n → valV kvs (Sum.inl (u : Int) : Key) = some (.int (waysM n ws u : Nat))) → Q (.ref p) H'
theorem pow6 : ∀ n ≤ 6, 2 ^ n ≤ 64 := by decide
theorem pow1 : ∀ n ≤ 6, 1 ≤ n → 2 ≤ 2 ^ n := by decide
theorem c_ways (T : Txt K mg aB) (D : Df K mg "ways_on" sWays ["size", "words"]) (GN : Cal P w K mg base 4 "next_ones" (spNext K) []) : Cal P w K mg base 5 "ways_on" (spWays K) [] := by
  refine D.cal scWays (fun vs H Q E h => ?_) (fun f cdv A outer s H vs Q E hr h => ?_)
  · obtain ⟨_, _, _, rfl, _⟩ := h
    rfl
  · obtain ⟨a, n, ws, rfl, g, q⟩ := h
    have n6 := g.n6
    have n1 := g.n1
    have hu := hu_of hr
    obtain ⟨cb1, cb2, cb3⟩ := cut_bits n (by omega)
    have p6 := pow6 n n6
    have p1 := pow1 n n6 n1
    refine ⟨_, pss_cons (ps_set (i := 2) scWays.nd rfl (.inl rfl) (pe_callB (cr_sumT rfl) (by rfl) T.sum PyProof.Rows.boot_sum (pa_cons (pe_slice sl_tup (pe_glob (v := .ref aB) (by rfl) T.mb rfl) po_none (po_some (pv 0))) pa_nil)))
      (pss_cons (ps_set (i := 3) scWays.nd rfl (.inr rfl) (pe_disp (pps_cons (pv 2) pe_int pps_nil) (by rfl) (by rfl) (fun z => by cases z) (by decide)))
      (pss_cons (ps_for PassesOwn.never rfl (pi_range3 (by rfl) T.range (pa_cons (pe_op op_sub (pv 2) pe_int) (pa_cons (pe_un un_neg pe_int) (pa_cons (pe_un un_neg pe_int) pa_nil)))) (pg_name (i := 4) scWays.nd rfl (.inr rfl))
        (pss_one (ps_dput hu (pv 3) (pv 4) (pe_callB (cr_sum rfl) (by rfl) T.sum PyProof.Rows.boot_sum (pa_cons
          (pe_lc (own := [("deed", 5)]) (g := gName 5) (tt := tYes) rfl scWays.nd (pi_list (pe_c GN hr (by decide) (by rfl) (pa_cons (pv 0) (pa_cons (pv 1) (pa_cons (pv 4) pa_nil)))))
            (blkOk_by (own := [("deed", 5)]) (N := ["size", "words", "full", "found", "used", "deed"]) (sc := defScope sWays) (by decide +kernel)) (fun _ _ _ _ _ => pg_name (i := 5) scWays.nd rfl (Or.inl rfl))
            (fun _ _ _ _ _ => pts_nil) (fun _ _ _ _ _ => pe_dget hu (pv 3) (pe_op op_add (pv 4) (pe_ix (r := rIxT K) ix_tup (pe_glob (v := .ref aB) (by rfl) T.mb rfl) (pv 5) (fun _ _ => rfl))) (fun _ _ => rfl))) pa_nil)) rfl)))
      (pss_one (ps_ret (pv 3))))), ?_⟩
    -- full = sum(BITS[:size])
    refine ⟨_, rfl, _, rfl, aB, bitsV, rfl, T.bt _, cb3, fun t nt => ?_⟩
    refine ⟨t, (pows.take n).map (fun d : Nat => (d : Int)), rfl, .inl (.inl ?_), ?_⟩
    · rw [upd_same, cb1, List.map_map]
      rfl
    have es : ((pows.take n).map (fun d : Nat => (d : Int))).sum = (((2 ^ n - 1 : Nat)) : Int) := by
      rw [← cb2]
      have := nums_sum (pows.take n) (fun d => d)
      rw [List.map_id'] at this
      exact this
    rw [es]
    have hwl : ∀ u : Nat, u < 2 ^ n - 1 → waysM n ws u = ((nextM n ws u).map fun d => waysM n ws (u + 2 ^ d)).sum := fun u hu => waysM_step (by omega) g.ok hu
    have hwf : waysM n ws (2 ^ n - 1) = 1 := waysM_full (by omega)
    have hfl : ∀ u < 2 ^ n, ∀ d ∈ nextM n ws u, u + 2 ^ d < 2 ^ n ∧ 1 ≤ 2 ^ d ∧ d < n := fun u hu d hd => by
      obtain ⟨h1, h2, _⟩ := mem_nextM.mp hd
      exact ⟨full_lt n (by omega) u hu d h1 h2, Nat.one_le_two_pow, h1⟩
    obtain ⟨M, hM⟩ : ∃ M, M = 2 ^ n - 1 := ⟨_, rfl⟩
    have hM2 : 2 ^ n = M + 1 := by omega
    rw [← hM] at hwl hwf ⊢
    rw [hM2] at hfl q
    have s1 : Same H (upd H t (.tup (cutV bitsV none (some (n : Int))))) := same_upd nt
    -- found = {full: 1}
    intro p np
    have nHp : H p = none := s1.free np
    refine ⟨_, rfl, upd_same, [(Sum.inl (M : Int), .int 1)], rfl, (by show 1 ≤ 15; decide), ?_⟩
    have s2 : Same H (upd (upd (upd H t (.tup (cutV bitsV none (some (n : Int))))) p (.dK [])) p (.dK (mergeK [] [(Sum.inl (M : Int), .int 1)]))) := same_put (same_put s1 nHp) nHp
    -- for used in range(full - 1, -1, -1)
    have RG := RgC.neg (i := (M : Int) - 1) (j := -1) (by omega) (by omega) (by decide) (by decide)
    have hn : ((M : Int) - 1 - -1).toNat = M := by omega
    rw [hn] at RG
    refine ⟨_, rfl, _, _, rfl, rfl, _, rfl, _, rfl, _, _, _, M, rfl, RG, ?_⟩
    refine for_rangeC (n := M) (fun i σ H3 => ∃ y4 kvs, σ = [some (V.int n), some (.ref a), some (.int M), some (.ref p), y4, none] ∧ Same H H3 ∧ H3 p = some (.dK kvs) ∧ kvs.length ≤ i + 1 ∧
      ∀ u : Nat, M - i ≤ u → u ≤ M → valV kvs (Sum.inl (u : Int) : Key) = some (.int (waysM n ws u : Nat)))
      ⟨none, _, rfl, s2, upd_same, Nat.le_refl _, fun u h1 h2 => ?_⟩ ?_ ?_
    · have e : u = M := by omega
      subst e
      rw [hwf]
      exact valV_pos rfl
    · rintro i σ H3 hi ⟨y4, kvs, rfl, s3, e3, l3, v3⟩
      have eu : (M : Int) - 1 + ((i : Nat) : Int) * (-1) = ((M - 1 - i : Nat) : Int) := by omega
      rw [eu]
      obtain ⟨u, hu2⟩ : ∃ u, u = M - 1 - i := ⟨_, rfl⟩
      rw [← hu2]
      refine ⟨_, rfl, _, rfl, _, rfl, a, n, u, ws, rfl, g.same s3, fun H4 L s4 nL eL => ⟨L, rfl, ⟨_, SqL.of eL⟩, fun D nD => ?_⟩⟩
      have hdl : (nextM n ws u).length ≤ 6 := Nat.le_trans (len_filter_range _ _) n6
      refine lc_list (K := K) (a := L) (xs := nums (nextM n ws u)) (fun i H5 => Same H4 H5 ∧ H5 D = some (.lst ((((nextM n ws u).take i).map fun d => (waysM n ws (u + 2 ^ d) : Int)).map V.int)))
        ⟨same_upd nD, upd_same⟩ (fun i H5 _ h => h.1.seq (SqL.of eL)) ?_ ?_
      · rintro j x H5 hj ⟨s5, e5⟩
        obtain ⟨d, hd, rfl⟩ := nums_at hj
        obtain ⟨d1, d2, d3⟩ := hfl u (by omega) d (List.mem_of_getElem? hd)
        have ev := v3 (u + 2 ^ d) (by omega) (by omega)
        have ep : H5 p = some (.dK kvs) := s5 _ _ (s4 _ _ e3)
        refine ⟨rfl, ?_⟩
        refine tyes_i ?_
        refine ⟨_, rfl, _, rfl, _, rfl, _, _, _, _, rfl, rfl, T.bt _, atI_nat (bitsV_at d (by omega)), _, _, rfl, rfl, p, .int (waysM n ws (u + 2 ^ d) : Nat), rfl, ?_, _, e5, ?_, same_put s5 nD, ?_⟩
        · rw [← ev]
          exact DGet.k (k := Sum.inl ((u + 2 ^ d : Nat) : Int)) ep
        · rw [List.length_map, List.length_map, List.length_take]
          exact Nat.lt_of_le_of_lt (Nat.min_le_right _ _) (small1000 (by omega))
        · rw [upd_same, List.take_add_one, hd]
          simp
      · rintro H5 ⟨s5, e5⟩
        rw [nums_len, List.take_length] at e5
        refine ⟨D, _, rfl, SqL.of e5, ?_⟩
        rw [nums_sum, ← hwl u (by omega)]
        have s6 : Same H3 H5 := s4.trans s5
        refine ⟨_, rfl, _, rfl, p, _, rfl, DPut.k (k := Sum.inl (u : Int)) (s6 _ _ e3) (Nat.lt_of_le_of_lt l3 (small1000 (by omega))), ?_⟩
        refine ⟨_, _, rfl, same_put (s3.trans s6) nHp, upd_same, ?_, fun v h1 h2 => ?_⟩
        · have := putK_len kvs (Sum.inl (u : Int) : Key) (.int (waysM n ws u : Nat))
          omega
        · rw [valV_put]
          by_cases e : v = u
          · subst e
            exact if_pos rfl
          · rw [if_neg (fun z => e (by have := Sum.inl.inj z; omega))]
            exact v3 v (by omega) h2
    · rintro σ H3 ⟨y4, kvs, rfl, s3, e3, l3, v3⟩
      exact ⟨_, rfl, q H3 p kvs s3 nHp e3 fun u h => v3 u (by omega) (by omega)⟩
end
end LB
namespace LB
open PySem PySem.Spec PyProof.Rows L2
open C8 (Cal pe_c)
/-- .. as a tuple of at most eight -/
structure ArgT (H : Hp) (a : Addr) (n : Nat) (ws : List Wd) : Prop where
  ex : ∃ xs, H a = some (.tup xs) ∧ WsAt H xs ws
  l8 : ws.length ≤ 8
  ok : ∀ w ∈ ws, w.Ok n
  n1 : 1 ≤ n
  n6 : n ≤ 6
theorem ArgT.same {H H' : Hp} {a : Addr} {n : Nat} {ws : List Wd} (g : ArgT H a n ws) (s : Same H H') : ArgT H' a n ws := by
  obtain ⟨⟨xs, h1, h2⟩, h3, h4, h5, h6⟩ := g
  exact ⟨⟨xs, s _ _ h1, h2.same s⟩, h3, h4, h5, h6⟩
theorem ArgT.arg {K : PySem.W.Frag} {H : Hp} {a : Addr} {n : Nat} {ws : List Wd} (g : ArgT H a n ws) : Arg K H a n ws := by
  obtain ⟨⟨xs, h1, h2⟩, h3, h4, h5, h6⟩ := g
  exact ⟨⟨xs, .inr (.inl (.inl h1)), h2⟩, h4, h5, h6⟩
section
variable {P : Program} {w : World} {K : PySem.W.Frag} {mg : Str → Option Value} {base : Heap} {aB : Addr}
def spFit (K : PySem.W.Frag) : Sp := fun vs H Q _ => ∃ (a : Addr) (n : Nat) (ws : List Wd), vs = [.int n, .ref a] ∧ Arg K H a n ws ∧ ∀ H', Same H H' → Q (.int (many n ws : Nat)) H'
theorem c_fit (T : Txt K mg aB) (D : Df K mg "fit_many" sFit ["size", "words"]) (GW : Cal P w K mg base 5 "ways_on" (spWays K) []) : Cal P w K mg base 6 "fit_many" (spFit K) [] := by
  refine D.cal scFit (fun vs H Q E h => ?_) (fun f cdv A outer s H vs Q E hr h => ?_)
  · obtain ⟨_, _, _, rfl, _⟩ := h
    rfl
  · obtain ⟨a, n, ws, rfl, g, q⟩ := h
    have hu := hu_of hr
    refine ⟨_, pss_one (ps_ret (pe_dget hu (pe_c GW hr (by decide) (by rfl) (pa_cons (pv 0) (pa_cons (pv 1) pa_nil))) pe_int (fun _ _ => rfl))), ?_⟩
    refine ⟨_, rfl, _, rfl, a, n, ws, rfl, g, fun H1 p kvs s1 np ep hv => ?_⟩
    refine ⟨p, .int (many n ws : Nat), rfl, ?_, q H1 s1⟩
    have e := hv 0 (Nat.two_pow_pos n)
    rw [waysM_zero] at e
    rw [← e]
    exact DGet.k (k := Sum.inl ((0 : Nat) : Int)) ep
/-! ### is_told, need_told -/
def spTold : Sp := fun vs H Q _ => ∃ (n : Nat) (v : V) (wd : Wd), vs = [.int n, v] ∧ WdAt H v wd ∧ wd.Ok n ∧ ∀ H', Same H H' → Q (.bl true) H'
theorem kw_in (k : Kd) : inV (.str (kW k)) [.str "at", .str "not", .str "ahead"] = true := by cases k <;> decide +kernel
theorem cut_1 (x y z : V) : cutV [x, y, z] (some 1) none = [y, z] := rfl
theorem cut_1n (x y z : V) : ¬ (HT.sIx [x, y, z].length 0 (some 1) = 0 ∧ HT.sIx [x, y, z].length [x, y, z].length none = [x, y, z].length) := by
  show ¬ (HT.sIx 3 0 (some 1) = 0 ∧ HT.sIx 3 3 none = 3)
  decide +kernel
theorem c_told (T : Txt K mg aB) (D : Df K mg "is_told" sTold ["size", "thing"]) (GFrom : Cal P w K mg base 2 "is_from" spFrom []) : Cal P w K mg base 3 "is_told" spTold [] := by
  refine D.cal scTold (fun vs H Q E h => ?_) (fun f cdv A outer s H vs Q E hr h => ?_)
  · obtain ⟨_, _, _, rfl, _⟩ := h
    rfl
  · obtain ⟨n, v, wd, rfl, ⟨p, rfl, hp⟩, ok, q⟩ := h
    refine ⟨_, (pss_cons (ps_if (PW.pt (pw_or (pt_not (pt_val (pe_callB call_isi (by rfl) T.isi (by decide +kernel) (pa_cons (pv 1) (pa_cons (pe_bltn (v := .ty "tuple") (by rfl) T.tuple (by decide +kernel) rfl) pa_nil))))) (pw_or (pt_cmpR op_ne (pe_callB call_len_seq (by rfl) T.len PySem.boot_len (pa_cons (pv 1) pa_nil)) pe_int (nomark _)) (pw_or1 (pt_not (pt_val (pe_callB call_isi (by rfl) T.isi (by decide +kernel) (pa_cons (pe_ix ix_tup (pv 1) pe_int (fun _ _ => rfl)) (pa_cons (pe_bltn (v := .ty "str") (by rfl) T.str (by decide +kernel) rfl) pa_nil))))))))) (pss_one (ps_ret pe_bl)) pss_nil)
      (pss_cons (ps_if (PW.pt (pw_or (pt_cmpR op_notIn_seq (pe_ix ix_tup (pv 1) pe_int (fun _ _ => rfl)) (pe_tup (pa_cons pe_str (pa_cons pe_str (pa_cons pe_str pa_nil)))) (by rfl)) (pw_or1 (pt_not (pt_val (pe_callB (cr_all rfl) (by rfl) T.all (by decide +kernel) (pa_cons (pe_lc (own := [("one", 2)]) (g := gName 2) (tt := tYes) rfl scTold.nd (pi_tup (pe_slice sl_tup (pv 1) (po_some pe_int) po_none)) (blkOk_by (own := [("one", 2)]) (N := ["size", "thing", "one"]) (sc := defScope sTold) (by decide +kernel)) (fun _ _ _ _ _ => (pg_name (i := 2) scTold.nd rfl (Or.inl rfl))) (fun _ _ _ _ _ => pts_nil) (fun _ _ _ _ _ => (pe_c GFrom hr (by decide) (by rfl) (pa_cons (pv 2) (pa_cons pe_int (pa_cons (pe_op op_sub (pv 0) pe_int) pa_nil)))))) pa_nil))))))) (pss_one (ps_ret pe_bl)) pss_nil)
      (pss_one (ps_ret (pe_or (pe_cmpR op_ne (pe_ix ix_tup (pv 1) pe_int (fun _ _ => rfl)) pe_str (nomark _)) (pe_one (pe_cmpR op_ne (pe_ix ix_tup (pv 1) pe_int (fun _ _ => rfl)) (pe_ix ix_tup (pv 1) pe_int (fun _ _ => rfl)) (nomark _)))))))), ?_⟩
    -- a tuple of three, a text ahead
    refine ⟨_, rfl, .ref p, .ty "tuple", _, _, true, rfl, .ty "tuple", .base (.tup hp), kit_ty (by decide +kernel), true, rfl, iteF ?_⟩
    refine ⟨_, rfl, p, _, rfl, .inr (.inl (.inl hp)), rfl, _, rfl, iteF ?_⟩
    refine ⟨_, rfl, p, _, (0 : Int), _, rfl, rfl, .inl (.inl hp), atI_nat (j := 0) rfl, .str (kW wd.k), .ty "str", _, _, true, rfl, .ty "str", .base (.str _), kit_ty (by decide +kernel), true, rfl, iteF ?_⟩
    -- one of the three words, numbers within the book
    refine ⟨_, rfl, p, _, (0 : Int), _, rfl, rfl, .inl (.inl hp), atI_nat (j := 0) rfl, by show 3 ≤ sizeLine; decide, fun t nt => ?_⟩
    have s1 : Same H (upd H t (.tup [.str "at", .str "not", .str "ahead"])) := same_upd nt
    refine ⟨t, _, rfl, .inr (.inl (.inl upd_same)), rfl, rfl, false, ?_, ?_⟩
    · show V.bl (!inV (.str (kW wd.k)) [.str "at", .str "not", .str "ahead"]) = V.bl false
      rw [kw_in]
      rfl
    refine iteF ⟨_, rfl, (1 : Int), rfl, p, _, rfl, .inl (.inl (s1 _ _ hp)), cut_1n _ _ _, fun c nc => ?_⟩
    have s2 := s1.trans (same_upd (o := .tup (cutV [.str (kW wd.k), .int (wd.one : Int), .int (wd.oth : Int)] (some 1) none)) nc)
    refine ⟨c, rfl, ⟨_, .inl (.inl upd_same)⟩, fun L nL => ?_⟩
    have n1 := ok.h1
    have n2 := ok.h2
    refine lc_tup (K := K) (a := c) (xs := [V.int (wd.one : Int), .int (wd.oth : Int)]) (fun i H5 => Same (upd (upd H t (.tup [.str "at", .str "not", .str "ahead"])) c (.tup (cutV [.str (kW wd.k), .int (wd.one : Int), .int (wd.oth : Int)] (some 1) none))) H5 ∧ H5 L = some (.lst ((List.replicate i true).map V.bl)))
      ⟨same_upd nL, upd_same⟩ (fun i H5 _ h => .inl (.inl (h.1 _ _ upd_same))) ?_ ?_
    · rintro j x H5 hj ⟨s5, e5⟩
      have hx : ∃ m : Nat, x = V.int (m : Int) ∧ m < n := by
        match j, hj with
        | 0, hj => exact ⟨wd.one, (Option.some.inj hj).symm, n1⟩
        | 1, hj => exact ⟨wd.oth, (Option.some.inj hj).symm, n2⟩
        | j + 2, hj => simp at hj
      obtain ⟨m, rfl, hm⟩ := hx
      have hj2 : j < 2 := (List.getElem?_eq_some_iff.mp hj).1
      refine ⟨rfl, ?_⟩
      refine tyes_i ?_
      refine ⟨_, rfl, _, rfl, _, _, rfl, rfl, _, _, _, rfl, _, e5, ?_, same_put s5 nL, ?_⟩
      · rw [List.length_map, List.length_replicate]
        exact small1000 (by omega)
      · rw [upd_same, decide_eq_true (show (0 : Int) ≤ (m : Int) ∧ (m : Int) ≤ (n : Int) - 1 by omega), List.replicate_succ', List.map_append]
        rfl
    · rintro H5 ⟨s5, e5⟩
      refine ⟨L, _, rfl, SqL.of e5, true, rfl, iteF ?_⟩
      have s6 := s2.trans s5
      have hp5 := s6 _ _ hp
      -- ahead: of two deeds
      refine ⟨_, rfl, p, _, (0 : Int), _, rfl, rfl, .inl (.inl hp5), atI_nat (j := 0) rfl, rfl, _, rfl, ?_⟩
      refine ite2 (fun _ => q H5 s6) (fun e => ?_)
      refine ⟨_, rfl, p, _, (1 : Int), _, rfl, rfl, .inl (.inl hp5), atI_nat (j := 1) rfl, _, rfl, p, _, (2 : Int), _, rfl, rfl, .inl (.inl hp5), atI_nat (j := 2) rfl, rfl, ?_⟩
      have hk : wd.k = .kAhd := by
        cases hk : wd.k with
        | kAhd => rfl
        | kAt =>
          rw [hk] at e
          exact absurd (by rw [show decide (V.str (kW .kAt) = V.str "ahead") = false from kw_f (k := .kAt) (k' := .kAhd) (by decide)]; rfl) e
        | kNot =>
          rw [hk] at e
          exact absurd (by rw [show decide (V.str (kW .kNot) = V.str "ahead") = false from kw_f (k := .kNot) (k' := .kAhd) (by decide)]; rfl) e
      have := ok.h3 hk
      have e2 : (!decide (V.int (wd.one : Int) = V.int (wd.oth : Int))) = true := by
        rw [nat_dec, Bool.not_eq_true', beq_eq_false_iff_ne]
        exact this
      rw [e2]
      exact q H5 s6
end
end LB
namespace LB
/-! ### the first order -/
def goodM (n : Nat) (ws : List Wd) (u : Nat) : List Nat := (nextM n ws u).filter fun d => decide (0 < waysM n ws (u + 2 ^ d))
def fo (n : Nat) (ws : List Wd) : Nat → List Nat × Nat
  | 0 => ([], 0)
  | p + 1 => ((fo n ws p).1 ++ [(goodM n ws (fo n ws p).2).headD 0], (fo n ws p).2 + 2 ^ (goodM n ws (fo n ws p).2).headD 0)
def firstO (n : Nat) (ws : List Wd) : List Nat := (fo n ws n).1
theorem sum_pos {l : List Nat} (h : 0 < l.sum) : ∃ x ∈ l, 0 < x := by
  induction l with
  | nil => simp at h
  | cons a r ih =>
    rw [List.sum_cons] at h
    by_cases ha : 0 < a
    · exact ⟨a, List.mem_cons_self, ha⟩
    · obtain ⟨x, hx, hp⟩ := ih (by omega)
      exact ⟨x, List.mem_cons_of_mem _ hx, hp⟩
theorem sum_zero {l : List Nat} (h : l.sum = 0) : ∀ x ∈ l, x = 0 := by
  induction l with
  | nil => intro x hx; simp at hx
  | cons a r ih =>
    rw [List.sum_cons] at h
    intro x hx
    rcases List.mem_cons.mp hx with rfl | hx
    · omega
    · exact ih (by omega) x hx
theorem mem_goodM {n : Nat} {ws : List Wd} {u d : Nat} : d ∈ goodM n ws u ↔ d ∈ nextM n ws u ∧ 0 < waysM n ws (u + 2 ^ d) := by
  unfold goodM
  rw [List.mem_filter, decide_eq_true_iff]
theorem cnt_full_of {n u : Nat} (hn : n ≤ 7) (hu : u < 2 ^ n) (h : cnt u < n) : u < 2 ^ n - 1 := by
  rcases Nat.lt_or_ge u (2 ^ n - 1) with h1 | h1
  · exact h1
  · have e : u = 2 ^ n - 1 := by omega
    rw [e, cnt_full n (by omega)] at h
    omega
theorem goodM_ne {n : Nat} {ws : List Wd} (hn : n ≤ 7) (hw : ∀ w ∈ ws, w.Ok n) {u : Nat} (hu : u < 2 ^ n) (hc : cnt u < n) (hp : 0 < waysM n ws u) : ∃ d r, goodM n ws u = d :: r := by
  rw [waysM_step hn hw (cnt_full_of hn hu hc)] at hp
  obtain ⟨x, hx, h⟩ := sum_pos hp
  obtain ⟨d, hd, rfl⟩ := List.mem_map.mp hx
  have m : d ∈ goodM n ws u := mem_goodM.mpr ⟨hd, h⟩
  match e : goodM n ws u, m with
  | a :: r, _ => exact ⟨a, r, rfl⟩
/-- how the first order stands at its p-th page -/
structure FoAt (n : Nat) (ws : List Wd) (p : Nat) (f : List Nat) (u : Nat) : Prop where
  lt : u < 2 ^ n
  cn : cnt u = p
  ln : f.length = p
  pm : (bits u).Perm f
  pt : Path n ws f
  ps : 0 < waysM n ws u
theorem FoAt.next {n : Nat} {ws : List Wd} (hn : n ≤ 7) (hw : ∀ w ∈ ws, w.Ok n) {p u d : Nat} {f : List Nat} (h : FoAt n ws p f u) (hd : d ∈ goodM n ws u) : FoAt n ws (p + 1) (f ++ [d]) (u + 2 ^ d) := by
  obtain ⟨h1, h2⟩ := mem_goodM.mp hd
  obtain ⟨a, b, c⟩ := mem_nextM.mp h1
  have hp := bits_snoc (Nat.lt_of_lt_of_le h.lt (pow_le n (by omega))) (show d < 7 by omega) b
  refine ⟨full_lt n (by omega) u h.lt d a b, ?_, ?_, hp.trans (h.pm.append_right [d]), .snoc h.pt ?_, h2⟩
  · rw [cnt_add hn h.lt a b, h.cn]
  · rw [List.length_append, h.ln]
    rfl
  · rw [nextM_eq hn hw, nextL_perm h.pm] at h1
    exact h1
theorem fo_zero {n : Nat} {ws : List Wd} (hm : 0 < many n ws) : FoAt n ws 0 [] 0 :=
  ⟨Nat.two_pow_pos n, by unfold cnt; rw [bits_zero]; rfl, rfl, by rw [bits_zero], .nil, by rw [waysM_zero]; exact hm⟩
theorem fo_at {n : Nat} {ws : List Wd} (hn : n ≤ 7) (hw : ∀ w ∈ ws, w.Ok n) (hm : 0 < many n ws) : ∀ p, p ≤ n → FoAt n ws p (fo n ws p).1 (fo n ws p).2
  | 0, _ => fo_zero hm
  | p + 1, hp => by
    have ih := fo_at hn hw hm p (by omega)
    obtain ⟨d, r, e⟩ := goodM_ne hn hw ih.lt (by rw [ih.cn]; omega) ih.ps
    have hd : d ∈ goodM n ws (fo n ws p).2 := by
      rw [e]
      exact List.mem_cons_self
    have := ih.next hn hw hd
    show FoAt n ws (p + 1) ((fo n ws p).1 ++ [(goodM n ws (fo n ws p).2).headD 0]) ((fo n ws p).2 + 2 ^ (goodM n ws (fo n ws p).2).headD 0)
    rw [e]
    exact this
theorem fo_good {n : Nat} {ws : List Wd} (hn : n ≤ 7) (hw : ∀ w ∈ ws, w.Ok n) (hm : 0 < many n ws) {p : Nat} (hp : p < n) : ∃ d r, goodM n ws (fo n ws p).2 = d :: r ∧ fo n ws (p + 1) = ((fo n ws p).1 ++ [d], (fo n ws p).2 + 2 ^ d) := by
  have ih := fo_at hn hw hm p (by omega)
  obtain ⟨d, r, e⟩ := goodM_ne hn hw ih.lt (by rw [ih.cn]; omega) ih.ps
  refine ⟨d, r, e, ?_⟩
  show ((fo n ws p).1 ++ [(goodM n ws (fo n ws p).2).headD 0], (fo n ws p).2 + 2 ^ (goodM n ws (fo n ws p).2).headD 0) = _
  rw [e]
  rfl
/-- an order that is the first fits -/
structure OrderOk (n : Nat) (ws : List Wd) (o : List Nat) : Prop where
  ln : o.length = n
  nd : o.Nodup
  lt : ∀ d ∈ o, d < n
  so : ∀ w ∈ ws, soB o w = true
theorem first_ok {n : Nat} {ws : List Wd} (hn : n ≤ 7) (hw : ∀ w ∈ ws, w.Ok n) (hm : 0 < many n ws) : OrderOk n ws (firstO n ws) := by
  have h := fo_at hn hw hm n (Nat.le_refl n)
  obtain ⟨nd, lt⟩ := h.pt.nodup
  exact ⟨h.ln, nd, lt, h.pt.so h.ln hw⟩
theorem fo_take {n : Nat} {ws : List Wd} : ∀ (q p : Nat), p ≤ q → (fo n ws p).1.length = p → (fo n ws p).1 = (fo n ws q).1.take p
  | 0, p, h, _ => by
    have e : p = 0 := by omega
    subst e
    rfl
  | q + 1, p, h, hl => by
    by_cases e : p = q + 1
    · subst e
      rw [List.take_of_length_le (by omega)]
    · rw [fo_take q p (by omega) hl]
      show _ = List.take p ((fo n ws q).1 ++ [(goodM n ws (fo n ws q).2).headD 0])
      have h2 := fo_take q p (by omega) hl
      have : p ≤ (fo n ws q).1.length := by
        have e3 := congrArg List.length h2
        rw [List.length_take, hl] at e3
        omega
      rw [List.take_append_of_le_length this]
/-! ### open pages -/
def lev (n : Nat) (ws : List Wd) : Nat → List Nat
  | 0 => [0]
  | p + 1 => (List.range (2 ^ n)).filter fun m => (lev n ws p).any fun u => (goodM n ws u).any fun d => u + 2 ^ d == m
def opn (n : Nat) (ws : List Wd) (p : Nat) : List Nat := (List.range n).filter fun d => (lev n ws p).any fun u => (goodM n ws u).contains d
theorem goodM_lt {n : Nat} {ws : List Wd} {u d : Nat} (hn : n ≤ 7) (hu : u < 2 ^ n) (h : d ∈ goodM n ws u) : d < n ∧ has u d = false ∧ u + 2 ^ d < 2 ^ n := by
  obtain ⟨a, b, _⟩ := mem_nextM.mp (mem_goodM.mp h).1
  exact ⟨a, b, full_lt n (by omega) u hu d a b⟩
theorem lev_lt {n : Nat} {ws : List Wd} : ∀ (p u : Nat), u ∈ lev n ws p → u < 2 ^ n
  | 0, u, h => by
    rw [List.mem_singleton.mp h]
    exact Nat.two_pow_pos n
  | p + 1, u, h => List.mem_range.mp (List.mem_filter.mp h).1
theorem mem_lev {n : Nat} {ws : List Wd} (hn : n ≤ 7) {p m : Nat} : m ∈ lev n ws (p + 1) ↔ ∃ u ∈ lev n ws p, ∃ d ∈ goodM n ws u, u + 2 ^ d = m := by
  show m ∈ (List.range (2 ^ n)).filter _ ↔ _
  rw [List.mem_filter, List.mem_range, List.any_eq_true]
  constructor
  · rintro ⟨_, u, hu, h⟩
    obtain ⟨d, hd, e⟩ := List.any_eq_true.mp h
    exact ⟨u, hu, d, hd, eq_of_beq e⟩
  · rintro ⟨u, hu, d, hd, rfl⟩
    exact ⟨(goodM_lt hn (lev_lt p u hu) hd).2.2, u, hu, List.any_eq_true.mpr ⟨d, hd, beq_self_eq_true _⟩⟩
theorem mem_opn {n : Nat} {ws : List Wd} (hn : n ≤ 7) {p d : Nat} : d ∈ opn n ws p ↔ ∃ u ∈ lev n ws p, d ∈ goodM n ws u := by
  unfold opn
  rw [List.mem_filter, List.mem_range, List.any_eq_true]
  constructor
  · rintro ⟨_, u, hu, h⟩
    exact ⟨u, hu, List.contains_iff_mem.mp h⟩
  · rintro ⟨u, hu, h⟩
    exact ⟨(goodM_lt hn (lev_lt p u hu) h).1, u, hu, List.contains_iff_mem.mpr h⟩
theorem opn_rises (n : Nat) (ws : List Wd) (p : Nat) : (opn n ws p).Pairwise (· < ·) := List.Pairwise.sublist List.filter_sublist List.pairwise_lt_range
theorem lev_rises (n : Nat) (ws : List Wd) : ∀ p, (lev n ws p).Pairwise (· < ·)
  | 0 => List.pairwise_singleton _ _
  | p + 1 => List.Pairwise.sublist List.filter_sublist List.pairwise_lt_range
theorem fo_lev {n : Nat} {ws : List Wd} (hn : n ≤ 7) (hw : ∀ w ∈ ws, w.Ok n) (hm : 0 < many n ws) : ∀ p, p ≤ n → (fo n ws p).2 ∈ lev n ws p
  | 0, _ => List.mem_singleton.mpr rfl
  | p + 1, hp => by
    obtain ⟨d, r, e, e2⟩ := fo_good hn hw hm (show p < n by omega)
    rw [e2]
    exact (mem_lev hn).mpr ⟨_, fo_lev hn hw hm p (by omega), d, by rw [e]; exact List.mem_cons_self, rfl⟩
/-- the first order is of the open pages -/
theorem first_open {n : Nat} {ws : List Wd} (hn : n ≤ 7) (hw : ∀ w ∈ ws, w.Ok n) (hm : 0 < many n ws) {p d : Nat} (h : (firstO n ws)[p]? = some d) : d ∈ opn n ws p := by
  have hl := (first_ok hn hw hm).ln
  have hp : p < n := by
    have := (List.getElem?_eq_some_iff.mp h).1
    omega
  obtain ⟨d', r, e, e2⟩ := fo_good hn hw hm hp
  have h3 := fo_take (ws := ws) n (p + 1) (by omega) (fo_at hn hw hm (p + 1) (by omega)).ln
  rw [e2] at h3
  have h4 : (firstO n ws)[p]? = some d' := by
    have e5 : ((fo n ws n).1.take (p + 1))[p]? = some d' := by
      rw [← h3]
      have hlp := (fo_at hn hw hm p (by omega)).ln
      rw [List.getElem?_append_right (by omega), hlp, Nat.sub_self]
      rfl
    rw [List.getElem?_take, if_pos (by omega)] at e5
    exact e5
  rw [h] at h4
  rw [Option.some.inj h4]
  exact (mem_opn hn).mpr ⟨_, fo_lev hn hw hm p (by omega), by rw [e]; exact List.mem_cons_self⟩
/-- where no order fits nothing is open -/
theorem open_none {n : Nat} {ws : List Wd} (hn : n ≤ 7) (hw : ∀ w ∈ ws, w.Ok n) (hn1 : 1 ≤ n) (hm : many n ws = 0) (p : Nat) : opn n ws p = [] := by
  have g0 : goodM n ws 0 = [] := by
    refine List.eq_nil_iff_forall_not_mem.mpr fun d hd => ?_
    obtain ⟨h1, h2⟩ := mem_goodM.mp hd
    have h0 : (0 : Nat) < 2 ^ n - 1 := by
      have : 2 ^ 1 ≤ 2 ^ n := Nat.pow_le_pow_right (by decide) hn1
      omega
    have e := waysM_step hn hw h0
    rw [waysM_zero, hm] at e
    have := sum_zero e.symm _ (List.mem_map.mpr ⟨d, h1, rfl⟩)
    omega
  have l : ∀ p, p = 0 ∨ lev n ws p = [] := fun p => by
    induction p with
    | zero => exact .inl rfl
    | succ p ih =>
      refine .inr (List.eq_nil_iff_forall_not_mem.mpr fun m hm => ?_)
      obtain ⟨u, hu, d, hd, _⟩ := (mem_lev hn).mp hm
      rcases ih with e | e
      · subst e
        rw [List.mem_singleton.mp hu, g0] at hd
        cases hd
      · rw [e] at hu
        cases hu
  refine List.eq_nil_iff_forall_not_mem.mpr fun d hd => ?_
  obtain ⟨u, hu, h⟩ := (mem_opn hn).mp hd
  rcases l p with e | e
  · subst e
    rw [List.mem_singleton.mp hu, g0] at h
    cases h
  · rw [e] at hu
    cases hu
/-! ### a word more -/
theorem sum_le_of_sublist {f g : Nat → Nat} : ∀ {l m : List Nat}, l.Sublist m → (∀ x, f x ≤ g x) → (l.map f).sum ≤ (m.map g).sum
  | _, _, .slnil, _ => Nat.le_refl _
  | _, _, .cons a s, h => by
    have := sum_le_of_sublist s h
    rw [List.map_cons, List.sum_cons]
    omega
  | _, _, .cons_cons a s, h => by
    have := sum_le_of_sublist s h
    have := h a
    rw [List.map_cons, List.map_cons, List.sum_cons, List.sum_cons]
    omega
theorem letL_mono {ws ws' : List Wd} (h : ∀ w ∈ ws, w ∈ ws') {p : List Nat} {d : Nat} (hl : letL ws' p d = true) : letL ws p d = true :=
  List.all_eq_true.mpr fun w m => List.all_eq_true.mp hl w (h w m)
theorem filter_sub {p q : Nat → Bool} (h : ∀ x, p x = true → q x = true) : ∀ l : List Nat, (l.filter p).Sublist (l.filter q)
  | [] => .slnil
  | a :: r => by
    rw [List.filter_cons, List.filter_cons]
    cases hp : p a with
    | true =>
      rw [if_pos rfl, if_pos (h a hp)]
      exact (filter_sub h r).cons_cons a
    | false =>
      rw [if_neg (by simp)]
      split
      · exact (filter_sub h r).cons a
      · exact filter_sub h r
theorem nextL_sub {n : Nat} {ws ws' : List Wd} (h : ∀ w ∈ ws, w ∈ ws') (p : List Nat) : (nextL n ws' p).Sublist (nextL n ws p) :=
  filter_sub (fun d hd => by
    rw [Bool.and_eq_true] at hd ⊢
    exact ⟨hd.1, letL_mono h hd.2⟩) _
theorem waysL_mono {n : Nat} {ws ws' : List Wd} (h : ∀ w ∈ ws, w ∈ ws') : ∀ k p, waysL n ws' k p ≤ waysL n ws k p
  | 0, _ => Nat.le_refl _
  | k + 1, p => sum_le_of_sublist (nextL_sub h p) fun d => waysL_mono h k (p ++ [d])
theorem many_mono {n : Nat} {ws ws' : List Wd} (h : ∀ w ∈ ws, w ∈ ws') : many n ws' ≤ many n ws := waysL_mono h n []
theorem goodM_mono {n : Nat} {ws ws' : List Wd} (h : ∀ w ∈ ws, w ∈ ws') {u d : Nat} (hd : d ∈ goodM n ws' u) : d ∈ goodM n ws u := by
  obtain ⟨h1, h2⟩ := mem_goodM.mp hd
  obtain ⟨a, b, c⟩ := mem_nextM.mp h1
  refine mem_goodM.mpr ⟨mem_nextM.mpr ⟨a, b, List.all_eq_true.mpr fun w m => List.all_eq_true.mp c w (h w m)⟩, Nat.lt_of_lt_of_le h2 (waysL_mono h _ _)⟩
theorem lev_mono {n : Nat} {ws ws' : List Wd} (hn : n ≤ 7) (h : ∀ w ∈ ws, w ∈ ws') : ∀ p u, u ∈ lev n ws' p → u ∈ lev n ws p
  | 0, _, hu => hu
  | p + 1, m, hm => by
    obtain ⟨u, hu, d, hd, e⟩ := (mem_lev hn).mp hm
    exact (mem_lev hn).mpr ⟨u, lev_mono hn h p u hu, d, goodM_mono h hd, e⟩
theorem opn_mono {n : Nat} {ws ws' : List Wd} (hn : n ≤ 7) (h : ∀ w ∈ ws, w ∈ ws') {p d : Nat} (hd : d ∈ opn n ws' p) : d ∈ opn n ws p := by
  obtain ⟨u, hu, g⟩ := (mem_opn hn).mp hd
  exact (mem_opn hn).mpr ⟨u, lev_mono hn h p u hu, goodM_mono h g⟩
/-! ### words in another order -/
theorem waysM_same {n : Nat} {ws ws' : List Wd} (h : ∀ w, w ∈ ws ↔ w ∈ ws') : waysM n ws = waysM n ws' := funext fun u => waysL_same h _ _
theorem goodM_same {n : Nat} {ws ws' : List Wd} (h : ∀ w, w ∈ ws ↔ w ∈ ws') : goodM n ws = goodM n ws' := by
  funext u
  unfold goodM
  rw [nextM_same h, waysM_same h]
theorem fo_same {n : Nat} {ws ws' : List Wd} (h : ∀ w, w ∈ ws ↔ w ∈ ws') : ∀ p, fo n ws p = fo n ws' p
  | 0 => rfl
  | p + 1 => by
    unfold fo
    rw [fo_same h p, goodM_same h]
theorem first_same {n : Nat} {ws ws' : List Wd} (h : ∀ w, w ∈ ws ↔ w ∈ ws') : firstO n ws = firstO n ws' := congrArg Prod.fst (fo_same h n)
theorem lev_same {n : Nat} {ws ws' : List Wd} (h : ∀ w, w ∈ ws ↔ w ∈ ws') : ∀ p, lev n ws p = lev n ws' p
  | 0 => rfl
  | p + 1 => by
    unfold lev
    rw [lev_same h p, goodM_same h]
theorem opn_same {n : Nat} {ws ws' : List Wd} (h : ∀ w, w ∈ ws ↔ w ∈ ws') (p : Nat) : opn n ws p = opn n ws' p := by
  unfold opn
  rw [lev_same h p, goodM_same h]
end LB
namespace LB
open PySem PySem.Spec PyProof.Rows L2
open C8 (Cal pe_c)
section
variable {P : Program} {w : World} {K : PySem.W.Frag} {mg : Str → Option Value} {base : Heap} {aB : Addr}
/-! ### need_told, orders_many -/
def spNeed : Sp := fun vs H Q _ => ∃ (a : Addr) (n : Nat) (ws : List Wd), vs = [.int n, .ref a] ∧ ArgT H a n ws ∧ ∀ H', Same H H' → Q .non H'
theorem c_need (T : Txt K mg aB) (D : Df K mg "need_told" sNeed ["size", "words"]) (GFrom : Cal P w K mg base 2 "is_from" spFrom []) (GTold : Cal P w K mg base 3 "is_told" spTold []) : Cal P w K mg base 4 "need_told" spNeed [] := by
  obtain ⟨tms, ems⟩ := T.ms
  obtain ⟨tmw, emw⟩ := T.mw
  refine D.cal scNeed (fun vs H Q E h => ?_) (fun f cdv A outer s H vs Q E hr h => ?_)
  · obtain ⟨_, _, _, rfl, _⟩ := h
    rfl
  · obtain ⟨a, n, ws, rfl, g, q⟩ := h
    refine ⟨_, (pss_cons (ps_if (pt_not (pt_val (pe_c GFrom hr (by decide) (by rfl) (pa_cons (pv 0) (pa_cons pe_int (pa_cons (pe_glob (v := .int 7) (by rfl) ems ⟨_, rfl⟩) pa_nil)))))) (pss_one ps_never) pss_nil)
      (pss_one (ps_if (PW.pt (pw_or (pt_not (pt_val (pe_callB call_isi (by rfl) T.isi (by decide +kernel) (pa_cons (pv 1) (pa_cons (pe_bltn (v := .ty "tuple") (by rfl) T.tuple (by decide +kernel) rfl) pa_nil))))) (pw_or (pt_cmpR op_gt (pe_callB call_len_seq (by rfl) T.len PySem.boot_len (pa_cons (pv 1) pa_nil)) (pe_glob (v := .int 8) (by rfl) emw ⟨_, rfl⟩) (nomark _)) (pw_or1 (pt_not (pt_val (pe_callB (cr_all rfl) (by rfl) T.all (by decide +kernel) (pa_cons (pe_lc (own := [("one", 2)]) (g := gName 2) (tt := tYes) rfl scNeed.nd (pi_tup (pv 1)) (blkOk_by (own := [("one", 2)]) (N := ["size", "words", "one"]) (sc := defScope sNeed) (by decide +kernel)) (fun _ _ _ _ _ => (pg_name (i := 2) scNeed.nd rfl (Or.inl rfl))) (fun _ _ _ _ _ => pts_nil) (fun _ _ _ _ _ => (pe_c GTold hr (by decide) (by rfl) (pa_cons (pv 0) (pa_cons (pv 2) pa_nil))))) pa_nil)))))))) (pss_one ps_never) pss_nil))), ?_⟩
    obtain ⟨⟨xs, hx, hw⟩, l8, ok, n1, n6⟩ := id g
    refine ⟨_, rfl, _, _, _, rfl, _, rfl, ?_⟩
    rw [decide_eq_true (show (1 : Int) ≤ (n : Int) ∧ (n : Int) ≤ 7 by omega)]
    refine iteF ?_
    refine ⟨_, rfl, .ref a, .ty "tuple", _, _, true, rfl, .ty "tuple", .base (.tup hx), kit_ty (by decide +kernel), true, rfl, iteF ?_⟩
    refine ⟨_, rfl, a, xs, rfl, .inr (.inl (.inl hx)), _, _, rfl, rfl, _, rfl, iteN (decide_eq_false ?_) ?_⟩
    · have := hw.len
      omega
    refine ⟨_, rfl, a, rfl, ⟨_, .inl (.inl hx)⟩, fun L nL => ?_⟩
    refine lc_tup (K := K) (a := a) (xs := xs) (fun i H5 => Same H H5 ∧ H5 L = some (.lst ((List.replicate i true).map V.bl))) ⟨same_upd nL, upd_same⟩ (fun i H5 _ h => .inl (.inl (h.1 _ _ hx))) ?_ ?_
    · rintro j x H5 hj ⟨s5, e5⟩
      obtain ⟨wd, hwj, hwd⟩ := paired_at (hw.same s5) hj
      refine ⟨rfl, ?_⟩
      refine tyes_i ?_
      refine ⟨_, rfl, _, rfl, n, x, wd, rfl, hwd, ok wd (List.mem_of_getElem? hwj), fun H6 s6 => ?_⟩
      refine ⟨_, s6 _ _ e5, ?_, same_put (s5.trans s6) nL, ?_⟩
      · rw [List.length_map, List.length_replicate]
        have := (List.getElem?_eq_some_iff.mp hj).1
        have := hw.len
        exact small1000 (by omega)
      · rw [upd_same, List.replicate_succ', List.map_append]
        rfl
    · rintro H5 ⟨s5, e5⟩
      refine ⟨L, _, rfl, SqL.of e5, _, rfl, ?_⟩
      rw [show (List.replicate xs.length true).all id = true from List.all_eq_true.mpr fun b hb => List.eq_of_mem_replicate hb]
      exact iteF (q H5 s5)
def spMany : Sp := fun vs H Q _ => ∃ (a : Addr) (n : Nat) (ws : List Wd), vs = [.int n, .ref a] ∧ ArgT H a n ws ∧ ∀ H', Same H H' → Q (.int (many n ws : Nat)) H'
theorem c_many (T : Txt K mg aB) (D : Df K mg "orders_many" sMany ["size", "words"]) (GNeed : Cal P w K mg base 4 "need_told" spNeed []) (GFit : Cal P w K mg base 6 "fit_many" (spFit K) []) : Cal P w K mg base 7 "orders_many" spMany [] := by
  refine D.cal scMany (fun vs H Q E h => ?_) (fun f cdv A outer s H vs Q E hr h => ?_)
  · obtain ⟨_, _, _, rfl, _⟩ := h
    rfl
  · obtain ⟨a, n, ws, rfl, g, q⟩ := h
    refine ⟨_, (pss_cons (ps_expr (pe_c GNeed hr (by decide) (by rfl) (pa_cons (pv 0) (pa_cons (pv 1) pa_nil))))
      (pss_one (ps_ret (pe_c GFit hr (by decide) (by rfl) (pa_cons (pv 0) (pa_cons (pv 1) pa_nil)))))), ?_⟩
    refine ⟨_, rfl, _, rfl, a, n, ws, rfl, g, fun H1 s1 => ?_⟩
    exact ⟨_, rfl, _, rfl, a, n, ws, rfl, (g.same s1).arg, fun H2 s2 => q H2 (s1.trans s2)⟩
/-! ### first_order -/
theorem filter_take {l : List Nat} {j x : Nat} (p : Nat → Bool) (h : l[j]? = some x) : (l.take (j + 1)).filter p = (l.take j).filter p ++ (if p x = true then [x] else []) := by
  rw [List.take_add_one, h, List.filter_append]
  show _ ++ [x].filter p = _
  rw [List.filter_cons, List.filter_nil]
theorem small_filter {l : List Nat} {j m : Nat} (p : Nat → Bool) (h : l.length ≤ m) (hm : m ≤ 1000) : (nums ((l.take j).filter p)).length < sizeLine := by
  rw [nums_len]
  have h1 := List.length_filter_le p (l.take j)
  have h2 : (l.take j).length ≤ l.length := by
    rw [List.length_take]
    exact Nat.min_le_right _ _
  exact small1000 (by omega)
theorem pos_dec (m : Nat) : decide ((0 : Int) < (m : Int)) = decide (0 < m) := by
  rw [Bool.eq_iff_iff, decide_eq_true_iff, decide_eq_true_iff]
  omega
def spFirst : Sp := fun vs H Q _ => ∃ (a : Addr) (n : Nat) (ws : List Wd), vs = [.int n, .ref a] ∧ ArgT H a n ws ∧ (many n ws = 0 → ∀ H', Same H H' → Q .non H') ∧
  (0 < many n ws → ∀ H' t, Same H H' → H t = none → OrdAt H' t (firstO n ws) → Q (.ref t) H')
theorem c_first (T : Txt K mg aB) (D : Df K mg "first_order" sFirst ["size", "words"]) (GNeed : Cal P w K mg base 4 "need_told" spNeed []) (GWays : Cal P w K mg base 5 "ways_on" (spWays K) []) (GNext : Cal P w K mg base 4 "next_ones" (spNext K) []) : Cal P w K mg base 6 "first_order" spFirst [] := by
  refine D.cal scFirst (fun vs H Q E h => ?_) (fun f cdv A outer s H vs Q E hr h => ?_)
  · obtain ⟨_, _, _, rfl, _⟩ := h
    rfl
  · obtain ⟨a, n, ws, rfl, g, q0, q1⟩ := h
    have hu := hu_of hr
    have n6 := g.n6
    have hn7 : n ≤ 7 := by omega
    refine ⟨_, (pss_cons (ps_expr (pe_c GNeed hr (by decide) (by rfl) (pa_cons (pv 0) (pa_cons (pv 1) pa_nil))))
      (pss_cons (ps_set (i := 2) scFirst.nd rfl (Or.inr rfl) (pe_c GWays hr (by decide) (by rfl) (pa_cons (pv 0) (pa_cons (pv 1) pa_nil))))
      (pss_cons (ps_if (pt_cmpR op_eq (pe_dget hu (pv 2) pe_int (fun _ _ => rfl)) pe_int (nomark _)) (pss_one (ps_ret pe_non)) pss_nil)
      (pss_cons (ps_asg (pe_tup (pa_cons (pe_lst pa_nil) (pa_cons pe_int pa_nil))) (pg_tup rfl (pgs_cons (pg_name (i := 3) scFirst.nd rfl (Or.inl rfl)) (pgs_cons (pg_name (i := 4) scFirst.nd rfl (Or.inr rfl)) pgs_nil))))
      (pss_cons (ps_for PassesOwn.never rfl (pi_range1 (by rfl) T.range (pa_cons (pv 0) pa_nil)) (pg_name (i := 5) scFirst.nd rfl (Or.inl rfl))
        (pss_cons (ps_setLc (i := 6) (own := [("deed", 7)]) (g := gName 7) rfl scFirst.nd rfl rfl (sw_true rfl rfl rfl (by decide +kernel)) (pi_list (pe_c GNext hr (by decide) (by rfl) (pa_cons (pv 0) (pa_cons (pv 1) (pa_cons (pv 4) pa_nil))))) (blkOk_by (own := [("deed", 7)]) (N := ["size", "words", "ways", "found", "used", "page", "good", "deed"]) (sc := defScope sFirst) (by decide +kernel)) (fun _ _ _ _ _ => (pg_name (i := 7) scFirst.nd rfl (Or.inl rfl))) (fun _ _ _ _ _ => (pts_one (pt_cmpR op_gt (pe_dget hu (pv 2) (pe_op op_add (pv 4) (pe_ix (r := rIxT K) ix_tup (pe_glob (v := .ref aB) (by rfl) T.mb rfl) (pv 7) (fun _ _ => rfl))) (fun _ _ => rfl)) pe_int (nomark _)))) (fun _ _ _ _ _ => (pv 7)))
        (pss_cons (ps_expr (pe_bm PySem.F.plainAttrs_list PySem.F.slot_list_append PySem.F.type_list_append mt_append (pv 3) (pa_cons (pe_ix ix_list (pv 6) pe_int (fun _ _ => rfl)) pa_nil)))
        (pss_one (ps_set (i := 4) scFirst.nd rfl (Or.inr rfl) (pe_op op_add (pv 4) (pe_ix ix_tup (pe_glob (v := .ref aB) (by rfl) T.mb rfl) (pe_ix ix_list (pv 6) pe_int (fun _ _ => rfl)) (fun _ _ => rfl))))))))
      (pss_one (ps_ret (pe_callTy cr_tupF (by rfl) T.tuple (by decide +kernel) (pa_cons (pv 3) pa_nil))))))))), ?_⟩
    refine ⟨_, rfl, _, rfl, a, n, ws, rfl, g, fun H1 s1 => ?_⟩
    refine ⟨_, rfl, _, rfl, a, n, ws, rfl, (g.same s1).arg, fun H2 p kvs s2 np ep hv => ?_⟩
    have s12 := s1.trans s2
    have hv0 := hv 0 (Nat.two_pow_pos n)
    rw [waysM_zero] at hv0
    refine ⟨_, rfl, p, .int (many n ws : Nat), rfl, by rw [← hv0]; exact DGet.k (k := Sum.inl ((0 : Nat) : Int)) ep, rfl, _, rfl, ite2 (fun e => ?_) (fun e => ?_)⟩
    · have e0 := V.int.inj (of_decide_eq_true e)
      exact q0 (by omega) H2 s12
    have hm : 0 < many n ws := by
      refine Nat.pos_of_ne_zero fun z => e (decide_eq_true ?_)
      rw [z]
      rfl
    refine ⟨Nat.zero_le _, fun l nl => ⟨by show 2 ≤ sizeLine; decide, fun t nt => ?_⟩⟩
    refine ⟨t, _, rfl, .inl (.inl upd_same), rfl, _, _, rfl, _, _, rfl, rfl, ?_⟩
    have ntl : l ≠ t := ne_of_none upd_same nt
    refine ⟨_, rfl, _, rfl, by omega, by omega, ?_⟩
    rw [Int.toNat_natCast]
    refine for_range (lo := 0) (n := n) (fun i σ H3 => ∃ y5 y6, σ = [some (V.int n), some (.ref a), some (.ref p), some (.ref l), some (.int ((fo n ws i).2 : Nat)), y5, y6, none] ∧ Same H2 H3 ∧ H3 l = some (.lst (nums (fo n ws i).1)))
      ⟨none, none, rfl, same_put (same_upd nl) (by rw [upd_ne ntl.symm] at nt; exact nt), by rw [upd_ne ntl, upd_same]; rfl⟩ ?_ ?_
    · rintro i σ H3 hi ⟨y5, y6, rfl, s3, e3⟩
      have FA := fo_at hn7 g.ok hm i (by omega)
      obtain ⟨d, r, eg, ef⟩ := fo_good hn7 g.ok hm hi
      generalize hfe : fo n ws i = fu at *
      obtain ⟨fl, u⟩ := fu
      have ul : u < 2 ^ n := FA.lt
      refine ⟨_, rfl, _, rfl, _, rfl, a, n, u, ws, rfl, (g.same (s12.trans s3)).arg, fun H4 L s4 nL eL => ⟨L, rfl, ⟨_, SqL.of eL⟩, fun D nD => ?_⟩⟩
      have hdl : (nextM n ws u).length ≤ 6 := Nat.le_trans (len_filter_range _ _) n6
      refine lc_list (K := K) (a := L) (xs := nums (nextM n ws u)) (fun j H5 => Same H4 H5 ∧ H5 D = some (.lst (nums (((nextM n ws u).take j).filter fun d => decide (0 < waysM n ws (u + 2 ^ d))))))
        ⟨same_upd nD, upd_same⟩ (fun i H5 _ h => h.1.seq (SqL.of eL)) ?_ ?_
      · rintro j x H5 hj ⟨s5, e5⟩
        obtain ⟨b, hb, rfl⟩ := nums_at hj
        obtain ⟨b1, b2, _⟩ := mem_nextM.mp (List.mem_of_getElem? hb)
        have ev := hv (u + 2 ^ b) (full_lt n (by omega) u ul b b1 b2)
        have ep5 : H5 p = some (.dK kvs) := s5 _ _ (s4 _ _ (s3 _ _ ep))
        refine ⟨rfl, _, rfl, _, rfl, _, rfl, _, _, _, _, rfl, rfl, T.bt _, atI_nat (bitsV_at b (by omega)), _, _, rfl, rfl, p, .int (waysM n ws (u + 2 ^ b) : Nat), rfl, by rw [← ev]; exact DGet.k (k := Sum.inl ((u + 2 ^ b : Nat) : Int)) ep5, _, _, rfl, rfl, _, rfl, ?_⟩
        rw [pos_dec, filter_take _ hb, nums_app]
        cases hz : decide (0 < waysM n ws (u + 2 ^ b)) with
        | true =>
          refine iteT ⟨_, rfl, _, e5, small_filter _ hdl (by decide), same_put s5 nD, ?_⟩
          rw [upd_same]
          rfl
        | false =>
          refine iteF ⟨s5, ?_⟩
          rw [e5]
          show _ = some (HO.lst (_ ++ []))
          rw [List.append_nil]
      · rintro H5 ⟨s5, e5⟩
        rw [nums_len, List.take_length] at e5
        have e6 : H5 D = some (.lst (nums (goodM n ws u))) := e5
        rw [eg] at e6
        have s6 : Same H3 H5 := s4.trans s5
        have el := s6 _ _ e3
        have hdg : d ∈ goodM n ws u := by
          rw [eg]
          exact List.mem_cons_self
        obtain ⟨d1, d2, d3⟩ := goodM_lt hn7 ul hdg
        have nDl : D ≠ l := (ne_of_none (s4 _ _ e3) nD).symm
        have fl6 : fl.length ≤ 6 := by
          have := FA.ln
          simp only at this
          omega
        refine ⟨_, rfl, .inl ⟨rfl, _, SqL.of el⟩, _, rfl, D, _, (0 : Int), _, rfl, rfl, SqL.of e6, atI_nat (j := 0) rfl, l, _, _, rfl, rfl, el, ?_, ?_⟩
        · rw [nums_len]
          show fl.length < sizeLine
          exact small1000 (by omega)
        have e7 : ∀ o, (upd H5 l o) D = some (.lst (nums (d :: r))) := fun o => by
          rw [upd_ne nDl]
          exact e6
        refine ⟨_, rfl, _, rfl, D, _, (0 : Int), _, rfl, rfl, SqL.of (e7 _), atI_nat (j := 0) rfl, _, _, _, _, rfl, rfl, T.bt _, atI_nat (bitsV_at d (by omega)), _, _, rfl, rfl, ?_⟩
        rw [ef]
        refine ⟨some (.int (0 + (i : Int))), some (.ref D), rfl, same_put (s3.trans s6) nl, ?_⟩
        rw [upd_same, nums_app]
        rfl
    · rintro σ H3 ⟨y5, y6, rfl, s3, e3⟩
      refine ⟨_, rfl, l, _, rfl, SqL.of e3, fun t2 ob nt2 hd => ?_⟩
      exact q1 hm _ t2 (s12.trans (s3.trans (same_upd nt2))) ((s12.trans s3).free nt2) ⟨ob, upd_same, hd⟩
end
end LB
namespace LB
open PySem PySem.Spec PyProof.Rows L2
open C8 (Cal pe_c)
def cst (l : List Nat) : List Int := l.map fun d : Nat => (d : Int)
theorem nums_cst (l : List Nat) : nums l = (cst l).map V.int := by
  unfold nums cst
  rw [List.map_map]
  rfl
theorem mem_cst {l : List Nat} {k : Int} : k ∈ cst l ↔ ∃ d ∈ l, (d : Int) = k := by
  unfold cst
  rw [List.mem_map]
theorem rises_eq : ∀ {l m : List Int}, l.Pairwise (· < ·) → m.Pairwise (· < ·) → (∀ k, k ∈ l ↔ k ∈ m) → l = m
  | [], [], _, _, _ => rfl
  | [], y :: m, _, _, h => absurd ((h y).mpr List.mem_cons_self) (by simp)
  | x :: l, [], _, _, h => absurd ((h x).mp List.mem_cons_self) (by simp)
  | x :: l, y :: m, h1, h2, h => by
    obtain ⟨a1, b1⟩ := List.pairwise_cons.mp h1
    obtain ⟨a2, b2⟩ := List.pairwise_cons.mp h2
    have e : x = y := by
      rcases List.mem_cons.mp ((h x).mp List.mem_cons_self) with e | m1
      · exact e
      · rcases List.mem_cons.mp ((h y).mpr List.mem_cons_self) with e | m2
        · exact e.symm
        · have := a2 x m1
          have := a1 y m2
          omega
    subst e
    rw [rises_eq b1 b2 fun k => ?_]
    constructor
    · intro hk
      rcases List.mem_cons.mp ((h k).mp (List.mem_cons_of_mem _ hk)) with e | m1
      · have := a1 k hk
        omega
      · exact m1
    · intro hk
      rcases List.mem_cons.mp ((h k).mpr (List.mem_cons_of_mem _ hk)) with e | m1
      · have := a2 k hk
        omega
      · exact m1
theorem cst_rises {l : List Nat} (h : l.Pairwise (· < ·)) : (cst l).Pairwise (· < ·) := List.pairwise_map.mpr (h.imp fun h => by omega)
/-- what sorted(set(..)) hands back: the rising list of the members -/
theorem sorted_is {ns' : List Int} {l m : List Nat} (pw : ns'.Pairwise (· < ·)) (h : ∀ k, k ∈ ns' ↔ decide (k ∈ cst l) = true) (hm : m.Pairwise (· < ·)) (he : ∀ d, d ∈ l ↔ d ∈ m) : ns'.map V.int = nums m := by
  rw [nums_cst]
  refine congrArg (List.map V.int) (rises_eq pw (cst_rises hm) fun k => ?_)
  rw [h k, decide_eq_true_iff, mem_cst, mem_cst]
  exact ⟨fun ⟨d, a, b⟩ => ⟨d, (he d).mp a, b⟩, fun ⟨d, a, b⟩ => ⟨d, (he d).mpr a, b⟩⟩
theorem card_small {ks : List Int} {l : List Nat} {lo m : Nat} (nd : ks.Nodup) (h : ∀ k, k ∈ ks ↔ k ∈ cst l) (hb : ∀ d ∈ l, lo ≤ d ∧ d < lo + m) : ks.length ≤ m := by
  have := nd.length_le_of_subset (l₂ := (List.range m).map fun x : Nat => ((x + lo : Nat) : Int)) fun k hk => by
    obtain ⟨d, hd, e⟩ := mem_cst.mp ((h k).mp hk)
    obtain ⟨h1, h2⟩ := hb d hd
    exact List.mem_map.mpr ⟨d - lo, List.mem_range.mpr (by omega), by omega⟩
  rw [List.length_map, List.length_range] at this
  exact this
theorem flat_len {f : Nat → List Nat} {m : Nat} (hf : ∀ u, (f u).length ≤ m) : ∀ l : List Nat, (l.flatMap f).length ≤ m * l.length
  | [] => by simp
  | a :: r => by
    have := flat_len hf r
    have := hf a
    rw [List.flatMap_cons, List.length_append, List.length_cons, Nat.mul_succ]
    omega
theorem flat_take {l : List Nat} {j x : Nat} (f : Nat → List Nat) (h : l[j]? = some x) : (l.take (j + 1)).flatMap f = (l.take j).flatMap f ++ f x := by
  rw [List.take_add_one, h, List.flatMap_append]
  show _ ++ [x].flatMap f = _
  rw [List.flatMap_cons, List.flatMap_nil, List.append_nil]
theorem goodM_len {n : Nat} {ws : List Wd} (h : n ≤ 6) (u : Nat) : (goodM n ws u).length ≤ 6 :=
  Nat.le_trans (List.length_filter_le _ _) (Nat.le_trans (len_filter_range _ _) h)
theorem lev_len {n : Nat} {ws : List Wd} (h : n ≤ 6) (p : Nat) : (lev n ws p).length ≤ 64 := by
  match p with
  | 0 => exact (by decide : (1 : Nat) ≤ 64)
  | p + 1 => exact Nat.le_trans (len_filter_range _ _) (pow6 n h)
theorem opn_flat {n : Nat} {ws : List Wd} (h : n ≤ 7) (p d : Nat) : d ∈ (lev n ws p).flatMap (goodM n ws) ↔ d ∈ opn n ws p := by
  rw [mem_opn h, List.mem_flatMap]
theorem lev_flat {n : Nat} {ws : List Wd} (h : n ≤ 7) (p m : Nat) : m ∈ (lev n ws p).flatMap (fun u => (goodM n ws u).map fun d => u + 2 ^ d) ↔ m ∈ lev n ws (p + 1) := by
  rw [mem_lev h, List.mem_flatMap]
  exact ⟨fun ⟨u, hu, hm⟩ => by
    obtain ⟨d, hd, e⟩ := List.mem_map.mp hm
    exact ⟨u, hu, d, hd, e⟩, fun ⟨u, hu, d, hd, e⟩ => ⟨u, hu, List.mem_map.mpr ⟨d, hd, e⟩⟩⟩
/-- a list of rows, the i-th as f tells -/
def RowsAt (H : Hp) (ps : List V) (n : Nat) (f : Nat → List Nat) : Prop := ps.length = n ∧ ∀ (i : Nat) (v : V), ps[i]? = some v → ∃ t, v = .ref t ∧ H t = some (.tup (nums (f i)))
theorem RowsAt.same {H H' : Hp} {ps : List V} {n : Nat} {f : Nat → List Nat} (r : RowsAt H ps n f) (s : Same H H') : RowsAt H' ps n f :=
  ⟨r.1, fun i v h => let ⟨t, e, q⟩ := r.2 i v h; ⟨t, e, s _ _ q⟩⟩
theorem RowsAt.snoc {H : Hp} {ps : List V} {n : Nat} {f : Nat → List Nat} {t : Addr} (r : RowsAt H ps n f) (h : H t = some (.tup (nums (f n)))) : RowsAt H (ps ++ [.ref t]) (n + 1) f := by
  refine ⟨by rw [List.length_append, r.1]; rfl, fun i v e => ?_⟩
  by_cases hi : i < ps.length
  · rw [List.getElem?_append_left hi] at e
    exact r.2 i v e
  · have hl := (List.getElem?_eq_some_iff.mp e).1
    rw [List.length_append, List.length_singleton] at hl
    have ei : i = ps.length := by omega
    rw [List.getElem?_append_right (by omega), ei, Nat.sub_self] at e
    rw [ei, r.1]
    exact ⟨t, (Option.some.inj e).symm, h⟩
section
variable {P : Program} {w : World} {K : PySem.W.Frag} {mg : Str → Option Value} {base : Heap} {aB : Addr}
def spOpenIn (K : PySem.W.Frag) : Sp := fun vs H Q _ => ∃ (a : Addr) (n : Nat) (ws : List Wd), vs = [.int n, .ref a] ∧ Arg K H a n ws ∧ ∀ H' L ps, Same H H' → H L = none → H' L = some (.lst ps) → RowsAt H' ps n (opn n ws) → Q (.ref L) H'
theorem c_openIn (T : Txt K mg aB) (D : Df K mg "open_in" sOpenIn ["size", "words"]) (GWays : Cal P w K mg base 5 "ways_on" (spWays K) []) (GNext : Cal P w K mg base 4 "next_ones" (spNext K) []) : Cal P w K mg base 6 "open_in" (spOpenIn K) [] := by
  refine D.cal scOpenIn (fun vs H Q E h => ?_) (fun f cdv A outer s H vs Q E hr h => ?_)
  · obtain ⟨_, _, _, rfl, _⟩ := h
    rfl
  · obtain ⟨a, n, ws, rfl, g, q⟩ := h
    have hu := hu_of hr
    have n6 := g.n6
    have hn7 : n ≤ 7 := by omega
    refine ⟨_, (pss_cons (ps_asg (pe_tup (pa_cons (pe_c GWays hr (by decide) (by rfl) (pa_cons (pv 0) (pa_cons (pv 1) pa_nil))) (pa_cons (pe_lst (pa_cons pe_int pa_nil)) pa_nil))) (pg_tup rfl (pgs_cons (pg_name (i := 2) scOpenIn.nd rfl (Or.inr rfl)) (pgs_cons (pg_name (i := 3) scOpenIn.nd rfl (Or.inl rfl)) pgs_nil))))
      (pss_cons (ps_set (i := 4) scOpenIn.nd rfl (Or.inl rfl) (pe_lst pa_nil))
      (pss_cons (ps_for PassesOwn.never rfl (pi_range1 (by rfl) T.range (pa_cons (pv 0) pa_nil)) (pg_name (i := 5) scOpenIn.nd rfl (Or.inl rfl))
        (pss_cons (ps_par (i := 6) (j := 7) rfl scOpenIn.nd rfl rfl (by decide) rfl rfl (pa_cons (pe_lst pa_nil) (pa_cons (pe_lst pa_nil) pa_nil)) (by rfl))
        (pss_cons (ps_for PassesOwn.never rfl (pi_list (pv 3)) (pg_name (i := 8) scOpenIn.nd rfl (Or.inr rfl))
          (pss_cons (ps_setLc (i := 9) (own := [("deed", 10)]) (g := gName 10) rfl scOpenIn.nd rfl rfl (sw_true rfl rfl rfl (by decide +kernel)) (pi_list (pe_c GNext hr (by decide) (by rfl) (pa_cons (pv 0) (pa_cons (pv 1) (pa_cons (pv 8) pa_nil))))) (blkOk_by (own := [("deed", 10)]) (N := ["size", "words", "ways", "begun", "found", "page", "here", "later", "used", "good", "deed"]) (sc := defScope sOpenIn) (by decide +kernel)) (fun _ _ _ _ _ => (pg_name (i := 10) scOpenIn.nd rfl (Or.inl rfl))) (fun _ _ _ _ _ => (pts_one (pt_cmpR op_gt (pe_dget hu (pv 2) (pe_op op_add (pv 8) (pe_ix (r := rIxT K) ix_tup (pe_glob (v := .ref aB) (by rfl) T.mb rfl) (pv 10) (fun _ _ => rfl))) (fun _ _ => rfl)) pe_int (nomark _)))) (fun _ _ _ _ _ => (pv 10)))
          (pss_cons (ps_expr (pe_bm PySem.F.plainAttrs_list PySem.F.slot_list_extend PySem.F.type_list_extend mt_extend (pv 6) (pa_cons (pv 9) pa_nil)))
          (pss_one (ps_expr (pe_bm PySem.F.plainAttrs_list PySem.F.slot_list_extend PySem.F.type_list_extend mt_extend (pv 7) (pa_cons (pe_lc (own := [("deed", 10)]) (g := gName 10) (tt := tYes) rfl scOpenIn.nd (pi_list (pv 9)) (blkOk_by (own := [("deed", 10)]) (N := ["size", "words", "ways", "begun", "found", "page", "here", "later", "used", "good", "deed"]) (sc := defScope sOpenIn) (by decide +kernel)) (fun _ _ _ _ _ => (pg_name (i := 10) scOpenIn.nd rfl (Or.inl rfl))) (fun _ _ _ _ _ => pts_nil) (fun _ _ _ _ _ => (pe_op op_add (pv 8) (pe_ix (r := rIxT K) ix_tup (pe_glob (v := .ref aB) (by rfl) T.mb rfl) (pv 10) (fun _ _ => rfl))))) pa_nil)))))))
        (pss_cons (ps_expr (pe_bm PySem.F.plainAttrs_list PySem.F.slot_list_append PySem.F.type_list_append mt_append (pv 4) (pa_cons (pe_callTy call_tuple_of (by rfl) T.tuple (by decide +kernel) (pa_cons (pe_callB (cr_sortedSetw (w := w) rfl rfl) (by rfl) T.sorted (by decide +kernel) (pa_cons (pe_callTy (cr_setAw (w := w) rfl rfl) (by rfl) T.set (by decide +kernel) (pa_cons (pv 6) pa_nil)) pa_nil)) pa_nil)) pa_nil)))
        (pss_one (ps_set (i := 3) scOpenIn.nd rfl (Or.inl rfl) (pe_callB (cr_sortedSetw (w := w) rfl rfl) (by rfl) T.sorted (by decide +kernel) (pa_cons (pe_callTy (cr_setAw (w := w) rfl rfl) (by rfl) T.set (by decide +kernel) (pa_cons (pv 7) pa_nil)) pa_nil))))))))
      (pss_one (ps_ret (pv 4)))))), ?_⟩
    -- ways, begun
    refine ⟨_, rfl, _, rfl, a, n, ws, rfl, g, fun H1 p kvs s1 np ep hv => ⟨by show 1 ≤ sizeLine; decide, fun b nb => ⟨by show 2 ≤ sizeLine; decide, fun t nt => ?_⟩⟩⟩
    refine ⟨t, _, rfl, .inl (.inl upd_same), rfl, _, _, rfl, _, _, rfl, rfl, ?_⟩
    have nbt : b ≠ t := ne_of_none upd_same nt
    have s2 : Same H1 (upd (upd H1 b (.lst [.int 0])) t (.tup [.ref p, .ref b])) := (same_upd nb).trans (same_upd nt)
    have eb : (upd (upd H1 b (.lst [.int 0])) t (.tup [.ref p, .ref b])) b = some (.lst (nums (lev n ws 0))) := by
      rw [upd_ne nbt, upd_same]
      rfl
    generalize (upd (upd H1 b (.lst [.int 0])) t (.tup [.ref p, .ref b])) = H2 at s2 eb ⊢
    have s12 := s1.trans s2
    have ep2 := s2 _ _ ep
    refine ⟨Nat.zero_le _, fun l nl => ?_⟩
    have nbl : b ≠ l := ne_of_none eb nl
    refine ⟨_, rfl, _, rfl, by omega, by omega, ?_⟩
    rw [Int.toNat_natCast]
    refine for_range (lo := 0) (n := n) (fun i σ H3 => ∃ y5 y6 y7 y8 y9 bg ps, σ = [some (V.int n), some (.ref a), some (.ref p), some (.ref bg), some (.ref l), y5, y6, y7, y8, y9, none] ∧ Same H2 H3 ∧
        H3 bg = some (.lst (nums (lev n ws i))) ∧ H3 l = some (.lst ps) ∧ RowsAt H3 ps i (opn n ws) ∧ bg ≠ l)
      ⟨none, none, none, none, none, b, [], rfl, same_upd nl, by rw [upd_ne nbl]; exact eb, upd_same, ⟨rfl, fun i v h => by simp at h⟩, nbl⟩ ?_ ?_
    · rintro i σ H3 hi ⟨y5, y6, y7, y8, y9, bg, ps, rfl, s3, e3, el, rw3, nbgl⟩
      -- here, later
      refine ⟨Nat.zero_le _, fun h nh => ⟨Nat.zero_le _, fun m nm => ⟨_, _, rfl, ?_⟩⟩⟩
      have nhm : h ≠ m := ne_of_none upd_same nm
      have nm3 : H3 m = none := by
        rw [upd_ne nhm.symm] at nm
        exact nm
      refine ⟨_, rfl, bg, rfl, ⟨_, SqL.of (by rw [upd_ne (ne_of_none (by rw [upd_ne (ne_of_none e3 nh)]; exact e3) nm), upd_ne (ne_of_none e3 nh)]; exact e3)⟩, ?_⟩
      refine for_list (K := K) (a := bg) (xs := nums (lev n ws i)) (fun j σ H4 => ∃ y8 y9, σ = [some (V.int n), some (.ref a), some (.ref p), some (.ref bg), some (.ref l), some (.int (0 + (i : Int))), some (.ref h), some (.ref m), y8, y9, none] ∧ Same H3 H4 ∧
          H4 h = some (.lst (nums (((lev n ws i).take j).flatMap (goodM n ws)))) ∧ H4 m = some (.lst (nums (((lev n ws i).take j).flatMap fun u => (goodM n ws u).map fun d => u + 2 ^ d))))
        ⟨y8, y9, rfl, same_put (same_upd nh) nm3, by rw [upd_ne nhm, upd_same]; rfl, by rw [upd_same]; rfl⟩ (fun j σ H4 _ ⟨_, _, _, s4, _⟩ => SqL.of (s4 _ _ e3)) ?_ ?_
      · rintro j x σ H4 hj ⟨y8, y9, rfl, s4, eh, em⟩
        obtain ⟨u, hu2, rfl⟩ := nums_at hj
        have ul : u < 2 ^ n := lev_lt i u (List.mem_of_getElem? hu2)
        refine ⟨_, rfl, _, rfl, _, rfl, a, n, u, ws, rfl, g.same (s12.trans (s3.trans s4)), fun H5 L s5 nL eL => ⟨L, rfl, ⟨_, SqL.of eL⟩, fun D nD => ?_⟩⟩
        have hdl : (nextM n ws u).length ≤ 6 := Nat.le_trans (len_filter_range _ _) n6
        refine lc_list (K := K) (a := L) (xs := nums (nextM n ws u)) (fun j H6 => Same H5 H6 ∧ H6 D = some (.lst (nums (((nextM n ws u).take j).filter fun d => decide (0 < waysM n ws (u + 2 ^ d))))))
          ⟨same_upd nD, upd_same⟩ (fun i H5 _ h => h.1.seq (SqL.of eL)) ?_ ?_
        · rintro j x H6 hj ⟨s6, e6⟩
          obtain ⟨c, hb, rfl⟩ := nums_at hj
          obtain ⟨b1, b2, _⟩ := mem_nextM.mp (List.mem_of_getElem? hb)
          have ev := hv (u + 2 ^ c) (full_lt n (by omega) u ul c b1 b2)
          have ep5 : H6 p = some (.dK kvs) := s6 _ _ (s5 _ _ (s4 _ _ (s3 _ _ ep2)))
          refine ⟨rfl, _, rfl, _, rfl, _, rfl, _, _, _, _, rfl, rfl, T.bt _, atI_nat (bitsV_at c (by omega)), _, _, rfl, rfl, p, .int (waysM n ws (u + 2 ^ c) : Nat), rfl, by rw [← ev]; exact DGet.k (k := Sum.inl ((u + 2 ^ c : Nat) : Int)) ep5, _, _, rfl, rfl, _, rfl, ?_⟩
          rw [pos_dec, filter_take _ hb, nums_app]
          cases hz : decide (0 < waysM n ws (u + 2 ^ c)) with
          | true =>
            refine iteT ⟨_, rfl, _, e6, small_filter _ hdl (by decide), same_put s6 nD, ?_⟩
            rw [upd_same]
            rfl
          | false =>
            refine iteF ⟨s6, ?_⟩
            rw [e6]
            show _ = some (HO.lst (_ ++ []))
            rw [List.append_nil]
        · rintro H6 ⟨s6, e6⟩
          rw [nums_len, List.take_length] at e6
          have e7 : H6 D = some (.lst (nums (goodM n ws u))) := e6
          have s46 : Same H4 H6 := s5.trans s6
          have eh6 := s46 _ _ eh
          have em6 := s46 _ _ em
          have nDh : D ≠ h := (ne_of_none (s5 _ _ eh) nD).symm
          have nDm : D ≠ m := (ne_of_none (s5 _ _ em) nD).symm
          have gl := goodM_len (ws := ws) n6 u
          have tl : ((lev n ws i).take j).length ≤ 64 := Nat.le_trans (by rw [List.length_take]; exact Nat.min_le_right _ _) (lev_len n6 i)
          have hl := flat_len (f := goodM n ws) (m := 6) (goodM_len n6) ((lev n ws i).take j)
          have ml := flat_len (f := fun u => (goodM n ws u).map fun d => u + 2 ^ d) (m := 6) (fun u => by rw [List.length_map]; exact goodM_len n6 u) ((lev n ws i).take j)
          -- here.extend(good)
          refine ⟨_, rfl, .inl ⟨rfl, _, SqL.of eh6⟩, _, rfl, h, D, _, _, rfl, rfl, eh6, e7, ?_, ?_⟩
          · rw [nums_len, nums_len]
            exact Nat.le_of_lt (small1000 (by omega))
          have e8 : (upd H6 h (.lst (nums (((lev n ws i).take j).flatMap (goodM n ws)) ++ nums (goodM n ws u)))) D = some (.lst (nums (goodM n ws u))) := by
            rw [upd_ne nDh]
            exact e7
          have e9 : (upd H6 h (.lst (nums (((lev n ws i).take j).flatMap (goodM n ws)) ++ nums (goodM n ws u)))) m = some (.lst (nums (((lev n ws i).take j).flatMap fun u => (goodM n ws u).map fun d => u + 2 ^ d))) := by
            rw [upd_ne nhm.symm]
            exact em6
          have e10 : (upd H6 h (.lst (nums (((lev n ws i).take j).flatMap (goodM n ws)) ++ nums (goodM n ws u)))) h = some (.lst (nums (((lev n ws i).take (j + 1)).flatMap (goodM n ws)))) := by
            rw [upd_same, flat_take _ hu2, nums_app]
          have s7 : Same H3 (upd H6 h (.lst (nums (((lev n ws i).take j).flatMap (goodM n ws)) ++ nums (goodM n ws u)))) := same_put (s4.trans s46) nh
          generalize (upd H6 h (.lst (nums (((lev n ws i).take j).flatMap (goodM n ws)) ++ nums (goodM n ws u)))) = H7 at s7 e8 e9 e10 ⊢
          -- later.extend(..)
          refine ⟨_, rfl, .inl ⟨rfl, _, SqL.of e9⟩, _, rfl, D, rfl, ⟨_, SqL.of e8⟩, fun D2 nD2 => ?_⟩
          refine lc_list (K := K) (a := D) (xs := nums (goodM n ws u)) (fun j H8 => Same H7 H8 ∧ H8 D2 = some (.lst (nums (((goodM n ws u).take j).map fun d => u + 2 ^ d))))
            ⟨same_upd nD2, upd_same⟩ (fun i H5 _ h => h.1.seq (SqL.of e8)) ?_ ?_
          · rintro k x H8 hk ⟨s8, e11⟩
            obtain ⟨c, hc, rfl⟩ := nums_at hk
            obtain ⟨b1, b2, _⟩ := goodM_lt hn7 ul (List.mem_of_getElem? hc)
            refine ⟨rfl, ?_⟩
            refine tyes_i ?_
            refine ⟨_, rfl, _, rfl, _, _, _, _, rfl, rfl, T.bt _, atI_nat (bitsV_at c (by omega)), _, _, rfl, rfl, _, e11, ?_, same_put s8 nD2, ?_⟩
            · rw [nums_len, List.length_map, List.length_take]
              exact small1000 (by omega)
            · rw [upd_same, List.take_add_one, hc, List.map_append, nums_app]
              rfl
          · rintro H8 ⟨s8, e11⟩
            rw [nums_len, List.take_length] at e11
            have nD2m : D2 ≠ m := (ne_of_none e9 nD2).symm
            refine ⟨m, D2, _, _, rfl, rfl, s8 _ _ e9, e11, ?_, ?_⟩
            · rw [nums_len, nums_len, List.length_map]
              exact Nat.le_of_lt (small1000 (by omega))
            refine ⟨some (.int (u : Int)), some (.ref D), rfl, same_put (s7.trans s8) nm3, ?_, ?_⟩
            · rw [upd_ne nhm]
              exact s8 _ _ e10
            · rw [upd_same, flat_take _ hu2, nums_app]
      · rintro σ H4 ⟨y8, y9, rfl, s4, eh, em⟩
        rw [nums_len, List.take_length] at eh em
        have hl := flat_len (f := goodM n ws) (m := 6) (goodM_len n6) (lev n ws i)
        have ml := flat_len (f := fun u => (goodM n ws u).map fun d => u + 2 ^ d) (m := 6) (fun u => by rw [List.length_map]; exact goodM_len n6 u) (lev n ws i)
        have ll := lev_len (ws := ws) n6 i
        have el4 := s4 _ _ el
        -- found.append(tuple(sorted(set(here))))
        refine ⟨_, rfl, .inl ⟨rfl, _, SqL.of el4⟩, _, rfl, h, cst ((lev n ws i).flatMap (goodM n ws)), rfl, .inl (SqL.of (by rw [← nums_cst]; exact eh)), ?_, fun sp ks nsp ndk mk => ?_⟩
        · unfold cst
          rw [List.length_map]
          omega
        have k64 : ks.length ≤ 6 := card_small (lo := 0) (m := 6) ndk mk fun d hd => by
          have := List.mem_range.mp (List.mem_filter.mp ((opn_flat hn7 i d).mp hd)).1
          omega
        refine ⟨sp, _, _, rfl, upd_same, by omega, fun ns' qd pw mem _ nqd => ⟨qd, _, rfl, .inl ⟨SqL.of upd_same, fun tt ntt => ?_⟩⟩⟩
        have ens : ns'.map V.int = nums (opn n ws i) := sorted_is pw mem (opn_rises n ws i) (opn_flat hn7 i)
        rw [ens] at ntt ⊢
        have s5 : Same H4 (upd (upd (upd H4 sp (SetO w sp (fun j => decide (j ∈ cst ((lev n ws i).flatMap (goodM n ws)))) ks.length)) qd (.lst (nums (opn n ws i)))) tt (.tup (nums (opn n ws i)))) :=
          ((same_upd nsp).trans (same_upd nqd)).trans (same_upd ntt)
        have ett : (upd (upd (upd H4 sp (SetO w sp (fun j => decide (j ∈ cst ((lev n ws i).flatMap (goodM n ws)))) ks.length)) qd (.lst (nums (opn n ws i)))) tt (.tup (nums (opn n ws i)))) tt = some (.tup (nums (opn n ws i))) := upd_same
        generalize (upd (upd (upd H4 sp (SetO w sp (fun j => decide (j ∈ cst ((lev n ws i).flatMap (goodM n ws)))) ks.length)) qd (.lst (nums (opn n ws i)))) tt (.tup (nums (opn n ws i)))) = H5 at s5 ett ⊢
        have el5 := s5 _ _ el4
        refine ⟨l, _, _, rfl, rfl, el5, by rw [rw3.1]; exact small1000 (by omega), ?_⟩
        have nml : m ≠ l := (ne_of_none el nm3).symm
        have em5 : (upd H5 l (.lst (ps ++ [.ref tt]))) m = some (.lst (nums ((lev n ws i).flatMap fun u => (goodM n ws u).map fun d => u + 2 ^ d))) := by
          rw [upd_ne nml]
          exact s5 _ _ em
        have ntl : tt ≠ l := ne_of ett el5 (by intro z; cases z)
        have rw5 : RowsAt (upd H5 l (.lst (ps ++ [.ref tt]))) (ps ++ [.ref tt]) (i + 1) (opn n ws) := by
          refine RowsAt.snoc ⟨rw3.1, fun k v e => ?_⟩ (by rw [upd_ne ntl]; exact ett)
          obtain ⟨t3, e1, e2⟩ := rw3.2 k v e
          refine ⟨t3, e1, ?_⟩
          rw [upd_ne (ne_of e2 el (by intro z; cases z))]
          exact s5 _ _ (s4 _ _ e2)
        have s6 : Same H2 (upd H5 l (.lst (ps ++ [.ref tt]))) := same_put (s3.trans (s4.trans s5)) nl
        have el6 : (upd H5 l (.lst (ps ++ [.ref tt]))) l = some (.lst (ps ++ [.ref tt])) := upd_same
        generalize (upd H5 l (.lst (ps ++ [.ref tt]))) = H6 at em5 rw5 s6 el6 ⊢
        -- begun = sorted(set(later))
        refine ⟨_, rfl, m, cst ((lev n ws i).flatMap fun u => (goodM n ws u).map fun d => u + 2 ^ d), rfl, .inl (SqL.of (by rw [← nums_cst]; exact em5)), ?_, fun sp2 ks2 nsp2 ndk2 mk2 => ?_⟩
        · unfold cst
          rw [List.length_map]
          omega
        have k64b : ks2.length ≤ 63 := card_small (lo := 1) (m := 63) ndk2 mk2 fun d hd => by
          obtain ⟨u, hu3, hm3⟩ := List.mem_flatMap.mp hd
          obtain ⟨c, hc, rfl⟩ := List.mem_map.mp hm3
          have h1 := (goodM_lt hn7 (lev_lt i u hu3) hc).2.2
          have h2 := pow6 n n6
          have h3 : 1 ≤ 2 ^ c := Nat.one_le_two_pow
          omega
        refine ⟨sp2, _, _, rfl, upd_same, by omega, fun ns2 q2 pw2 mem2 _ nq2 => ?_⟩
        have ens2 : ns2.map V.int = nums (lev n ws (i + 1)) := sorted_is pw2 mem2 (lev_rises n ws (i + 1)) (lev_flat hn7 i)
        rw [ens2]
        have s7 : Same H6 (upd (upd H6 sp2 (SetO w sp2 (fun j => decide (j ∈ cst ((lev n ws i).flatMap fun u => (goodM n ws u).map fun d => u + 2 ^ d))) ks2.length)) q2 (.lst (nums (lev n ws (i + 1))))) := (same_upd nsp2).trans (same_upd nq2)
        have nq2l : q2 ≠ l := (ne_of_none ((same_upd nsp2) _ _ el6) nq2).symm
        exact ⟨some (.int (0 + (i : Int))), some (.ref h), some (.ref m), y8, y9, q2, ps ++ [.ref tt], rfl, s6.trans s7, upd_same, s7 _ _ el6, rw5.same s7, nq2l⟩
    · rintro σ H3 ⟨y5, y6, y7, y8, y9, bg, ps, rfl, s3, e3, el, rw3, _⟩
      exact ⟨_, rfl, q H3 l ps (s12.trans s3) (s12.free nl) el rw3⟩
end
end LB
namespace LB
open PySem PySem.Spec PyProof.Rows L2
open C8 (Cal pe_c)
/-- what is told of a page with such open deeds -/
def setV (l : List Nat) : V := match l with
  | [d] => .int (d : Int)
  | _ => .non
def setVs (n : Nat) (ws : List Wd) : List V := (List.range n).map fun p => setV (opn n ws p)
section
variable {P : Program} {w : World} {K : PySem.W.Frag} {mg : Str → Option Value} {base : Heap} {aB : Addr}
/-! ### open_pages, settled_pages -/
def spOpens : Sp := fun vs H Q _ => ∃ (a : Addr) (n : Nat) (ws : List Wd), vs = [.int n, .ref a] ∧ ArgT H a n ws ∧ ∀ H' L ps, Same H H' → H L = none → H' L = some (.lst ps) → RowsAt H' ps n (opn n ws) → Q (.ref L) H'
theorem c_opens (T : Txt K mg aB) (D : Df K mg "open_pages" sOpens ["size", "words"]) (GNeed : Cal P w K mg base 4 "need_told" spNeed []) (GOpenIn : Cal P w K mg base 6 "open_in" (spOpenIn K) []) : Cal P w K mg base 7 "open_pages" spOpens [] := by
  refine D.cal scOpens (fun vs H Q E h => ?_) (fun f cdv A outer s H vs Q E hr h => ?_)
  · obtain ⟨_, _, _, rfl, _⟩ := h
    rfl
  · obtain ⟨a, n, ws, rfl, g, q⟩ := h
    refine ⟨_, (pss_cons (ps_expr (pe_c GNeed hr (by decide) (by rfl) (pa_cons (pv 0) (pa_cons (pv 1) pa_nil))))
      (pss_one (ps_ret (pe_c GOpenIn hr (by decide) (by rfl) (pa_cons (pv 0) (pa_cons (pv 1) pa_nil)))))), ?_⟩
    refine ⟨_, rfl, _, rfl, a, n, ws, rfl, g, fun H1 s1 => ?_⟩
    exact ⟨_, rfl, _, rfl, a, n, ws, rfl, (g.same s1).arg, fun H2 L ps s2 nL eL r => q H2 L ps (s1.trans s2) (s1.free nL) eL r⟩
def spSettled : Sp := fun vs H Q _ => ∃ (a : Addr) (n : Nat) (ws : List Wd), vs = [.int n, .ref a] ∧ ArgT H a n ws ∧ ∀ H' t, Same H H' → H t = none → H' t = some (.tup (setVs n ws)) → Q (.ref t) H'
theorem setV_one {l : List Nat} (h : (l.length : Int) = 1) : ∃ d, l = [d] := by
  match l, h with
  | [d], _ => exact ⟨d, rfl⟩
  | [], h => exact absurd h (by decide)
  | _ :: _ :: r, h =>
    rw [List.length_cons, List.length_cons] at h
    omega
theorem setV_not {l : List Nat} (h : ¬ (l.length : Int) = 1) : setV l = .non := by
  match l, h with
  | [d], h => exact absurd rfl h
  | [], _ => rfl
  | _ :: _ :: _, _ => rfl
theorem c_settled (T : Txt K mg aB) (D : Df K mg "settled_pages" sSettled ["size", "words"]) (GNeed : Cal P w K mg base 4 "need_told" spNeed []) (GOpenIn : Cal P w K mg base 6 "open_in" (spOpenIn K) []) : Cal P w K mg base 7 "settled_pages" spSettled [] := by
  refine D.cal scSettled (fun vs H Q E h => ?_) (fun f cdv A outer s H vs Q E hr h => ?_)
  · obtain ⟨_, _, _, rfl, _⟩ := h
    rfl
  · obtain ⟨a, n, ws, rfl, g, q⟩ := h
    have n6 := g.n6
    refine ⟨_, (pss_cons (ps_expr (pe_c GNeed hr (by decide) (by rfl) (pa_cons (pv 0) (pa_cons (pv 1) pa_nil))))
      (pss_one (ps_ret (pe_callTy call_tuple_of (by rfl) T.tuple (by decide +kernel) (pa_cons (pe_lc (own := [("deeds", 2)]) (g := gName 2) (tt := tYes) rfl scSettled.nd (pi_list (pe_c GOpenIn hr (by decide) (by rfl) (pa_cons (pv 0) (pa_cons (pv 1) pa_nil)))) (blkOk_by (own := [("deeds", 2)]) (N := ["size", "words", "deeds"]) (sc := defScope sSettled) (by decide +kernel)) (fun _ _ _ _ _ => (pg_name (i := 2) scSettled.nd rfl (Or.inl rfl))) (fun _ _ _ _ _ => pts_nil) (fun _ _ _ _ _ => (pe_ifExp (pt_cmpR op_eq (pe_callB (r := rLenS K) cr_len (by rfl) T.len PySem.boot_len (pa_cons (pv 2) pa_nil)) pe_int (nomark _)) (pe_ix (r := rIxT K) ix_tup (pv 2) pe_int (fun _ _ => rfl)) pe_non))) pa_nil))))), ?_⟩
    refine ⟨_, rfl, _, rfl, a, n, ws, rfl, g, fun H1 s1 => ?_⟩
    refine ⟨_, rfl, _, rfl, a, n, ws, rfl, (g.same s1).arg, fun H2 L ps s2 nL eL r => ⟨L, rfl, ⟨_, SqL.of eL⟩, fun D nD => ?_⟩⟩
    refine lc_list (K := K) (a := L) (xs := ps) (fun j H5 => Same H2 H5 ∧ H5 D = some (.lst ((List.range j).map fun p => setV (opn n ws p)))) ⟨same_upd nD, upd_same⟩ (fun i H5 _ h => h.1.seq (SqL.of eL)) ?_ ?_
    · rintro j x H5 hj ⟨s5, e5⟩
      obtain ⟨t, rfl, ht⟩ := (r.same s5).2 j x hj
      have hjn : j < n := by
        have := (List.getElem?_eq_some_iff.mp hj).1
        have := r.1
        omega
      refine ⟨rfl, ?_⟩
      refine tyes_i ?_
      refine ⟨_, rfl, t, _, rfl, .inr (.inl (.inl ht)), rfl, _, rfl, ?_⟩
      rw [nums_len]
      have fin : ∀ v, setV (opn n ws j) = v → ∃ acc, H5 D = some (.lst acc) ∧ acc.length < sizeLine ∧ Same H2 (upd H5 D (.lst (acc ++ [v]))) ∧ upd H5 D (.lst (acc ++ [v])) D = some (.lst ((List.range (j + 1)).map fun p => setV (opn n ws p))) := fun v e => by
        refine ⟨_, e5, ?_, same_put s5 nD, ?_⟩
        · rw [List.length_map, List.length_range]
          exact small1000 (by omega)
        · rw [upd_same, List.range_succ, List.map_append, ← e]
          rfl
      refine ite2 (fun e => ?_) (fun e => ?_)
      · obtain ⟨d, ed⟩ := setV_one (V.int.inj (of_decide_eq_true e))
        rw [ed] at ht
        exact ⟨_, rfl, t, _, (0 : Int), _, rfl, rfl, .inl (.inl ht), atI_nat (j := 0) rfl, fin _ (by rw [ed]; rfl)⟩
      · exact fin _ (setV_not fun z => e (decide_eq_true (by rw [z])))
    · rintro H5 ⟨s5, e5⟩
      rw [r.1] at e5
      exact ⟨D, _, rfl, .inl ⟨SqL.of e5, fun t nt => q _ t (s1.trans (s2.trans (s5.trans (same_upd nt)))) ((s1.trans (s2.trans s5)).free nt) upd_same⟩⟩
/-! ### is_so, order_fits -/
structure Ord (n : Nat) (o : List Nat) : Prop where
  ln : o.length = n
  nd : o.Nodup
  lt : ∀ d ∈ o, d < n
def spSo : Sp := fun vs H Q _ => ∃ (t : Addr) (v : V) (n : Nat) (o : List Nat) (wd : Wd), vs = [.ref t, v] ∧ OrdAt H t o ∧ Ord n o ∧ WdAt H v wd ∧ wd.Ok n ∧ Q (.bl (soB o wd)) H
theorem cst_at {l : List Nat} {i d : Nat} (h : l[i]? = some d) : (cst l)[i]? = some (d : Int) := by
  unfold cst
  rw [List.getElem?_map, h]
  rfl
theorem cst_no {l : List Nat} {d : Nat} : ∀ m, m < l.idxOf d → (cst l)[m]? ≠ some (d : Int) := by
  intro m hm e
  unfold cst at e
  rw [List.getElem?_map] at e
  cases h : l[m]? with
  | none =>
    rw [h] at e
    cases e
  | some c =>
    have ec : c = d := Int.ofNat.inj (Option.some.inj (show some ((c : Nat) : Int) = some ((d : Nat) : Int) by rw [h] at e; exact e))
    subst ec
    obtain ⟨h1, h2⟩ := List.getElem?_eq_some_iff.mp h
    have := List.not_of_lt_findIdx (p := (· == c)) (xs := l) hm
    simp only [h2, beq_self_eq_true] at this
    cases this
theorem c_so (T : Txt K mg aB) (D : Df K mg "is_so" sSo ["order", "told"]) : Cal P w K mg base 1 "is_so" spSo [] := by
  refine D.cal scSo (fun vs H Q E h => ?_) (fun f cdv A outer s H vs Q E hr h => ?_)
  · obtain ⟨_, _, _, _, _, rfl, _⟩ := h
    rfl
  · obtain ⟨t, v, n, o, wd, rfl, ho, hor, ⟨p, rfl, hp⟩, ok, q⟩ := h
    refine ⟨_, (pss_cons (ps_asg (pv 1) (pg_tup rfl (pgs_cons (pg_name (i := 2) scSo.nd rfl (Or.inl rfl)) (pgs_cons (pg_name (i := 3) scSo.nd rfl (Or.inl rfl)) (pgs_cons (pg_name (i := 4) scSo.nd rfl (Or.inl rfl)) pgs_nil)))))
      (pss_cons (ps_if (pt_cmpR op_eq (pv 2) pe_str (nomark _)) (pss_one (ps_ret (pe_cmpR op_lt (pe_bmT PySem.F.plainAttrs_tuple PySem.F.slot_tuple_index PySem.F.type_tuple_index mt_indexI (pv 0) (pa_cons (pv 3) pa_nil)) (pe_bmT PySem.F.plainAttrs_tuple PySem.F.slot_tuple_index PySem.F.type_tuple_index mt_indexI (pv 0) (pa_cons (pv 4) pa_nil)) (nomark _)))) pss_nil)
      (pss_one (ps_ret (pe_cmpR op_eq (pe_cmpR op_eq (pe_ix ix_tup (pv 0) (pv 4) (fun _ _ => rfl)) (pv 3) (nomark _)) (pe_cmpR op_eq (pv 2) pe_str (nomark _)) (nomark _)))))), ?_⟩
    refine ⟨_, rfl, p, _, rfl, .inl (.inl hp), rfl, _, _, rfl, _, _, rfl, _, _, rfl, rfl, ?_⟩
    have sq := ho.sq (K := K)
    have i1 := at_idx (mem_of_full hor.nd hor.ln hor.lt ok.h1)
    have i2 := at_idx (mem_of_full hor.nd hor.ln hor.lt ok.h2)
    rw [nums_cst] at sq
    obtain ⟨ob, hob, hdn⟩ := id ho
    obtain ⟨k, one, oth⟩ := wd
    cases k with
    | kAhd =>
      refine ⟨_, rfl, rfl, _, rfl, iteE (kw_t .kAhd) ?_⟩
      refine ⟨_, rfl, ⟨t, ob, _, rfl, hob, hdn⟩, _, rfl, t, cst o, (one : Int), o.idxOf one, rfl, rfl, sq, cst_at i1, cst_no, ?_⟩
      refine ⟨_, rfl, ⟨t, ob, _, rfl, hob, hdn⟩, _, rfl, t, cst o, (oth : Int), o.idxOf oth, rfl, rfl, sq, cst_at i2, cst_no, ?_⟩
      refine ⟨_, _, rfl, rfl, ?_⟩
      have e : decide (((o.idxOf one : Nat) : Int) < ((o.idxOf oth : Nat) : Int)) = soB o ⟨.kAhd, one, oth⟩ := by
        show _ = decide (o.idxOf one < o.idxOf oth)
        rw [Bool.eq_iff_iff, decide_eq_true_iff, decide_eq_true_iff]
        omega
      rw [← e] at q
      exact q
    | kAt =>
      refine ⟨_, rfl, rfl, _, rfl, iteN (kw_f (k := .kAt) (k' := .kAhd) (by decide)) ?_⟩
      obtain ⟨d, hd⟩ : ∃ d, o[oth]? = some d := ⟨_, List.getElem?_eq_getElem (by have := ok.h2; have := hor.ln; simp only at *; omega)⟩
      refine ⟨_, rfl, _, rfl, t, _, (oth : Int), _, rfl, rfl, sq, atI_nat (by rw [List.getElem?_map, cst_at hd]; rfl), _, rfl, rfl, _, rfl, rfl, rfl, ?_⟩
      have e : decide (V.bl (decide (V.int (d : Int) = V.int (one : Int))) = V.bl (decide (V.str (kW .kAt) = V.str "at"))) = soB o ⟨.kAt, one, oth⟩ := by
        rw [show decide (V.str (kW .kAt) = V.str "at") = true from kw_t .kAt, nat_dec]
        unfold soB
        show _ = (o[oth]? == some one)
        rw [hd, Bool.eq_iff_iff, decide_eq_true_iff, V.bl.injEq, beq_iff_eq, beq_iff_eq, Option.some.injEq]
      rw [← e] at q
      exact q
    | kNot =>
      refine ⟨_, rfl, rfl, _, rfl, iteN (kw_f (k := .kNot) (k' := .kAhd) (by decide)) ?_⟩
      obtain ⟨d, hd⟩ : ∃ d, o[oth]? = some d := ⟨_, List.getElem?_eq_getElem (by have := ok.h2; have := hor.ln; simp only at *; omega)⟩
      refine ⟨_, rfl, _, rfl, t, _, (oth : Int), _, rfl, rfl, sq, atI_nat (by rw [List.getElem?_map, cst_at hd]; rfl), _, rfl, rfl, _, rfl, rfl, rfl, ?_⟩
      have e : decide (V.bl (decide (V.int (d : Int) = V.int (one : Int))) = V.bl (decide (V.str (kW .kNot) = V.str "at"))) = soB o ⟨.kNot, one, oth⟩ := by
        rw [show decide (V.str (kW .kNot) = V.str "at") = false from kw_f (k := .kNot) (k' := .kAt) (by decide), nat_dec]
        unfold soB
        show _ = !(o[oth]? == some one)
        rw [hd, Bool.eq_iff_iff, decide_eq_true_iff, V.bl.injEq, beq_eq_false_iff_ne, Bool.not_eq_true', beq_eq_false_iff_ne, ne_eq, ne_eq, Option.some.injEq]
      rw [← e] at q
      exact q
def spFits : Sp := fun vs H Q _ => ∃ (a t : Addr) (n : Nat) (ws : List Wd) (o : List Nat), vs = [.int n, .ref a, .ref t] ∧ ArgT H a n ws ∧ OrdAt H t o ∧ Ord n o ∧ ∀ H', Same H H' → Q (.bl (ws.all (soB o))) H'
theorem all_bl (bs : List Bool) : bs.all id = bs.all (fun b => b) := rfl
theorem c_fits (T : Txt K mg aB) (D : Df K mg "order_fits" sFits ["size", "words", "thing"]) (GNeed : Cal P w K mg base 4 "need_told" spNeed []) (GFrom : Cal P w K mg base 2 "is_from" spFrom []) (GSo : Cal P w K mg base 1 "is_so" spSo []) : Cal P w K mg base 5 "order_fits" spFits [] := by
  refine D.cal scFits (fun vs H Q E h => ?_) (fun f cdv A outer s H vs Q E hr h => ?_)
  · obtain ⟨_, _, _, _, _, rfl, _⟩ := h
    rfl
  · obtain ⟨a, t, n, ws, o, rfl, g, ho, hor, q⟩ := h
    have n6 := g.n6
    refine ⟨_, (pss_cons (ps_expr (pe_c GNeed hr (by decide) (by rfl) (pa_cons (pv 0) (pa_cons (pv 1) pa_nil))))
      (pss_cons (ps_if (PW.pt (pw_or (pt_not (pt_val (pe_callB call_isi (by rfl) T.isi (by decide +kernel) (pa_cons (pv 2) (pa_cons (pe_bltn (v := .ty "tuple") (by rfl) T.tuple (by decide +kernel) rfl) pa_nil))))) (pw_or (pt_cmpR op_ne (pe_callB call_len_seq (by rfl) T.len PySem.boot_len (pa_cons (pv 2) pa_nil)) (pv 0) (nomark _)) (pw_or1 (pt_not (pt_val (pe_callB (cr_all rfl) (by rfl) T.all (by decide +kernel) (pa_cons (pe_lc (own := [("one", 3)]) (g := gName 3) (tt := tYes) rfl scFits.nd (pi_tup (pv 2)) (blkOk_by (own := [("one", 3)]) (N := ["size", "words", "thing", "one", "told"]) (sc := defScope sFits) (by decide +kernel)) (fun _ _ _ _ _ => (pg_name (i := 3) scFits.nd rfl (Or.inl rfl))) (fun _ _ _ _ _ => pts_nil) (fun _ _ _ _ _ => (pe_c GFrom hr (by decide) (by rfl) (pa_cons (pv 3) (pa_cons pe_int (pa_cons (pe_op op_sub (pv 0) pe_int) pa_nil)))))) pa_nil)))))))) (pss_one (ps_ret pe_bl)) pss_nil)
      (pss_one (ps_ret (pe_and (pe_cmpR op_eq (pe_callB (cr_lenSetw (w := w) rfl) (by rfl) T.len PySem.boot_len (pa_cons (pe_callTy (cr_setAw (w := w) rfl rfl) (by rfl) T.set (by decide +kernel) (pa_cons (pv 2) pa_nil)) pa_nil)) (pv 0) (nomark _)) (pe_one (pe_callB (cr_all rfl) (by rfl) T.all (by decide +kernel) (pa_cons (pe_lc (own := [("told", 4)]) (g := gName 4) (tt := tYes) rfl scFits.nd (pi_tup (pv 1)) (blkOk_by (own := [("told", 4)]) (N := ["size", "words", "thing", "one", "told"]) (sc := defScope sFits) (by decide +kernel)) (fun _ _ _ _ _ => (pg_name (i := 4) scFits.nd rfl (Or.inl rfl))) (fun _ _ _ _ _ => pts_nil) (fun _ _ _ _ _ => (pe_c GSo hr (by decide) (by rfl) (pa_cons (pv 2) (pa_cons (pv 4) pa_nil))))) pa_nil)))))))), ?_⟩
    refine ⟨_, rfl, _, rfl, a, n, ws, rfl, g, fun H1 s1 => ?_⟩
    obtain ⟨ob, hob, hdn⟩ := ho.same s1
    have sq1 : SqT K H1 t (nums o) := (ho.same s1).sq
    refine ⟨_, rfl, .ref t, .ty "tuple", _, _, true, rfl, .ty "tuple", .fTuple hob, kit_ty (by decide +kernel), true, rfl, iteF ?_⟩
    refine ⟨_, rfl, t, _, rfl, .inr sq1, _, rfl, rfl, _, rfl, iteN ?_ ?_⟩
    · rw [nums_len, hor.ln, decide_eq_true rfl]
      rfl
    refine ⟨_, rfl, t, rfl, ⟨_, sq1⟩, fun L nL => ?_⟩
    refine lc_tup (K := K) (a := t) (xs := nums o) (fun i H5 => Same H1 H5 ∧ H5 L = some (.lst ((List.replicate i true).map V.bl))) ⟨same_upd nL, upd_same⟩ (fun i H5 _ h => same_tup h.1 sq1) ?_ ?_
    · rintro j x H5 hj ⟨s5, e5⟩
      obtain ⟨d, hd, rfl⟩ := nums_at hj
      have hdn := hor.lt d (List.mem_of_getElem? hd)
      have hj2 := (List.getElem?_eq_some_iff.mp hd).1
      have hl := hor.ln
      refine ⟨rfl, ?_⟩
      refine tyes_i ?_
      refine ⟨_, rfl, _, rfl, _, _, rfl, rfl, _, _, _, rfl, _, e5, ?_, same_put s5 nL, ?_⟩
      · rw [List.length_map, List.length_replicate]
        exact small1000 (by omega)
      · rw [upd_same, decide_eq_true (show (0 : Int) ≤ (d : Int) ∧ (d : Int) ≤ (n : Int) - 1 by omega), List.replicate_succ', List.map_append]
        rfl
    · rintro H5 ⟨s5, e5⟩
      refine ⟨L, _, rfl, SqL.of e5, _, rfl, ?_⟩
      rw [show (List.replicate (nums o).length true).all id = true from List.all_eq_true.mpr fun b hb => List.eq_of_mem_replicate hb]
      refine iteF ?_
      -- len(set(thing)) == size
      have sq5 := same_tup s5 sq1
      rw [nums_cst] at sq5
      refine ⟨_, rfl, t, cst o, rfl, .inr sq5, ?_, fun sp ks nsp ndk mk => ?_⟩
      · unfold cst
        rw [List.length_map, hor.ln]
        omega
      have ec : (cst o).Nodup := List.pairwise_map.mpr (hor.nd.imp fun h e => h (by omega))
      have ekl : ks.length = n := by
        rw [((List.perm_ext_iff_of_nodup ndk ec).mpr mk).length_eq]
        unfold cst
        rw [List.length_map, hor.ln]
      refine ⟨sp, _, _, rfl, upd_same, by omega, _, rfl, rfl, _, rfl, iteE (decide_eq_true (by rw [ekl])) ?_⟩
      have s6 : Same H1 (upd H5 sp (SetO w sp (fun j => decide (j ∈ cst o)) ks.length)) := s5.trans (same_upd nsp)
      generalize (upd H5 sp (SetO w sp (fun j => decide (j ∈ cst o)) ks.length)) = H6 at s6 ⊢
      obtain ⟨⟨xs, hx, hw⟩, l8, ok, _, _⟩ := g.same (s1.trans s6)
      refine ⟨_, rfl, a, rfl, ⟨_, .inl (.inl hx)⟩, fun L2 nL2 => ?_⟩
      refine lc_tup (K := K) (a := a) (xs := xs) (fun i H7 => Same H6 H7 ∧ H7 L2 = some (.lst (((ws.take i).map (soB o)).map V.bl))) ⟨same_upd nL2, upd_same⟩ (fun i H5 _ h => .inl (.inl (h.1 _ _ hx))) ?_ ?_
      · rintro j x H7 hj ⟨s7, e7⟩
        obtain ⟨wd, hwj, hwd⟩ := paired_at (hw.same s7) hj
        have hj2 := (List.getElem?_eq_some_iff.mp hwj).1
        refine ⟨rfl, ?_⟩
        refine tyes_i ?_
        refine ⟨_, rfl, _, rfl, t, x, n, o, wd, rfl, ho.same (s1.trans (s6.trans s7)), hor, hwd, ok wd (List.mem_of_getElem? hwj), _, e7, ?_, same_put s7 nL2, ?_⟩
        · rw [List.length_map, List.length_map, List.length_take]
          exact small1000 (by omega)
        · rw [upd_same, List.take_add_one, hwj, List.map_append, List.map_append]
          rfl
      · rintro H7 ⟨s7, e7⟩
        rw [hw.len, List.take_length] at e7
        refine ⟨L2, _, rfl, SqL.of e7, ?_⟩
        have := q H7 (s1.trans (s6.trans s7))
        rw [← show (ws.map (soB o)).all id = ws.all (soB o) by rw [List.all_map]; rfl] at this
        exact this
end
end LB
namespace LB
/-! ### lots of places -/
def lotsM : Nat → List (List Nat)
  | 0 => [[]]
  | m + 1 => lotsM m ++ (lotsM m).map fun l => l ++ [m]
theorem lotsM_len : ∀ m, (lotsM m).length = 2 ^ m
  | 0 => rfl
  | m + 1 => by
    show (lotsM m ++ (lotsM m).map fun l => l ++ [m]).length = _
    rw [List.length_append, List.length_map, lotsM_len m, Nat.pow_succ]
    omega
theorem mem_lotsM : ∀ {m : Nat} {l : List Nat}, l ∈ lotsM m ↔ l.Pairwise (· < ·) ∧ ∀ x ∈ l, x < m
  | 0, l => by
    show l ∈ [[]] ↔ _
    rw [List.mem_singleton]
    constructor
    · rintro rfl
      exact ⟨List.Pairwise.nil, fun x h => by cases h⟩
    · rintro ⟨_, h⟩
      match l, h with
      | [], _ => rfl
      | x :: r, h => exact absurd (h x List.mem_cons_self) (Nat.not_lt_zero _)
  | m + 1, l => by
    show l ∈ lotsM m ++ (lotsM m).map (fun l => l ++ [m]) ↔ _
    rw [List.mem_append, List.mem_map]
    constructor
    · rintro (h | ⟨r, h, rfl⟩)
      · obtain ⟨a, b⟩ := mem_lotsM.mp h
        exact ⟨a, fun x hx => Nat.lt_succ_of_lt (b x hx)⟩
      · obtain ⟨a, b⟩ := mem_lotsM.mp h
        refine ⟨List.pairwise_append.mpr ⟨a, List.pairwise_singleton _ _, fun x hx y hy => ?_⟩, fun x hx => ?_⟩
        · rw [List.mem_singleton.mp hy]
          exact b x hx
        · rcases List.mem_append.mp hx with h | h
          · exact Nat.lt_succ_of_lt (b x h)
          · rw [List.mem_singleton.mp h]
            exact Nat.lt_succ_self m
    · rintro ⟨a, b⟩
      by_cases hm : m ∈ l
      · refine .inr ⟨l.dropLast, ?_, ?_⟩
        · have hne : l ≠ [] := fun e => by
            rw [e] at hm
            cases hm
          have e := List.dropLast_concat_getLast hne
          have hp : (l.dropLast ++ [l.getLast hne]).Pairwise (· < ·) := by
            rw [e]
            exact a
          obtain ⟨p1, _, p3⟩ := List.pairwise_append.mp hp
          refine mem_lotsM.mpr ⟨p1, fun x hx => ?_⟩
          have h1 := p3 x hx _ (List.mem_singleton.mpr rfl)
          have h2 := b _ (List.getLast_mem hne)
          omega
        · have hne : l ≠ [] := fun e => by
            rw [e] at hm
            cases hm
          have e := List.dropLast_concat_getLast hne
          have hp : (l.dropLast ++ [l.getLast hne]).Pairwise (· < ·) := by
            rw [e]
            exact a
          obtain ⟨_, _, p3⟩ := List.pairwise_append.mp hp
          have hlast : l.getLast hne = m := by
            have h2 := b _ (List.getLast_mem hne)
            rw [← e] at hm
            rcases List.mem_append.mp hm with h | h
            · have := p3 m h _ (List.mem_singleton.mpr rfl)
              omega
            · exact (List.mem_singleton.mp h).symm
          rw [← hlast]
          exact e
      · refine .inl (mem_lotsM.mpr ⟨a, fun x hx => ?_⟩)
        have := b x hx
        have : x ≠ m := fun e => hm (e ▸ hx)
        omega
/-- the words at some places -/
def pick (ws : List Wd) (pl : List Nat) : List Wd := pl.filterMap fun i => ws[i]?
theorem pick_mem {ws : List Wd} {pl : List Nat} {w : Wd} (h : w ∈ pick ws pl) : w ∈ ws := by
  obtain ⟨i, _, e⟩ := List.mem_filterMap.mp h
  exact List.mem_of_getElem? e
theorem pick_all (ws : List Wd) : pick ws (List.range ws.length) = ws := by
  have h : ∀ m, m ≤ ws.length → pick ws (List.range m) = ws.take m := fun m => by
    induction m with
    | zero => intro _; rfl
    | succ m ih =>
      intro hm
      unfold pick at ih ⊢
      rw [List.range_succ, List.filterMap_append, ih (by omega), List.take_add_one]
      have e : ws[m]? = some ws[m] := List.getElem?_eq_getElem (by omega)
      rw [List.filterMap_cons_some e, List.filterMap_nil, e]
      rfl
  rw [h _ (Nat.le_refl _), List.take_length]
theorem pick_len {ws : List Wd} : ∀ {pl : List Nat}, (∀ i ∈ pl, i < ws.length) → (pick ws pl).length = pl.length
  | [], _ => rfl
  | i :: r, h => by
    unfold pick
    rw [List.filterMap_cons_some (List.getElem?_eq_getElem (h i List.mem_cons_self)), List.length_cons, List.length_cons]
    exact congrArg (· + 1) (pick_len fun j hj => h j (List.mem_cons_of_mem _ hj))
/-- a clash: no order fits, each less one word has -/
structure ClashOk (n : Nat) (ws : List Wd) (l : List Nat) : Prop where
  rs : l.Pairwise (· < ·)
  lt : ∀ x ∈ l, x < ws.length
  no : many n (pick ws l) = 0
  less : ∀ x ∈ l, 0 < many n (pick ws (l.filter fun y => decide (y ≠ x)))
/-- the first of the fewest that does not fit is a clash -/
theorem clash_first {n : Nat} {ws : List Wd} {ls : List (List Nat)} (hp : ls.Perm (lotsM ws.length)) (hs : ls.Pairwise fun a b => a.length ≤ b.length) (h0 : many n ws = 0) :
    ∃ l r, ls.filter (fun l => !decide (0 < many n (pick ws l))) = l :: r ∧ ClashOk n ws l := by
  have hf : List.range ws.length ∈ ls.filter (fun l => !decide (0 < many n (pick ws l))) := by
    refine List.mem_filter.mpr ⟨hp.mem_iff.mpr (mem_lotsM.mpr ⟨List.pairwise_lt_range, fun x hx => List.mem_range.mp hx⟩), ?_⟩
    rw [pick_all, h0]
    rfl
  match e : ls.filter (fun l => !decide (0 < many n (pick ws l))), hf with
  | l :: r, _ =>
    have hl : l ∈ ls.filter (fun l => !decide (0 < many n (pick ws l))) := by
      rw [e]
      exact List.mem_cons_self
    obtain ⟨l1, l2⟩ := List.mem_filter.mp hl
    obtain ⟨a, b⟩ := mem_lotsM.mp (hp.mem_iff.mp l1)
    have no : many n (pick ws l) = 0 := by
      rw [Bool.not_eq_true', decide_eq_false_iff_not] at l2
      omega
    refine ⟨l, r, rfl, a, b, no, fun x hx => ?_⟩
    refine Nat.pos_of_ne_zero fun z => ?_
    have hm : (l.filter fun y => decide (y ≠ x)) ∈ ls.filter (fun l => !decide (0 < many n (pick ws l))) := by
      refine List.mem_filter.mpr ⟨hp.mem_iff.mpr (mem_lotsM.mpr ⟨a.sublist List.filter_sublist, fun y hy => b y (List.mem_filter.mp hy).1⟩), ?_⟩
      rw [z]
      rfl
    have hs2 : (l :: r).Pairwise fun a b => a.length ≤ b.length := by
      rw [← e]
      exact hs.sublist List.filter_sublist
    have hlt : (l.filter fun y => decide (y ≠ x)).length < l.length := by
      refine Nat.lt_of_le_of_ne (List.length_filter_le _ _) fun e => ?_
      have := List.length_filter_eq_length_iff.mp e x hx
      rw [decide_eq_true_iff] at this
      exact this rfl
    rw [e] at hm
    rcases List.mem_cons.mp hm with h | h
    · rw [h] at hlt
      omega
    · have := (List.pairwise_cons.mp hs2).1 _ h
      omega
/-! ### told where each deed is -/
def toldAll (o : List Nat) : List Wd := (List.range o.length).filterMap fun i => (o[i]?).map fun d => ⟨.kAt, d, i⟩
theorem mem_toldAll {o : List Nat} {w : Wd} : w ∈ toldAll o ↔ ∃ i d, o[i]? = some d ∧ w = ⟨.kAt, d, i⟩ := by
  unfold toldAll
  rw [List.mem_filterMap]
  constructor
  · rintro ⟨i, _, h⟩
    cases e : o[i]? with
    | none =>
      rw [e] at h
      cases h
    | some d =>
      rw [e] at h
      exact ⟨i, d, e, (Option.some.inj h).symm⟩
  · rintro ⟨i, d, e, rfl⟩
    refine ⟨i, List.mem_range.mpr (List.getElem?_eq_some_iff.mp e).1, ?_⟩
    rw [e]
    rfl
theorem told_next {n : Nat} {o : List Nat} (nd : o.Nodup) (hl : o.length = n) (hb : ∀ d ∈ o, d < n) {p d : Nat} (h : o[p]? = some d) : nextL n (toldAll o) (o.take p) = [d] := by
  have hp : p < o.length := (List.getElem?_eq_some_iff.mp h).1
  have key : ∀ c, c ∈ nextL n (toldAll o) (o.take p) ↔ c = d := fun c => by
    rw [mem_nextL]
    constructor
    · rintro ⟨h1, _, h3⟩
      have hc := mem_of_full nd hl hb h1
      obtain ⟨q, hq⟩ := List.mem_iff_getElem?.mp hc
      have a := List.all_eq_true.mp h3 ⟨.kAt, c, q⟩ (mem_toldAll.mpr ⟨q, c, hq, rfl⟩)
      unfold ok1 at a
      simp only [beq_self_eq_true, Bool.true_and, Bool.not_eq_true', bne_eq_false_iff_eq, List.length_take] at a
      have e : q = p := by omega
      rw [e, h] at hq
      exact (Option.some.inj hq).symm
    · rintro rfl
      refine ⟨hb _ (List.mem_of_getElem? h), fun hm => ?_, List.all_eq_true.mpr fun w hw => ?_⟩
      · obtain ⟨j, hj⟩ := List.mem_iff_getElem?.mp hm
        rw [List.getElem?_take] at hj
        split at hj
        · have := nodup_at nd hj h
          omega
        · cases hj
      · obtain ⟨i, e, hi, rfl⟩ := mem_toldAll.mp hw
        unfold ok1
        by_cases he : e = c
        · subst he
          have : i = p := nodup_at nd hi h
          simp only [this, List.length_take]
          have : min p o.length = p := by omega
          simp [this]
        · simp [he]
  have nd2 : (nextL n (toldAll o) (o.take p)).Nodup := List.Nodup.sublist List.filter_sublist List.nodup_range
  exact List.perm_singleton.mp ((List.perm_ext_iff_of_nodup nd2 (List.pairwise_singleton _ d)).mpr fun c => by rw [key, List.mem_singleton])
theorem told_ways {n : Nat} {o : List Nat} (nd : o.Nodup) (hl : o.length = n) (hb : ∀ d ∈ o, d < n) : ∀ k p, p + k = n → waysL n (toldAll o) k (o.take p) = 1
  | 0, _, _ => rfl
  | k + 1, p, h => by
    have hp : p < o.length := by omega
    unfold waysL
    rw [told_next nd hl hb (List.getElem?_eq_getElem hp), List.map_cons, List.map_nil, List.sum_cons, List.sum_nil]
    have e : o.take p ++ [o[p]] = o.take (p + 1) := by
      rw [List.take_add_one, List.getElem?_eq_getElem hp]
      rfl
    rw [e, told_ways nd hl hb k (p + 1) (by omega), Nat.add_zero]
theorem told_many {n : Nat} {o : List Nat} (nd : o.Nodup) (hl : o.length = n) (hb : ∀ d ∈ o, d < n) : many n (toldAll o) = 1 := told_ways nd hl hb n 0 (by omega)
theorem told_ok {n : Nat} {o : List Nat} (hl : o.length = n) (hb : ∀ d ∈ o, d < n) : ∀ w ∈ toldAll o, w.Ok n := fun w hw => by
  obtain ⟨i, d, h, rfl⟩ := mem_toldAll.mp hw
  exact ⟨hb _ (List.mem_of_getElem? h), by rw [← hl]; exact (List.getElem?_eq_some_iff.mp h).1, fun e => by cases e⟩
theorem many_none {n : Nat} : 0 < many n [] := by
  have h1 := told_many (n := n) (o := List.range n) List.nodup_range List.length_range fun d h => List.mem_range.mp h
  have h2 := many_mono (n := n) (ws := []) (ws' := toldAll (List.range n)) fun w hw => by cases hw
  omega
theorem ClashOk.ne {n : Nat} {ws : List Wd} {l : List Nat} (c : ClashOk n ws l) : l ≠ [] := fun e => by
  have h := c.no
  rw [e] at h
  have := many_none (n := n)
  unfold pick at h
  rw [List.filterMap_nil] at h
  omega
/-- all settled -/
theorem told_opn {n : Nat} {o : List Nat} (hn : n ≤ 7) (nd : o.Nodup) (hl : o.length = n) (hb : ∀ d ∈ o, d < n) {p d : Nat} (h : o[p]? = some d) : opn n (toldAll o) p = [d] := by
  have hw := told_ok hl hb
  have hm : 0 < many n (toldAll o) := by
    rw [told_many nd hl hb]
    decide
  -- each level has one mask, that of the order so far
  have lv : ∀ q, q ≤ n → ∀ u ∈ lev n (toldAll o) q, u < 2 ^ n ∧ cnt u = q ∧ (bits u).Perm (o.take q) := fun q => by
    induction q with
    | zero =>
      intro _ u hu
      rw [List.mem_singleton.mp hu]
      exact ⟨Nat.two_pow_pos n, by unfold cnt; rw [bits_zero]; rfl, by rw [bits_zero]; exact List.Perm.refl _⟩
    | succ q ih =>
      intro hq u hu
      obtain ⟨v, hv, c, hc, rfl⟩ := (mem_lev hn).mp hu
      obtain ⟨v1, v2, v3⟩ := ih (by omega) v hv
      obtain ⟨c1, c2, c3⟩ := goodM_lt hn v1 hc
      have hc2 := (mem_goodM.mp hc).1
      rw [nextM_eq hn hw, nextL_perm v3, told_next nd hl hb (List.getElem?_eq_getElem (show q < o.length by omega)), List.mem_singleton] at hc2
      refine ⟨c3, by rw [cnt_add hn v1 c1 c2, v2], ?_⟩
      have e : o.take (q + 1) = o.take q ++ [c] := by
        rw [List.take_add_one, List.getElem?_eq_getElem (show q < o.length by omega), ← hc2]
        rfl
      rw [e]
      exact (bits_snoc (Nat.lt_of_lt_of_le v1 (pow_le n (by omega))) (by omega) c2).trans (v3.append_right [c])
  have hp : p < n := by
    have := (List.getElem?_eq_some_iff.mp h).1
    omega
  have key : ∀ c, c ∈ opn n (toldAll o) p ↔ c = d := fun c => by
    rw [mem_opn hn]
    constructor
    · rintro ⟨u, hu, hc⟩
      obtain ⟨v1, v2, v3⟩ := lv p (by omega) u hu
      have hc2 := (mem_goodM.mp hc).1
      rw [nextM_eq hn hw, nextL_perm v3, told_next nd hl hb h, List.mem_singleton] at hc2
      exact hc2
    · rintro rfl
      have hf := first_ok hn hw hm
      have e1 := fo_lev hn hw hm p (by omega)
      obtain ⟨d', r, e2, _⟩ := fo_good hn hw hm hp
      obtain ⟨v1, v2, v3⟩ := lv p (by omega) _ e1
      have hc : d' ∈ goodM n (toldAll o) (fo n (toldAll o) p).2 := by
        rw [e2]
        exact List.mem_cons_self
      have hc2 := (mem_goodM.mp hc).1
      rw [nextM_eq hn hw, nextL_perm v3, told_next nd hl hb h, List.mem_singleton] at hc2
      exact ⟨_, e1, hc2 ▸ hc⟩
  have nd2 : (opn n (toldAll o) p).Nodup := List.Nodup.sublist List.filter_sublist List.nodup_range
  exact List.perm_singleton.mp ((List.perm_ext_iff_of_nodup nd2 (List.pairwise_singleton _ d)).mpr fun c => by rw [key, List.mem_singleton])
/-! ### deeds named otherwise -/
def nm (names : List Nat) (d : Nat) : Nat := names.getD d 0
def ren (names : List Nat) (w : Wd) : Wd := match w.k with
  | .kAhd => ⟨.kAhd, nm names w.one, nm names w.oth⟩
  | k => ⟨k, nm names w.one, w.oth⟩
theorem nm_inj {n : Nat} {names : List Nat} (nd : names.Nodup) (hl : names.length = n) {a b : Nat} (ha : a < n) (hb : b < n) (h : nm names a = nm names b) : a = b := by
  unfold nm at h
  rw [List.getD_eq_getElem?_getD, List.getD_eq_getElem?_getD, List.getElem?_eq_getElem (by omega), List.getElem?_eq_getElem (by omega)] at h
  exact (List.getElem_inj nd).mp h
theorem nm_lt {n : Nat} {names : List Nat} (hl : names.length = n) (hb : ∀ d ∈ names, d < n) {a : Nat} (ha : a < n) : nm names a < n := by
  unfold nm
  rw [List.getD_eq_getElem?_getD, List.getElem?_eq_getElem (by omega)]
  exact hb _ (List.getElem_mem _)
theorem ren_ok {n : Nat} {names : List Nat} (nd : names.Nodup) (hl : names.length = n) (hb : ∀ d ∈ names, d < n) {w : Wd} (h : w.Ok n) : (ren names w).Ok n := by
  obtain ⟨k, a, b⟩ := w
  obtain ⟨h1, h2, h3⟩ := h
  cases k with
  | kAt => exact ⟨nm_lt hl hb h1, h2, fun e => by cases e⟩
  | kNot => exact ⟨nm_lt hl hb h1, h2, fun e => by cases e⟩
  | kAhd => exact ⟨nm_lt hl hb h1, nm_lt hl hb h2, fun _ e => h3 rfl (nm_inj nd hl h1 h2 e)⟩
theorem ren_let {n : Nat} {names : List Nat} (nd : names.Nodup) (hl : names.length = n) {ws : List Wd} (hw : ∀ w ∈ ws, w.Ok n) {pre : List Nat} (hp : ∀ d ∈ pre, d < n) {d : Nat} (hd : d < n) :
    letL (ws.map (ren names)) (pre.map (nm names)) (nm names d) = letL ws pre d := by
  have he : ∀ a < n, (nm names a == nm names d) = (a == d) := fun a ha => by
    rw [Bool.eq_iff_iff, beq_iff_eq, beq_iff_eq]
    exact ⟨nm_inj nd hl ha hd, fun e => by rw [e]⟩
  have hc : ∀ a < n, (pre.map (nm names)).contains (nm names a) = pre.contains a := fun a ha => by
    rw [Bool.eq_iff_iff, List.contains_iff_mem, List.contains_iff_mem, List.mem_map]
    exact ⟨fun ⟨b, hb, e⟩ => nm_inj nd hl (hp b hb) ha e ▸ hb, fun h => ⟨a, h, rfl⟩⟩
  unfold letL
  rw [List.all_map, List.length_map, Bool.eq_iff_iff, List.all_eq_true, List.all_eq_true]
  have e : ∀ w ∈ ws, ok1 (ren names w) pre.length (fun e => (pre.map (nm names)).contains e) (nm names d) = ok1 w pre.length (fun e => pre.contains e) d := fun w m => by
    obtain ⟨k, a, b⟩ := w
    obtain ⟨h1, h2, _⟩ := hw _ m
    cases k with
    | kAt =>
      show (!(nm names a == nm names d && b != pre.length)) = _
      rw [he a h1]
      rfl
    | kNot =>
      show (!(nm names a == nm names d && b == pre.length)) = _
      rw [he a h1]
      rfl
    | kAhd =>
      show (!(nm names b == nm names d && !(pre.map (nm names)).contains (nm names a))) = _
      rw [he b h2, hc a h1]
      rfl
  exact ⟨fun a w m => by rw [← e w m]; exact a w m, fun a w m => by rw [Function.comp, e w m]; exact a w m⟩
theorem ren_next {n : Nat} {names : List Nat} (nd : names.Nodup) (hl : names.length = n) (hb : ∀ d ∈ names, d < n) {ws : List Wd} (hw : ∀ w ∈ ws, w.Ok n) {pre : List Nat} (hp : ∀ d ∈ pre, d < n) :
    (nextL n (ws.map (ren names)) (pre.map (nm names))).Perm ((nextL n ws pre).map (nm names)) := by
  have n1 : (nextL n (ws.map (ren names)) (pre.map (nm names))).Nodup := List.Nodup.sublist List.filter_sublist List.nodup_range
  have n2 : ((nextL n ws pre).map (nm names)).Nodup := by
    refine List.pairwise_map.mpr (List.Pairwise.imp_of_mem (fun {a b} ha hb h e => h ?_) (List.Nodup.sublist List.filter_sublist List.nodup_range : (nextL n ws pre).Nodup))
    exact nm_inj nd hl (mem_nextL.mp ha).1 (mem_nextL.mp hb).1 e
  refine (List.perm_ext_iff_of_nodup n1 n2).mpr fun c => ?_
  rw [List.mem_map, mem_nextL]
  constructor
  · rintro ⟨h1, h2, h3⟩
    obtain ⟨d, hd⟩ := List.mem_iff_getElem?.mp (mem_of_full nd hl hb h1)
    have hdn : d < n := by
      have := (List.getElem?_eq_some_iff.mp hd).1
      omega
    have e : nm names d = c := by
      unfold nm
      rw [List.getD_eq_getElem?_getD, hd]
      rfl
    subst e
    rw [ren_let nd hl hw hp hdn] at h3
    exact ⟨d, mem_nextL.mpr ⟨hdn, fun m => h2 (List.mem_map.mpr ⟨d, m, rfl⟩), h3⟩, rfl⟩
  · rintro ⟨d, hd, rfl⟩
    obtain ⟨h1, h2, h3⟩ := mem_nextL.mp hd
    refine ⟨nm_lt hl hb h1, fun m => ?_, by rw [ren_let nd hl hw hp h1]; exact h3⟩
    obtain ⟨e, he, q⟩ := List.mem_map.mp m
    exact h2 (nm_inj nd hl (hp e he) h1 q ▸ he)
theorem ren_ways {n : Nat} {names : List Nat} (nd : names.Nodup) (hl : names.length = n) (hb : ∀ d ∈ names, d < n) {ws : List Wd} (hw : ∀ w ∈ ws, w.Ok n) :
    ∀ (k : Nat) (pre : List Nat), (∀ d ∈ pre, d < n) → waysL n (ws.map (ren names)) k (pre.map (nm names)) = waysL n ws k pre
  | 0, _, _ => rfl
  | k + 1, pre, hp => by
    unfold waysL
    have h1 := (ren_next nd hl hb hw hp).map fun d => waysL n (ws.map (ren names)) k (pre.map (nm names) ++ [d])
    rw [h1.sum_nat, List.map_map]
    refine congrArg List.sum (List.map_congr_left fun d hd => ?_)
    have e : pre.map (nm names) ++ [nm names d] = (pre ++ [d]).map (nm names) := by
      rw [List.map_append]
      rfl
    show waysL n (ws.map (ren names)) k (pre.map (nm names) ++ [nm names d]) = _
    rw [e]
    refine ren_ways nd hl hb hw k (pre ++ [d]) fun c hc => ?_
    rcases List.mem_append.mp hc with h | h
    · exact hp c h
    · rw [List.mem_singleton.mp h]
      exact (mem_nextL.mp hd).1
theorem ren_many {n : Nat} {names : List Nat} (nd : names.Nodup) (hl : names.length = n) (hb : ∀ d ∈ names, d < n) {ws : List Wd} (hw : ∀ w ∈ ws, w.Ok n) : many n (ws.map (ren names)) = many n ws :=
  ren_ways nd hl hb hw n [] fun d h => by cases h
end LB
namespace LB
open PySem PySem.Spec PyProof.Rows L2
open C8 (Cal pe_c)
/-! ### lists of pairs -/
theorem paired_perm {α β : Type} {F : α → β → Prop} {xs xs' : List α} (p : xs'.Perm xs) : ∀ {ys : List β}, Paired F xs ys → ∃ ys', Paired F xs' ys' ∧ ys'.Perm ys := by
  induction p with
  | nil => exact fun h => ⟨_, h, List.Perm.refl _⟩
  | cons x _ ih =>
    intro ys h
    cases h with
    | cons r t =>
      obtain ⟨zs, h1, h2⟩ := ih t
      exact ⟨_, .cons r h1, h2.cons _⟩
  | swap x y l =>
    intro ys h
    cases h with
    | cons r t =>
      cases t with
      | cons r' t => exact ⟨_, .cons r' (.cons r t), List.Perm.swap _ _ _⟩
  | trans _ _ ih1 ih2 =>
    intro ys h
    obtain ⟨zs, h1, h2⟩ := ih2 h
    obtain ⟨us, h3, h4⟩ := ih1 h1
    exact ⟨us, h3, h4.trans h2⟩
theorem paired_append {α β : Type} {F : α → β → Prop} : ∀ {xs xs' : List α} {ys ys' : List β}, Paired F xs ys → Paired F xs' ys' → Paired F (xs ++ xs') (ys ++ ys')
  | _, _, _, _, .nil, h => h
  | _, _, _, _, .cons r t, h => .cons r (paired_append t h)
theorem paired_mem {α β : Type} {F : α → β → Prop} : ∀ {xs : List α} {ys : List β}, Paired F xs ys → ∀ x ∈ xs, ∃ y ∈ ys, F x y
  | _, _, .nil, x, h => by cases h
  | _, _, .cons r t, x, h => by
    rcases List.mem_cons.mp h with e | h
    · subst e
      exact ⟨_, List.mem_cons_self, r⟩
    · obtain ⟨y, hy, q⟩ := paired_mem t x h
      exact ⟨y, List.mem_cons_of_mem _ hy, q⟩
theorem paired_mem2 {α β : Type} {F : α → β → Prop} : ∀ {xs : List α} {ys : List β}, Paired F xs ys → ∀ y ∈ ys, ∃ x ∈ xs, F x y
  | _, _, .nil, x, h => by cases h
  | _, _, .cons r t, x, h => by
    rcases List.mem_cons.mp h with e | h
    · subst e
      exact ⟨_, List.mem_cons_self, r⟩
    · obtain ⟨y, hy, q⟩ := paired_mem2 t x h
      exact ⟨y, List.mem_cons_of_mem _ hy, q⟩
theorem paired_pw {α β : Type} {F : α → β → Prop} {R : α → α → Prop} {S : β → β → Prop} (h : ∀ a b x y, F a x → F b y → R a b → S x y) : ∀ {xs : List α} {ys : List β}, Paired F xs ys → xs.Pairwise R → ys.Pairwise S
  | _, _, .nil, _ => List.Pairwise.nil
  | _, _, .cons r t, p => by
    obtain ⟨p1, p2⟩ := List.pairwise_cons.mp p
    refine List.pairwise_cons.mpr ⟨fun y hy => ?_, paired_pw h t p2⟩
    obtain ⟨x, hx, q⟩ := paired_mem2 t y hy
    exact h _ _ _ _ r q (p1 x hx)
/-- a tuple of the numbers of l; a pair of its length and it -/
def LotAt (H : Hp) (v : V) (l : List Nat) : Prop := ∃ t, v = .ref t ∧ H t = some (.tup (nums l))
def PairAt (H : Hp) (v : V) (l : List Nat) : Prop := ∃ t b, v = .ref t ∧ H t = some (.tup [.int (l.length : Nat), .ref b]) ∧ H b = some (.tup (nums l))
/-- the tuples stand -/
def Tups (H H' : Hp) : Prop := ∀ b xs, H b = some (.tup xs) → H' b = some (.tup xs)
theorem Tups.of {H H' : Hp} (s : Same H H') : Tups H H' := fun b xs e => s b _ e
theorem Tups.trans {H H1 H2 : Hp} (a : Tups H H1) (b : Tups H1 H2) : Tups H H2 := fun c xs e => b c xs (a c xs e)
theorem Tups.put {H : Hp} {p : Addr} {xs : List V} {o : HO} (h : H p = some (.lst xs)) : Tups H (upd H p o) := fun b ys e => by
  rw [upd_ne (ne_of e h (by intro z; cases z))]
  exact e
theorem LotAt.same {H H' : Hp} (s : Tups H H') {vs : List V} {ls : List (List Nat)} (h : Paired (LotAt H) vs ls) : Paired (LotAt H') vs ls := L2.Paired.mapP h fun _ _ ⟨t, e, q⟩ => ⟨t, e, s _ _ q⟩
theorem PairAt.same {H H' : Hp} (s : Tups H H') {vs : List V} {ls : List (List Nat)} (h : Paired (PairAt H) vs ls) : Paired (PairAt H') vs ls := L2.Paired.mapP h fun _ _ ⟨t, b, e, q, r⟩ => ⟨t, b, e, s _ _ q, s _ _ r⟩
theorem WsAt.tups {H H' : Hp} (s : Tups H H') {vs : List V} {ws : List Wd} (h : WsAt H vs ws) : WsAt H' vs ws := L2.Paired.mapP h fun _ _ ⟨p, e, q⟩ => ⟨p, e, s _ _ q⟩
theorem lotV_uniq {K : PySem.W.Frag} {H : Hp} {x : V} {k k' : List Int} (h : LotV K H x k) (h' : LotV K H x k') : k = k' := by
  obtain ⟨t, b, n, ns, rfl, h1, h2, rfl⟩ := h
  obtain ⟨t', b', n', ns', e, h1', h2', rfl⟩ := h'
  cases e
  rw [h1] at h1'
  injection h1' with e1
  injection e1 with e1
  injection e1 with e1 e2
  injection e2 with e2 _
  injection e1 with e1
  injection e2 with e2
  subst e1 e2
  rw [h2] at h2'
  injection h2' with e3
  injection e3 with e3
  rw [List.map_inj_right (fun a b h => V.int.inj h) |>.mp e3]
open Classical in
noncomputable def keyV (K : PySem.W.Frag) (H : Hp) (x : V) : List Int := if h : ∃ k, LotV K H x k then h.choose else []
theorem keyV_is {K : PySem.W.Frag} {H : Hp} {x : V} {k : List Int} (h : LotV K H x k) : LotV K H x (keyV K H x) ∧ keyV K H x = k := by
  have e : ∃ k, LotV K H x k := ⟨k, h⟩
  have q : LotV K H x (keyV K H x) := by
    unfold keyV
    rw [dif_pos e]
    exact e.choose_spec
  exact ⟨q, lotV_uniq q h⟩
theorem PairAt.lot {K : PySem.W.Frag} {H : Hp} {v : V} {l : List Nat} (h : PairAt H v l) : LotV K H v ((l.length : Int) :: cst l) := by
  obtain ⟨t, b, e, h1, h2⟩ := h
  exact ⟨t, b, _, cst l, e, h1, by rw [← nums_cst]; exact h2, rfl⟩
theorem lotsM_small {m i : Nat} (h : m ≤ 8) (hi : i ≤ m) : (lotsM i).length ≤ 256 := by
  rw [lotsM_len]
  exact Nat.le_trans (Nat.pow_le_pow_right (by decide) (show i ≤ 8 by omega)) (by decide)
section
variable {P : Program} {w : World} {K : PySem.W.Frag} {mg : Str → Option Value} {base : Heap} {aB : Addr}
/-! ### lots_of -/
def spLots : Sp := fun vs H Q _ => ∃ (m : Nat), vs = [.int m] ∧ m ≤ 8 ∧ ∀ H' L ps ls, Same H H' → H L = none → H' L = some (.lst ps) → Paired (LotAt H') ps ls → ls.Perm (lotsM m) → ls.Pairwise (fun a b => a.length ≤ b.length) → Q (.ref L) H'
theorem c_lots (T : Txt K mg aB) (D : Df K mg "lots_of" sLots ["many"]) : Cal P w K mg base 1 "lots_of" spLots [] := by
  refine D.cal scLots (fun vs H Q E h => ?_) (fun f cdv A outer s H vs Q E hr h => ?_)
  · obtain ⟨_, rfl, _⟩ := h
    rfl
  · obtain ⟨m, rfl, m8, q⟩ := h
    refine ⟨_, (pss_cons (ps_set (i := 1) scLots.nd rfl (Or.inl rfl) (pe_lst (pa_cons (pe_tup pa_nil) pa_nil)))
      (pss_cons (ps_for PassesOwn.never rfl (pi_range1 (by rfl) T.range (pa_cons (pv 0) pa_nil)) (pg_name (i := 2) scLots.nd rfl (Or.inr rfl))
        (pss_one (ps_set (i := 1) scLots.nd rfl (Or.inl rfl) (pe_op op_cat (pv 1) (pe_lc (own := [("lot", 3)]) (g := gName 3) (tt := tYes) rfl scLots.nd (pi_list (pv 1)) (blkOk_by (own := [("lot", 3)]) (N := ["many", "found", "place", "lot", "long"]) (sc := defScope sLots) (by decide +kernel)) (fun _ _ _ _ _ => (pg_name (i := 3) scLots.nd rfl (Or.inl rfl))) (fun _ _ _ _ _ => pts_nil) (fun _ _ _ _ _ => (pe_op (r := rCatA K) op_catA (pv 3) (pe_tup (pa_cons (pv 2) pa_nil)))))))))
      (pss_one (ps_ret (pe_lc (own := [("long", 4), ("lot", 3)]) (g := gTup K 2 (gCons (gName 4) (gCons (gName 3) (gNil)))) (tt := tYes) rfl scLots.nd (pi_list (pe_callB (cr_sortedL hr.units) (by rfl) T.sorted (by decide +kernel) (pa_cons (pe_lc (own := [("lot", 3)]) (g := gName 3) (tt := tYes) rfl scLots.nd (pi_list (pv 1)) (blkOk_by (own := [("lot", 3)]) (N := ["many", "found", "place", "lot", "long"]) (sc := defScope sLots) (by decide +kernel)) (fun _ _ _ _ _ => (pg_name (i := 3) scLots.nd rfl (Or.inl rfl))) (fun _ _ _ _ _ => pts_nil) (fun _ _ _ _ _ => (pe_tup (pa_cons (pe_callB (r := rLenS K) cr_len (by rfl) T.len PySem.boot_len (pa_cons (pv 3) pa_nil)) (pa_cons (pv 3) pa_nil))))) pa_nil))) (blkOk_by (own := [("long", 4), ("lot", 3)]) (N := ["many", "found", "place", "lot", "long"]) (sc := defScope sLots) (by decide +kernel)) (fun _ _ _ _ _ => (pg_tup rfl (pgs_cons (pg_name (i := 4) scLots.nd rfl (Or.inl rfl)) (pgs_cons (pg_name (i := 3) scLots.nd rfl (Or.inl rfl)) pgs_nil)))) (fun _ _ _ _ _ => pts_nil) (fun _ _ _ _ _ => (pv 3))))))), ?_⟩
    -- found = [()]
    refine ⟨Nat.zero_le _, fun t nt => ⟨by show 1 ≤ sizeLine; decide, fun L0 nL0 => ?_⟩⟩
    refine ⟨_, rfl, _, rfl, by omega, by omega, ?_⟩
    rw [Int.toNat_natCast]
    have ntL : t ≠ L0 := ne_of_none upd_same nL0
    refine for_range (lo := 0) (n := m) (fun i σ H3 => ∃ y2 L xs, σ = [some (V.int m), some (.ref L), y2, none, none] ∧ Same H H3 ∧ H L = none ∧ H3 L = some (.lst xs) ∧ Paired (LotAt H3) xs (lotsM i))
      ⟨none, L0, _, rfl, (same_upd nt).trans (same_upd nL0), (same_upd nt).free nL0, upd_same, .cons ⟨t, rfl, by rw [upd_ne ntL, upd_same]; rfl⟩ .nil⟩ ?_ ?_
    · rintro i σ H3 hi ⟨y2, L, xs, rfl, s3, nL, eL, pr⟩
      rw [Int.zero_add]
      have l256 := lotsM_small m8 (Nat.le_of_lt hi)
      refine ⟨_, rfl, _, rfl, L, rfl, ⟨_, SqL.of eL⟩, fun D nD => ?_⟩
      refine lc_list (K := K) (a := L) (xs := xs) (fun j H5 => Same H3 H5 ∧ ∃ acc, H5 D = some (.lst acc) ∧ Paired (LotAt H5) acc (((lotsM i).take j).map fun l => l ++ [i]))
        ⟨same_upd nD, [], upd_same, .nil⟩ (fun j H5 _ h => h.1.seq (SqL.of eL)) ?_ ?_
      · rintro j x H5 hj ⟨s5, acc, e5, pa⟩
        obtain ⟨l, hl, t, rfl, ht⟩ := paired_at (LotAt.same (Tups.of s5) pr) hj
        have hal : acc.length < sizeLine := by
          rw [Paired.length pa, List.length_map, List.length_take]
          exact small1000 (by omega)
        refine ⟨rfl, ?_⟩
        refine tyes_i ?_
        have ll : l.length ≤ 8 := by
          have hm : ∀ x ∈ l, x < m := fun x hx => Nat.lt_trans ((mem_lotsM.mp (List.mem_of_getElem? hl)).2 x hx) hi
          have nd : l.Nodup := (mem_lotsM.mp (List.mem_of_getElem? hl)).1.imp fun h => Nat.ne_of_lt h
          have := nd.length_le_of_subset (l₂ := List.range m) fun x hx => List.mem_range.mpr (hm x hx)
          rw [List.length_range] at this
          omega
        have fin : ∀ H6 p, Same H5 H6 → H6 p = some (.tup (nums (l ++ [i]))) → ∃ acc, H6 D = some (.lst acc) ∧ acc.length < sizeLine ∧ Same H3 (upd H6 D (.lst (acc ++ [.ref p]))) ∧ ∃ acc1, upd H6 D (.lst (acc ++ [.ref p])) D = some (.lst acc1) ∧
            Paired (LotAt (upd H6 D (.lst (acc ++ [.ref p])))) acc1 (((lotsM i).take (j + 1)).map fun l => l ++ [i]) := fun H6 p s6 ep => by
          refine ⟨acc, s6 _ _ e5, hal, same_put (s5.trans s6) nD, acc ++ [.ref p], upd_same, ?_⟩
          rw [List.take_add_one, hl, List.map_append]
          have tp : Tups H6 (upd H6 D (.lst (acc ++ [.ref p]))) := Tups.put (s6 _ _ e5)
          exact Paired.snoc (LotAt.same ((Tups.of s6).trans tp) pa) ⟨p, rfl, tp _ _ ep⟩
        refine ⟨_, rfl, _, rfl, by show 1 ≤ sizeLine; decide, fun q2 nq2 => ⟨t, q2, nums l, [.int (i : Int)], rfl, rfl, .inl (.inl (by rw [upd_ne (ne_of_none ht nq2)]; exact ht)), .inl (.inl upd_same), ?_, (fun e => ?_), (fun _ e => nomatch e), (fun _ _ p np => ?_)⟩⟩
        · rw [nums_len]
          exact Nat.le_of_lt (small1000 (by show l.length + 1 ≤ 1000; omega))
        · have el : l = [] := by
            cases l with
            | nil => rfl
            | cons a r => cases e
          subst el
          exact fin _ q2 (same_upd nq2) (by rw [upd_same]; rfl)
        · exact fin _ p ((same_upd nq2).trans (same_upd np)) (by rw [upd_same, nums_app]; rfl)
      · rintro H5 ⟨s5, acc, e5, pa⟩
        rw [Paired.length pr, List.take_length] at pa
        have la : acc.length = (lotsM i).length := by rw [Paired.length pa, List.length_map]
        refine ⟨L, D, xs, acc, rfl, rfl, s5 _ _ eL, e5, ?_, fun p np => ?_⟩
        · rw [la, Paired.length pr]
          exact Nat.le_of_lt (small1000 (by omega))
        have s6 : Same H5 (upd H5 p (.lst (xs ++ acc))) := same_upd np
        exact ⟨some (.int (i : Int)), p, _, rfl, s3.trans (s5.trans s6), (s3.trans s5).free np, upd_same, paired_append (LotAt.same (Tups.of (s5.trans s6)) pr) (LotAt.same (Tups.of s6) pa)⟩
    · rintro σ H3 ⟨y2, L, xs, rfl, s3, nL, eL, pr⟩
      have l256 := lotsM_small m8 (Nat.le_refl m)
      -- sorted([(len(lot), lot) for lot in found])
      refine ⟨_, rfl, L, rfl, ⟨_, SqL.of eL⟩, fun D nD => ?_⟩
      refine lc_list (K := K) (a := L) (xs := xs) (fun j H5 => Same H3 H5 ∧ ∃ acc, H5 D = some (.lst acc) ∧ Paired (PairAt H5) acc ((lotsM m).take j))
        ⟨same_upd nD, [], upd_same, .nil⟩ (fun j H5 _ h => h.1.seq (SqL.of eL)) ?_ ?_
      · rintro j x H5 hj ⟨s5, acc, e5, pa⟩
        obtain ⟨l, hl, t, rfl, ht⟩ := paired_at (LotAt.same (Tups.of s5) pr) hj
        refine ⟨rfl, ?_⟩
        refine tyes_i ?_
        refine ⟨_, rfl, t, _, rfl, .inr (.inl (.inl ht)), _, rfl, by show 2 ≤ sizeLine; decide, fun p np => ?_⟩
        have s6 : Same H5 (upd H5 p (.tup [.int ((nums l).length : Nat), .ref t])) := same_upd np
        refine ⟨acc, s6 _ _ e5, ?_, same_put (s5.trans s6) nD, _, upd_same, ?_⟩
        · rw [Paired.length pa, List.length_take]
          exact small1000 (by omega)
        rw [List.take_add_one, hl]
        have tp : Tups (upd H5 p (.tup [.int ((nums l).length : Nat), .ref t])) (upd (upd H5 p (.tup [.int ((nums l).length : Nat), .ref t])) D (.lst (acc ++ [.ref p]))) := Tups.put (s6 _ _ e5)
        exact Paired.snoc (PairAt.same ((Tups.of s6).trans tp) pa) ⟨p, t, rfl, tp _ _ (by rw [upd_same, nums_len]), tp _ _ (s6 _ _ ht)⟩
      · rintro H5 ⟨s5, acc, e5, pa⟩
        rw [Paired.length pr, List.take_length] at pa
        refine ⟨D, acc, keyV K H5, rfl, SqL.of e5, fun x hx => ?_, fun ys p pw pm np => ?_⟩
        · obtain ⟨l, _, hl⟩ := paired_mem pa x hx
          exact (keyV_is hl.lot).1
        obtain ⟨ls, pl, pml⟩ := paired_perm pm pa
        have hle : ls.Pairwise fun a b => a.length ≤ b.length := paired_pw (R := fun x y => HT.lexLt (keyV K H5 y) (keyV K H5 x) = false) (fun a b x y h1 h2 h3 => by
          rw [(keyV_is (K := K) h1.lot).2, (keyV_is (K := K) h2.lot).2, HT.lexLt_cons] at h3
          split at h3
          · omega
          · have := of_decide_eq_false h3
            omega) pl pw
        have s6 : Same H5 (upd H5 p (.lst ys)) := same_upd np
        refine ⟨p, rfl, ⟨_, SqL.of upd_same⟩, fun D2 nD2 => ?_⟩
        refine lc_list (K := K) (a := p) (xs := ys) (fun j H7 => Same (upd H5 p (.lst ys)) H7 ∧ ∃ acc, H7 D2 = some (.lst acc) ∧ Paired (LotAt H7) acc (ls.take j))
          ⟨same_upd nD2, [], upd_same, .nil⟩ (fun j H5 _ h => h.1.seq (SqL.of upd_same)) ?_ ?_
        · rintro j x H7 hj ⟨s7, acc2, e7, pa2⟩
          obtain ⟨l, hl, t, b, rfl, ht, hb⟩ := paired_at (PairAt.same (Tups.of (s6.trans s7)) pl) hj
          refine ⟨t, _, rfl, .inl (.inl ht), rfl, _, _, rfl, _, _, rfl, rfl, rfl, ?_⟩
          refine tyes_i ?_
          refine ⟨_, rfl, acc2, e7, ?_, same_put s7 nD2, _, upd_same, ?_⟩
          · rw [Paired.length pa2, List.length_take]
            have := pml.length_eq
            exact small1000 (by omega)
          rw [List.take_add_one, hl]
          have tp : Tups H7 (upd H7 D2 (.lst (acc2 ++ [.ref b]))) := Tups.put e7
          exact Paired.snoc (LotAt.same tp pa2) ⟨b, rfl, tp _ _ hb⟩
        · rintro H7 ⟨s7, acc2, e7, pa2⟩
          rw [Paired.length pl, List.take_length] at pa2
          have s8 := s3.trans (s5.trans s6)
          exact q H7 D2 acc2 ls (s8.trans s7) (s8.free nD2) e7 pa2 pml hle
/-! ### fits_some, first_clash -/
def spSome (K : PySem.W.Frag) : Sp := fun vs H Q _ => ∃ (a b : Addr) (n : Nat) (ws : List Wd) (pl : List Nat), vs = [.int n, .ref a, .ref b] ∧ ArgT H a n ws ∧ SqA K H b (nums pl) ∧ (∀ i ∈ pl, i < ws.length) ∧ pl.length ≤ 8 ∧
  ∀ H', Same H H' → Q (.bl (decide (0 < many n (pick ws pl)))) H'
theorem paired_get {α β : Type} {F : α → β → Prop} : ∀ {xs : List α} {ys : List β} {i : Nat} {y : β}, Paired F xs ys → ys[i]? = some y → ∃ x, xs[i]? = some x ∧ F x y
  | _, _, _, _, .nil, e => by simp at e
  | _, _, 0, _, .cons r _, e => by
    simp at e
    subst e
    exact ⟨_, rfl, r⟩
  | _, _, i + 1, y, .cons _ t, e => by
    obtain ⟨u, h1, h2⟩ := paired_get (i := i) (y := y) t (by simpa using e)
    exact ⟨u, by simpa using h1, h2⟩
theorem pick_snoc {ws : List Wd} {pl : List Nat} {j d : Nat} {w : Wd} (h : pl[j]? = some d) (hw : ws[d]? = some w) : pick ws (pl.take (j + 1)) = pick ws (pl.take j) ++ [w] := by
  unfold pick
  rw [List.take_add_one, h, List.filterMap_append]
  show _ ++ [d].filterMap (fun i => ws[i]?) = _
  rw [List.filterMap_cons_some hw, List.filterMap_nil]
theorem pick_le (ws : List Wd) (pl : List Nat) : (pick ws pl).length ≤ pl.length := List.length_filterMap_le _ _
theorem c_some (T : Txt K mg aB) (D : Df K mg "fits_some" sSome ["size", "words", "places"]) (GFit : Cal P w K mg base 6 "fit_many" (spFit K) []) : Cal P w K mg base 7 "fits_some" (spSome K) [] := by
  refine D.cal scSome (fun vs H Q E h => ?_) (fun f cdv A outer s H vs Q E hr h => ?_)
  · obtain ⟨_, _, _, _, _, rfl, _⟩ := h
    rfl
  · obtain ⟨a, b, n, ws, pl, rfl, g, hq, hb, l8, q⟩ := h
    refine ⟨_, (pss_one (ps_ret (pe_cmpR op_gt (pe_c GFit hr (by decide) (by rfl) (pa_cons (pv 0) (pa_cons (pe_lc (own := [("place", 3)]) (g := gName 3) (tt := tYes) rfl scSome.nd (pi_seq (pv 2)) (blkOk_by (own := [("place", 3)]) (N := ["size", "words", "places", "place"]) (sc := defScope sSome) (by decide +kernel)) (fun _ _ _ _ _ => (pg_name (i := 3) scSome.nd rfl (Or.inl rfl))) (fun _ _ _ _ _ => pts_nil) (fun _ _ _ _ _ => (pe_ix (r := rIxT K) ix_tup (pv 1) (pv 3) (fun _ _ => rfl)))) pa_nil))) pe_int (nomark _)))), ?_⟩
    obtain ⟨⟨xs, hx, hw⟩, w8, ok, n1, n6⟩ := id g
    refine ⟨_, rfl, _, rfl, lc_seq hq (fun D j H5 => Same H H5 ∧ ∃ acc, H5 D = some (.lst acc) ∧ WsAt H5 acc (pick ws (pl.take j))) (fun D nD => ⟨same_upd nD, [], upd_same, .nil⟩) (fun D j H5 _ h => h.1) ?_ ?_⟩
    · rintro D j x H5 nD hj ⟨s5, acc, e5, pa⟩
      obtain ⟨d, hd, rfl⟩ := nums_at hj
      have hdw := hb d (List.mem_of_getElem? hd)
      obtain ⟨v, hv, hvw⟩ := paired_get (hw.same s5) (List.getElem?_eq_getElem hdw)
      refine ⟨rfl, ?_⟩
      refine tyes_i ?_
      refine ⟨_, rfl, _, rfl, a, xs, (d : Int), v, rfl, rfl, .inl (.inl (s5 _ _ hx)), atI_nat hv, acc, e5, ?_, same_put s5 nD, _, upd_same, ?_⟩
      · rw [WsAt.len pa]
        have := pick_le ws (pl.take j)
        rw [List.length_take] at this
        exact small1000 (by omega)
      rw [pick_snoc hd (List.getElem?_eq_getElem hdw)]
      have tp : Tups H5 (upd H5 D (.lst (acc ++ [v]))) := Tups.put e5
      obtain ⟨p, e1, e2⟩ := hvw
      exact Paired.snoc (WsAt.tups tp pa) ⟨p, e1, tp _ _ e2⟩
    · rintro D H5 nD ⟨s5, acc, e5, pa⟩
      rw [nums_len, List.take_length] at pa
      refine ⟨D, n, pick ws pl, rfl, ⟨⟨acc, .inl (SqL.of e5), pa⟩, fun w m => ok w (pick_mem m), n1, n6⟩, fun H6 s6 => ?_⟩
      refine ⟨_, _, rfl, rfl, ?_⟩
      have := q H6 (s5.trans s6)
      rw [← pos_dec] at this
      exact this
def spClash : Sp := fun vs H Q _ => ∃ (a : Addr) (n : Nat) (ws : List Wd), vs = [.int n, .ref a] ∧ ArgT H a n ws ∧ (0 < many n ws → ∀ H', Same H H' → Q .non H') ∧
  (many n ws = 0 → ∀ H' t l, Same H H' → H' t = some (.tup (nums l)) → ClashOk n ws l → Q (.ref t) H')
theorem filter_take' {α : Type} {l : List α} {j : Nat} {x : α} (p : α → Bool) (h : l[j]? = some x) : (l.take (j + 1)).filter p = (l.take j).filter p ++ (if p x = true then [x] else []) := by
  rw [List.take_add_one, h, List.filter_append]
  show _ ++ [x].filter p = _
  rw [List.filter_cons, List.filter_nil]
theorem lot_len {m : Nat} {l : List Nat} (h : l ∈ lotsM m) : l.length ≤ m := by
  obtain ⟨a, b⟩ := mem_lotsM.mp h
  have nd : l.Nodup := a.imp fun h => Nat.ne_of_lt h
  have := nd.length_le_of_subset (l₂ := List.range m) fun x hx => List.mem_range.mpr (b x hx)
  rw [List.length_range] at this
  exact this
theorem c_clash (T : Txt K mg aB) (D : Df K mg "first_clash" sClash ["size", "words"]) (GNeed : Cal P w K mg base 4 "need_told" spNeed []) (GFit : Cal P w K mg base 6 "fit_many" (spFit K) []) (GLots : Cal P w K mg base 1 "lots_of" spLots []) (GSome : Cal P w K mg base 7 "fits_some" (spSome K) []) :
    Cal P w K mg base 8 "first_clash" spClash [] := by
  refine D.cal scClash (fun vs H Q E h => ?_) (fun f cdv A outer s H vs Q E hr h => ?_)
  · obtain ⟨_, _, _, rfl, _⟩ := h
    rfl
  · obtain ⟨a, n, ws, rfl, g, q1, q0⟩ := h
    refine ⟨_, (pss_cons (ps_expr (pe_c GNeed hr (by decide) (by rfl) (pa_cons (pv 0) (pa_cons (pv 1) pa_nil))))
      (pss_cons (ps_if (pt_cmpR op_gt (pe_c GFit hr (by decide) (by rfl) (pa_cons (pv 0) (pa_cons (pv 1) pa_nil))) pe_int (nomark _)) (pss_one (ps_ret pe_non)) pss_nil)
      (pss_one (ps_ret (pe_ix ix_list (pe_lc (own := [("lot", 2)]) (g := gName 2) rfl scClash.nd (pi_list (pe_c GLots hr (by decide) (by rfl) (pa_cons (pe_callB call_len_seq (by rfl) T.len PySem.boot_len (pa_cons (pv 1) pa_nil)) pa_nil))) (blkOk_by (own := [("lot", 2)]) (N := ["size", "words", "lot"]) (sc := defScope sClash) (by decide +kernel)) (fun _ _ _ _ _ => (pg_name (i := 2) scClash.nd rfl (Or.inl rfl))) (fun _ _ _ _ _ => (pts_one (pt_not (pt_val (pe_c GSome hr (by decide) (by rfl) (pa_cons (pv 0) (pa_cons (pv 1) (pa_cons (pv 2) pa_nil)))))))) (fun _ _ _ _ _ => (pv 2))) pe_int (fun _ _ => rfl)))))), ?_⟩
    refine ⟨_, rfl, _, rfl, a, n, ws, rfl, g, fun H1 s1 => ?_⟩
    refine ⟨_, rfl, _, rfl, a, n, ws, rfl, (g.same s1).arg, fun H2 s2 => ⟨_, _, rfl, rfl, _, rfl, ?_⟩⟩
    rw [pos_dec]
    have s12 := s1.trans s2
    refine ite2 (fun e => q1 (of_decide_eq_true e) H2 s12) (fun e => ?_)
    have hm : many n ws = 0 := by
      have : ¬ 0 < many n ws := fun z => e (decide_eq_true z)
      omega
    obtain ⟨⟨xs, hx, hw⟩, w8, ok, n1, n6⟩ := g.same s12
    refine ⟨_, rfl, a, xs, rfl, .inr (.inl (.inl hx)), ws.length, ?_, w8, fun H3 L ps ls s3 nL eL pl pm hle => ⟨L, rfl, ⟨_, SqL.of eL⟩, fun D nD => ?_⟩⟩
    · rw [hw.len]
      rfl
    have l256 : ls.length ≤ 256 := by
      rw [pm.length_eq]
      exact lotsM_small w8 (Nat.le_refl _)
    refine lc_list (K := K) (a := L) (xs := ps) (fun j H5 => Same H3 H5 ∧ ∃ acc, H5 D = some (.lst acc) ∧ Paired (LotAt H5) acc ((ls.take j).filter fun l => !decide (0 < many n (pick ws l))))
      ⟨same_upd nD, [], upd_same, .nil⟩ (fun j H5 _ h => h.1.seq (SqL.of eL)) ?_ ?_
    · rintro j x H5 hj ⟨s5, acc, e5, pa⟩
      obtain ⟨l, hl, t, rfl, ht⟩ := paired_at (LotAt.same (Tups.of s5) pl) hj
      have hlm := pm.mem_iff.mp (List.mem_of_getElem? hl)
      refine ⟨rfl, _, rfl, _, rfl, _, rfl, a, t, n, ws, l, rfl, g.same (s12.trans (s3.trans s5)), .inr (.inl (.inl ht)), (mem_lotsM.mp hlm).2, Nat.le_trans (lot_len hlm) w8, fun H6 s6 => ⟨_, rfl, ?_⟩⟩
      rw [filter_take' _ hl]
      cases hz : decide (0 < many n (pick ws l)) with
      | true =>
        refine iteF ⟨s5.trans s6, acc, s6 _ _ e5, ?_⟩
        show Paired _ _ (_ ++ [])
        rw [List.append_nil]
        exact LotAt.same (Tups.of s6) pa
      | false =>
        refine iteT ⟨_, rfl, acc, s6 _ _ e5, ?_, same_put (s5.trans s6) nD, _, upd_same, ?_⟩
        · rw [Paired.length pa]
          have := List.length_filter_le (fun l => !decide (0 < many n (pick ws l))) (ls.take j)
          rw [List.length_take] at this
          exact small1000 (by omega)
        have tp : Tups H6 (upd H6 D (.lst (acc ++ [.ref t]))) := Tups.put (s6 _ _ e5)
        exact Paired.snoc (LotAt.same ((Tups.of s6).trans tp) pa) ⟨t, rfl, tp _ _ (s6 _ _ ht)⟩
    · rintro H5 ⟨s5, acc, e5, pa⟩
      rw [Paired.length pl, List.take_length] at pa
      obtain ⟨l, r, el, cl⟩ := clash_first pm hle hm
      rw [el] at pa
      cases pa with
      | cons r0 t0 =>
        obtain ⟨t, rfl, ht⟩ := r0
        exact ⟨D, _, (0 : Int), _, rfl, rfl, SqL.of e5, atI_nat (j := 0) rfl, q0 hm H5 t l (s12.trans (s3.trans s5)) ht cl⟩
end
end LB
namespace LB
open PySem PySem.Spec PyProof.Rows L2
open C8 (Cal pe_c)
/-- the reading of a comprehension over zip of two tuples, the second the shorter -/
theorem lc_zipT {K : PySem.W.Frag} {a b : Addr} {xs ys : List V} {g : TG} {tt : TT} {te : TE} {vs : List Nat} {σ : L2.St} {H1 : Hp} {D : Addr} {Qd : Hp → Prop} (hlen : ys.length ≤ xs.length) (Pv : Nat → Hp → Prop) (h0 : Pv 0 (upd H1 D (.lst [])))
    (hq : ∀ i H, Pv i H → SqT K H a xs ∧ SqT K H b ys)
    (hs : ∀ (i : Nat) (x y : V) (T : Addr) (H : Hp), xs[i]? = some x → ys[i]? = some y → Pv i H → H T = none → g (.ref T) (wipe σ vs) (upd H T (.tup [x, y])) fun σ2 H2 => wipe σ2 vs = wipe σ vs ∧ tt σ2 H2 fun b H3 =>
      if b = true then te σ2 H3 fun y H4 => ∃ acc, H4 D = some (.lst acc) ∧ acc.length < sizeLine ∧ Pv (i + 1) (upd H4 D (.lst (acc ++ [y]))) else Pv (i + 1) H3) (hd : ∀ H, Pv ys.length H → Qd H) :
    ∃ W : Nat → Nat → Hp → Prop, (∃ m, W 0 m (upd H1 D (.lst []))) ∧ ∀ i m H, W i m H →
      ((RZ.ItzT K a b).stop i H ∧ Qd H) ∨ ((RZ.ItzT K a b).go i H ∧ ∃ Nx : Hp → Prop, (∀ H', Nx H' → ∃ m', m' < m ∧ W (i + 1) m' H') ∧ ∀ x H', (RZ.ItzT K a b).yld i H x H' → g x (wipe σ vs) H' fun σ2 H2 => wipe σ2 vs = wipe σ vs ∧ tt σ2 H2 fun b H3 =>
        if b = true then te σ2 H3 fun y H4 => ∃ acc, H4 D = some (.lst acc) ∧ acc.length < sizeLine ∧ Nx (upd H4 D (.lst (acc ++ [y]))) else Nx H3) := by
  refine ⟨fun i m H => m = ys.length - i ∧ i ≤ ys.length ∧ Pv i H, ⟨ys.length, rfl, Nat.zero_le _, h0⟩, ?_⟩
  rintro i m H ⟨rfl, hi, p⟩
  obtain ⟨q1, q2⟩ := hq i H p
  by_cases hlt : i < ys.length
  · have hlt2 : i < xs.length := by omega
    refine .inr ⟨⟨xs, ys, _, _, q1, q2, List.getElem?_eq_getElem hlt2, List.getElem?_eq_getElem hlt⟩, Pv (i + 1), fun H' p' => ⟨ys.length - (i + 1), by omega, rfl, hlt, p'⟩, fun v H' y => ?_⟩
    obtain ⟨T, x', y', rfl, hT, rfl, f1, f2⟩ := y
    exact hs i x' y' T H (f1 xs q1) (f2 ys q2) p hT
  · have e : i = ys.length := by omega
    exact .inl ⟨⟨xs, ys, q1, q2, .inr (by omega)⟩, hd H (e ▸ p)⟩
section
variable {P : Program} {w : World} {K : PySem.W.Frag} {mg : Str → Option Value} {base : Heap} {aB : Addr}
/-! ### rises, clash_holds -/
def spRises (K : PySem.W.Frag) : Sp := fun vs H Q _ => ∃ (t : Addr) (l : List Nat), vs = [.ref t] ∧ SqT K H t (nums l) ∧ l ≠ [] ∧ l.length ≤ 8 ∧ l.Pairwise (· < ·) ∧ ∀ H', Same H H' → Q (.bl true) H'
theorem cut_tail (xs : List V) : cutV xs (some 1) none = xs.drop 1 := by
  unfold cutV
  rw [show HT.sIx xs.length 0 (some 1) = min 1 xs.length from HT.sIx_nat xs.length 0 1, HT.sIx_none]
  cases xs with
  | nil => rfl
  | cons x r =>
    rw [show min 1 (x :: r).length = 1 by rw [List.length_cons]; omega]
    show List.take ((x :: r).length - 1) r = r
    rw [List.length_cons, Nat.add_sub_cancel]
    exact List.take_length
theorem c_rises (T : Txt K mg aB) (D : Df K mg "rises" sRises ["things"]) : Cal P w K mg base 1 "rises" (spRises K) [] := by
  refine D.cal scRises (fun vs H Q E h => ?_) (fun f cdv A outer s H vs Q E hr h => ?_)
  · obtain ⟨_, _, rfl, _⟩ := h
    rfl
  · obtain ⟨t, l, rfl, hq, hne, l8, pw, q⟩ := h
    refine ⟨_, (pss_one (ps_ret (pe_callB (cr_all rfl) (by rfl) T.all (by decide +kernel) (pa_cons (pe_lc (own := [("one", 1), ("other", 2)]) (g := gTup K 2 (gCons (gName 1) (gCons (gName 2) (gNil)))) (tt := tYes) rfl scRises.nd (RZ.pi_zipA (by rfl) T.zip (pa_cons (pv 0) (pa_cons (pe_slice sl_tup (pv 0) (po_some pe_int) po_none) pa_nil))) (blkOk_by (own := [("one", 1), ("other", 2)]) (N := ["things", "one", "other"]) (sc := defScope sRises) (by decide +kernel)) (fun _ _ _ _ _ => (pg_tup rfl (pgs_cons (pg_name (i := 1) scRises.nd rfl (Or.inl rfl)) (pgs_cons (pg_name (i := 2) scRises.nd rfl (Or.inl rfl)) pgs_nil)))) (fun _ _ _ _ _ => pts_nil) (fun _ _ _ _ _ => (pe_cmpR op_lt (pv 1) (pv 2) (nomark _)))) pa_nil)))), ?_⟩
    have hl1 : 1 ≤ l.length := by
      cases l with
      | nil => exact absurd rfl hne
      | cons a r => exact Nat.le_add_left _ _
    have hcut : ¬ (HT.sIx (nums l).length 0 (some 1) = 0 ∧ HT.sIx (nums l).length (nums l).length none = (nums l).length) := by
      rintro ⟨e, _⟩
      rw [show HT.sIx (nums l).length 0 (some 1) = min 1 (nums l).length from HT.sIx_nat (nums l).length 0 1, nums_len] at e
      omega
    refine ⟨_, rfl, _, rfl, (1 : Int), rfl, t, _, rfl, hq, hcut, fun c nc => ?_⟩
    rw [cut_tail]
    have ed : (nums l).drop 1 = nums (l.drop 1) := by
      unfold nums
      rw [List.map_drop]
    rw [ed] at *
    have s1 : Same H (upd H c (.tup (nums (l.drop 1)))) := same_upd nc
    have hq2 := same_tup s1 hq
    refine ⟨t, c, nums l, nums (l.drop 1), rfl, .inr ⟨hq2, .inl (.inl upd_same), fun D nD => ?_⟩⟩
    have e2 : (upd H c (.tup (nums (l.drop 1)))) c = some (.tup (nums (l.drop 1))) := upd_same
    generalize (upd H c (.tup (nums (l.drop 1)))) = H2 at s1 hq2 nD e2 ⊢
    refine lc_zipT (K := K) (a := t) (b := c) (xs := nums l) (ys := nums (l.drop 1)) (by rw [nums_len, nums_len, List.length_drop]; omega) (fun j H5 => Same H2 H5 ∧ H5 D = some (.lst ((List.replicate j true).map V.bl)))
      ⟨same_upd nD, upd_same⟩ (fun j H5 h => ⟨same_tup h.1 hq2, .inl (.inl (h.1 _ _ e2))⟩) ?_ ?_
    · rintro j x y T5 H5 hx hy ⟨s5, e5⟩ nT
      obtain ⟨d, hd, rfl⟩ := nums_at hx
      obtain ⟨d2, hd2, rfl⟩ := nums_at hy
      rw [List.getElem?_drop] at hd2
      have hlt : d < d2 := by
        obtain ⟨b1, b2⟩ := List.getElem?_eq_some_iff.mp hd
        obtain ⟨b3, b4⟩ := List.getElem?_eq_some_iff.mp hd2
        have := List.pairwise_iff_getElem.mp pw j (1 + j) b1 b3 (by omega)
        omega
      have hj2 := (List.getElem?_eq_some_iff.mp hd).1
      have s6 : Same H5 (upd H5 T5 (.tup [.int (d : Int), .int (d2 : Int)])) := same_upd nT
      refine ⟨T5, _, rfl, .inl (.inl upd_same), rfl, _, _, rfl, _, _, rfl, rfl, rfl, ?_⟩
      refine tyes_i ?_
      refine ⟨_, rfl, _, rfl, _, _, rfl, rfl, _, s6 _ _ e5, ?_, same_put (s5.trans s6) nD, ?_⟩
      · rw [List.length_map, List.length_replicate]
        exact small1000 (by omega)
      · rw [upd_same]
        show some (HO.lst (_ ++ [V.bl (decide ((d : Int) < (d2 : Int)))])) = _
        rw [decide_eq_true (show (d : Int) < (d2 : Int) by omega), List.replicate_succ', List.map_append]
        rfl
    · rintro H5 ⟨s5, e5⟩
      refine ⟨D, _, rfl, SqL.of e5, ?_⟩
      rw [show (List.replicate (nums (l.drop 1)).length true).all id = true from List.all_eq_true.mpr fun b hb => List.eq_of_mem_replicate hb]
      exact q H5 (s1.trans s5)
def scHolds2 : Scope := { kind := .function, names := [(".0", .local), ("place", .cell), ("fits_some", .globalImplicit), ("size", .cell), ("thing", .cell), ("words", .cell)], isGenerator := false, isCoroutine := false }
def spHolds : Sp := fun vs H Q _ => ∃ (a t : Addr) (n : Nat) (ws : List Wd) (l : List Nat), vs = [.int n, .ref a, .ref t] ∧ ArgT H a n ws ∧ H t = some (.tup (nums l)) ∧ ClashOk n ws l ∧ ∀ H', Same H H' → Q (.bl true) H'
theorem c_holds (T : Txt K mg aB) (D : Df K mg "clash_holds" sHolds ["size", "words", "thing"]) (GNeed : Cal P w K mg base 4 "need_told" spNeed []) (GFrom : Cal P w K mg base 2 "is_from" spFrom []) (GRises : Cal P w K mg base 1 "rises" (spRises K) [])
    (GSome : Cal P w K mg base 7 "fits_some" (spSome K) []) : Cal P w K mg base 8 "clash_holds" spHolds [] := by
  refine D.cal scHolds (fun vs H Q E h => ?_) (fun f cdv A outer s H vs Q E hr h => ?_)
  · obtain ⟨_, _, _, _, _, rfl, _⟩ := h
    rfl
  · obtain ⟨a, t, n, ws, l, rfl, g, ht, cl, q⟩ := h
    refine ⟨_, (pss_cons (ps_expr (pe_c GNeed hr (by decide) (by rfl) (pa_cons (pv 0) (pa_cons (pv 1) pa_nil))))
      (pss_cons (ps_if (PW.pt (pw_or (pt_not (pt_val (pe_callB call_isi (by rfl) T.isi (by decide +kernel) (pa_cons (pv 2) (pa_cons (pe_bltn (v := .ty "tuple") (by rfl) T.tuple (by decide +kernel) rfl) pa_nil))))) (pw_or1 (pt_not (pt_val (pe_callB (cr_all rfl) (by rfl) T.all (by decide +kernel) (pa_cons (pe_lc (own := [("one", 3)]) (g := gName 3) (tt := tYes) rfl scHolds.nd (pi_tup (pv 2)) (blkOk_by (own := [("one", 3)]) (N := ["size", "words", "thing", "one", "place"]) (sc := defScope sHolds) (by decide +kernel)) (fun _ _ _ _ _ => (pg_name (i := 3) scHolds.nd rfl (Or.inl rfl))) (fun _ _ _ _ _ => pts_nil) (fun _ _ _ _ _ => (pe_c GFrom hr (by decide) (by rfl) (pa_cons (pv 3) (pa_cons pe_int (pa_cons (pe_op op_sub (pe_callB (r := rLenS K) cr_len (by rfl) T.len PySem.boot_len (pa_cons (pv 1) pa_nil)) pe_int) pa_nil)))))) pa_nil))))))) (pss_one (ps_ret pe_bl)) pss_nil)
      (pss_cons (ps_if (PW.pt (pw_or (pt_not (pt_val (pe_c GRises hr (by decide) (by rfl) (pa_cons (pv 2) pa_nil)))) (pw_or1 (pt_val (pe_c GSome hr (by decide) (by rfl) (pa_cons (pv 0) (pa_cons (pv 1) (pa_cons (pv 2) pa_nil)))))))) (pss_one (ps_ret pe_bl)) pss_nil)
      (pss_one (ps_ret (pe_callB (cr_all rfl) (by rfl) T.all (by decide +kernel) (pa_cons (pe_lc (own := [("place", 4)]) (g := gName 4) (tt := tYes) rfl scHolds.nd (pi_tup (pv 2)) (blkOk_by (own := [("place", 4)]) (N := ["size", "words", "thing", "one", "place"]) (sc := defScope sHolds) (by decide +kernel)) (fun _ _ _ _ _ => (pg_name (i := 4) scHolds.nd rfl (Or.inr rfl))) (fun _ _ _ _ _ => pts_nil) (fun _ _ _ _ _ => (pe_c GSome hr (by decide) (by rfl) (pa_cons (pv 0) (pa_cons (pv 1) (pa_cons (pe_lc (own := [("one", 3)]) (wi := iTup K (tVar 2)) (g := gName 3) rfl scHolds.nd (pi_tup (pv 2)) (blkOk_by (own := [("one", 3)]) (N := ["size", "words", "thing", "one", "place"]) (sc := scHolds2) (by decide +kernel)) (fun _ _ _ _ _ => (pg_name (i := 3) scHolds.nd rfl (Or.inl rfl))) (fun _ _ _ _ _ => (pts_one (pt_cmpR op_ne (pv 3) (pv 4) (nomark _)))) (fun _ _ _ _ _ => (pv 3))) pa_nil)))))) pa_nil))))))), ?_⟩
    have l8 : l.length ≤ 8 := Nat.le_trans (lot_len (mem_lotsM.mpr ⟨cl.rs, cl.lt⟩)) g.l8
    refine ⟨_, rfl, _, rfl, a, n, ws, rfl, g, fun H1 s1 => ?_⟩
    have ht1 := s1 _ _ ht
    obtain ⟨⟨xs, hx, hw⟩, w8, ok, n1, n6⟩ := g.same s1
    refine ⟨_, rfl, .ref t, .ty "tuple", _, _, true, rfl, .ty "tuple", .base (.tup ht1), kit_ty (by decide +kernel), true, rfl, iteF ?_⟩
    refine ⟨_, rfl, t, rfl, ⟨_, .inl (.inl ht1)⟩, fun L nL => ?_⟩
    refine lc_tup (K := K) (a := t) (xs := nums l) (fun i H5 => Same H1 H5 ∧ H5 L = some (.lst ((List.replicate i true).map V.bl))) ⟨same_upd nL, upd_same⟩ (fun i H5 _ h => .inl (.inl (h.1 _ _ ht1))) ?_ ?_
    · rintro j x H5 hj ⟨s5, e5⟩
      obtain ⟨d, hd, rfl⟩ := nums_at hj
      have hdn := cl.lt d (List.mem_of_getElem? hd)
      have hj2 := (List.getElem?_eq_some_iff.mp hd).1
      refine ⟨rfl, ?_⟩
      refine tyes_i ?_
      refine ⟨_, rfl, _, rfl, a, xs, rfl, .inr (.inl (.inl (s5 _ _ hx))), _, _, rfl, rfl, _, _, _, rfl, _, e5, ?_, same_put s5 nL, ?_⟩
      · rw [List.length_map, List.length_replicate]
        exact small1000 (by omega)
      · have hl := hw.len
        rw [upd_same, decide_eq_true (show (0 : Int) ≤ (d : Int) ∧ (d : Int) ≤ ((xs.length : Nat) : Int) - 1 by omega), List.replicate_succ', List.map_append]
        rfl
    · rintro H5 ⟨s5, e5⟩
      refine ⟨L, _, rfl, SqL.of e5, _, rfl, ?_⟩
      rw [show (List.replicate (nums l).length true).all id = true from List.all_eq_true.mpr fun b hb => List.eq_of_mem_replicate hb]
      refine iteF ?_
      -- rises, and no order fits
      refine ⟨_, rfl, t, l, rfl, .inl (.inl (s5 _ _ ht1)), cl.ne, l8, cl.rs, fun H6 s6 => ⟨_, rfl, iteF ?_⟩⟩
      have s16 := s1.trans (s5.trans s6)
      refine ⟨_, rfl, _, rfl, _, rfl, a, t, n, ws, l, rfl, g.same s16, .inr (.inl (.inl (s16 _ _ ht))), cl.lt, l8, fun H7 s7 => ⟨_, rfl, ?_⟩⟩
      rw [cl.no]
      refine iteF ?_
      -- each less one word has
      have s17 := s16.trans s7
      have ht7 := s17 _ _ ht
      refine ⟨_, rfl, t, rfl, ⟨_, .inl (.inl ht7)⟩, fun L2 nL2 => ?_⟩
      refine lc_tup (K := K) (a := t) (xs := nums l) (fun i H8 => Same H7 H8 ∧ H8 L2 = some (.lst ((List.replicate i true).map V.bl))) ⟨same_upd nL2, upd_same⟩ (fun i H5 _ h => .inl (.inl (h.1 _ _ ht7))) ?_ ?_
      · rintro j x H8 hj ⟨s8, e8⟩
        obtain ⟨d, hd, rfl⟩ := nums_at hj
        have hj2 := (List.getElem?_eq_some_iff.mp hd).1
        refine ⟨rfl, ?_⟩
        refine tyes_i ?_
        refine ⟨_, rfl, _, rfl, _, rfl, t, rfl, ⟨_, .inl (.inl (s8 _ _ ht7))⟩, fun D9 nD9 => ?_⟩
        refine lc_tup (K := K) (a := t) (xs := nums l) (fun i H9 => Same H8 H9 ∧ H9 D9 = some (.lst (nums ((l.take i).filter fun y => decide (y ≠ d))))) ⟨same_upd nD9, upd_same⟩ (fun i H5 _ h => .inl (.inl (h.1 _ _ (s8 _ _ ht7)))) ?_ ?_
        · rintro k y H9 hk ⟨s9, e9⟩
          obtain ⟨c, hc, rfl⟩ := nums_at hk
          refine ⟨rfl, _, rfl, _, rfl, rfl, _, rfl, ?_⟩
          rw [filter_take _ hc, nat_dec, nums_app]
          have eb : decide (c ≠ d) = !(c == d) := by
            rw [Bool.eq_iff_iff, decide_eq_true_iff, Bool.not_eq_true', beq_eq_false_iff_ne]
          rw [eb]
          cases hz : (c == d) with
          | true =>
            refine iteF ⟨s9, ?_⟩
            rw [e9]
            show _ = some (HO.lst (_ ++ []))
            rw [List.append_nil]
          | false =>
            refine iteT ⟨_, rfl, _, e9, small_filter _ l8 (by decide), same_put s9 nD9, ?_⟩
            rw [upd_same]
            rfl
        · rintro H9 ⟨s9, e9⟩
          rw [nums_len, List.take_length] at e9
          refine ⟨a, D9, n, ws, _, rfl, g.same (s17.trans (s8.trans s9)), .inl (SqL.of e9), fun i hi => cl.lt i (List.mem_filter.mp hi).1, Nat.le_trans (List.length_filter_le _ _) l8, fun H10 s10 => ?_⟩
          rw [decide_eq_true (cl.less d (List.mem_of_getElem? hd))]
          refine ⟨_, (s9.trans s10) _ _ e8, ?_, same_put (s8.trans (s9.trans s10)) nL2, ?_⟩
          · rw [List.length_map, List.length_replicate]
            exact small1000 (by omega)
          · rw [upd_same, List.replicate_succ', List.map_append]
            rfl
      · rintro H8 ⟨s8, e8⟩
        refine ⟨L2, _, rfl, SqL.of e8, ?_⟩
        rw [show (List.replicate (nums l).length true).all id = true from List.all_eq_true.mpr fun b hb => List.eq_of_mem_replicate hb]
        exact q H8 (s17.trans s8)
end
end LB
namespace LB
open PySem PySem.Spec PyProof.Rows L2
open C8 (Cal pe_c)
/-! ### the pen: a list of four ints; all else stands -/
def PenAt (H : Hp) (p : Addr) : Prop := ∃ c0 c1 c2 c3 : Int, H p = some (.lst [.int c0, .int c1, .int c2, .int c3]) ∧ 0 ≤ c3 ∧ c3 < 1000000007
def Keep (p : Addr) (H H' : Hp) : Prop := (∀ b o, H b = some o → b ≠ p → H' b = some o) ∧ PenAt H' p
theorem PenAt.same {H H' : Hp} {p : Addr} (h : PenAt H p) (s : Same H H') : PenAt H' p := let ⟨c0, c1, c2, c3, e, b⟩ := h; ⟨c0, c1, c2, c3, s _ _ e, b⟩
theorem Keep.refl {p : Addr} {H : Hp} (h : PenAt H p) : Keep p H H := ⟨fun _ _ e _ => e, h⟩
theorem Keep.same {p : Addr} {H H1 H2 : Hp} (k : Keep p H H1) (s : Same H1 H2) : Keep p H H2 := ⟨fun b o e n => s _ _ (k.1 b o e n), k.2.same s⟩
theorem Keep.of {p : Addr} {H H1 : Hp} (h : PenAt H p) (s : Same H H1) : Keep p H H1 := (Keep.refl h).same s
theorem Keep.trans {p : Addr} {H H1 H2 : Hp} (a : Keep p H H1) (b : Keep p H1 H2) : Keep p H H2 := ⟨fun c o e n => b.1 c o (a.1 c o e n) n, b.2⟩
theorem Keep.free {p : Addr} {H H1 : Hp} {l : Addr} (k : Keep p H H1) (h : H1 l = none) : H l = none := by
  cases e : H l with
  | none => rfl
  | some o =>
    by_cases n : l = p
    · subst n
      obtain ⟨_, _, _, _, e2, _⟩ := k.2
      rw [h] at e2
      cases e2
    · rw [k.1 l o e n] at h
      cases h
theorem Keep.put {p l : Addr} {H H1 : Hp} {o : HO} (k : Keep p H H1) (n : H l = none) (np : l ≠ p) : Keep p H (upd H1 l o) := by
  refine ⟨fun b x e nb => ?_, ?_⟩
  · rw [upd_ne (ne_of_none e n)]
    exact k.1 b x e nb
  · obtain ⟨c0, c1, c2, c3, e, b⟩ := k.2
    exact ⟨c0, c1, c2, c3, by rw [upd_ne np.symm]; exact e, b⟩
theorem PenAt.some {H : Hp} {p : Addr} (h : PenAt H p) : ∃ xs, H p = some (.lst xs) := let ⟨_, _, _, _, e, _⟩ := h; ⟨_, e⟩
theorem PenAt.ne {H : Hp} {p l : Addr} (h : PenAt H p) (n : H l = none) : l ≠ p := fun e => by
  obtain ⟨xs, q⟩ := h.some
  rw [← e, n] at q
  cases q
theorem Keep.tup {p t : Addr} {H H1 : Hp} {xs : List V} (k : Keep p H H1) (hp : PenAt H p) (h : H t = some (.tup xs)) : H1 t = some (.tup xs) := by
  refine k.1 t _ h fun e => ?_
  obtain ⟨ys, q⟩ := hp.some
  rw [← e, h] at q
  cases q
theorem Keep.tups {p : Addr} {H H1 : Hp} (k : Keep p H H1) (hp : PenAt H p) : Tups H H1 := fun _ _ e => k.tup hp e
section
variable {P : Program} {w : World} {K : PySem.W.Frag} {mg : Str → Option Value} {base : Heap} {aB : Addr}
/-! ### _law_pen, _law_cell_at, _law_draw -/
def spPen : Sp := fun vs H Q _ => ∃ i : Int, vs = [.int i] ∧ ∀ H' p, Same H H' → H p = none → PenAt H' p → Q (.ref p) H'
theorem c_pen (T : Txt K mg aB) (D : Df K mg "_law_pen" sPen ["_law_cell"]) : Cal P w K mg base 1 "_law_pen" spPen [] := by
  refine D.cal scPen (fun vs H Q E h => ?_) (fun f cdv A outer s H vs Q E hr h => ?_)
  · obtain ⟨_, rfl, _⟩ := h
    rfl
  · obtain ⟨i, rfl, q⟩ := h
    refine ⟨_, (pss_one (ps_ret (pe_lst (pa_cons (pv 0) (pa_cons (pe_callTy call_int1 (by rfl) T.int (by decide +kernel) (pa_cons (pe_cmpR op_ge (pv 0) (pe_op op_pow pe_int pe_int) (nomark _)) pa_nil)) (pa_cons pe_int (pa_cons (pe_op op_mod (pv 0) pe_int) pa_nil))))))), ?_⟩
    refine ⟨_, rfl, _, rfl, _, _, rfl, rfl, ⟨by decide, by decide, by decide⟩, _, _, rfl, rfl, .inr ⟨_, rfl, _, rfl, _, _, rfl, rfl, by show (0 : Int) < 1000000007; decide, by show 4 ≤ sizeLine; decide, fun p np => ?_⟩⟩
    exact q _ p (same_upd np) np ⟨_, _, _, _, upd_same, Int.emod_nonneg _ (by decide), Int.emod_lt_of_pos _ (by decide)⟩
def spCellAt (K : PySem.W.Frag) : Sp := fun vs H Q _ => ∃ (a : Addr) (ns : List Int) (k : Nat), vs = [.ref a, .int k] ∧ SqL K H a (ns.map V.int) ∧ ∀ i : Int, Q (.int i) H
theorem c_cellAt (T : Txt K mg aB) (D : Df K mg "_law_cell_at" sCellAt ["_law_script", "_law_k"]) : Cal P w K mg base 1 "_law_cell_at" (spCellAt K) [] := by
  refine D.cal scCellAt (fun vs H Q E h => ?_) (fun f cdv A outer s H vs Q E hr h => ?_)
  · obtain ⟨_, _, _, rfl, _⟩ := h
    rfl
  · obtain ⟨a, ns, k, rfl, hq, q⟩ := h
    refine ⟨_, (pss_cons (ps_if (pt_cmpR op_lt (pv 1) (pe_callB call_len_seq (by rfl) T.len PySem.boot_len (pa_cons (pv 0) pa_nil)) (nomark _)) (pss_one (ps_ret (pe_ix ix_list (pv 0) (pv 1) (fun _ _ => rfl)))) pss_nil)
      (pss_one (ps_ret pe_int))), ?_⟩
    refine ⟨_, rfl, _, rfl, a, _, rfl, .inl hq, _, _, rfl, rfl, _, rfl, ite2 (fun e => ?_) (fun _ => q 0)⟩
    have hk : k < ns.length := by
      have := of_decide_eq_true e
      rw [List.length_map] at this
      omega
    refine ⟨_, rfl, _, rfl, a, _, _, _, rfl, rfl, hq, atI_nat ?_, q ns[k]⟩
    rw [List.getElem?_map, List.getElem?_eq_getElem hk]
    rfl
def spDraw : Sp := fun vs H Q _ => ∃ (p : Addr) (b : Nat), vs = [.ref p, .int b] ∧ PenAt H p ∧ 1 ≤ b ∧ b ≤ 1000 ∧ ∀ (H' : Hp) (r : Nat), Keep p H H' → r < b → Q (.int (r : Int)) H'
theorem emod_nat {x : Int} {b : Nat} (h : 1 ≤ b) : ∃ r : Nat, x % (b : Int) = (r : Int) ∧ r < b := by
  have h1 := Int.emod_nonneg x (show (b : Int) ≠ 0 by omega)
  have h2 := Int.emod_lt_of_pos x (show (0 : Int) < b by omega)
  exact ⟨(x % (b : Int)).toNat, by omega, by omega⟩
theorem cm17 {c : Int} (h1 : 0 ≤ c) (h2 : c < 1000000007) : -(2 ^ 64) < c + 17 ∧ c + 17 < 2 ^ 64 := by omega
theorem cmod (x : Int) {m : Int} (h1 : 0 < m) (h2 : m < 2 ^ 64) : -(2 ^ 64) < x % m ∧ x % m < 2 ^ 64 := by
  have := Int.emod_nonneg x (show m ≠ 0 by omega)
  have := Int.emod_lt_of_pos x h1
  omega
theorem c_draw (T : Txt K mg aB) (D : Df K mg "_law_draw" sDraw ["_law_pen_here", "_law_bound"]) : Cal P w K mg base 1 "_law_draw" spDraw [] := by
  refine D.cal scDraw (fun vs H Q E h => ?_) (fun f cdv A outer s H vs Q E hr h => ?_)
  · obtain ⟨_, _, rfl, _⟩ := h
    rfl
  · obtain ⟨p, b, rfl, ⟨c0, c1, c2, c3, hp, l3, u3⟩, b1, b2, q⟩ := h
    refine ⟨_, (pss_cons (ps_if (PW.pt (pw_and (pt_cmpR op_eq (pe_ix ix_list (pv 0) pe_int (fun _ _ => rfl)) pe_int (nomark _)) (pw_and1 (pt_cmpR op_gt (pe_ix ix_list (pv 0) pe_int (fun _ _ => rfl)) pe_int (nomark _))))) (pss_cons (ps_set (i := 2) scDraw.nd rfl (Or.inl rfl) (pe_op op_mod (pe_ix ix_list (pv 0) pe_int (fun _ _ => rfl)) (pv 1)))
        (pss_cons (ps_asg (pe_op op_fdiv (pe_ix ix_list (pv 0) pe_int (fun _ _ => rfl)) (pv 1)) (pg_sub (pv 0) pe_int set_list))
        (pss_one (ps_ret (pv 2))))) pss_nil)
      (pss_cons (ps_asg (pe_op op_add (pe_ix ix_list (pv 0) pe_int (fun _ _ => rfl)) pe_int) (pg_sub (pv 0) pe_int set_list))
      (pss_cons (ps_set (i := 3) scDraw.nd rfl (Or.inl rfl) (pe_op op_mod (pe_op op_mul (pe_op op_add (pe_ix ix_list (pv 0) pe_int (fun _ _ => rfl)) pe_int) (pe_op op_add pe_int (pe_op op_mul pe_int (pe_ix ix_list (pv 0) pe_int (fun _ _ => rfl))))) pe_int))
      (pss_cons (ps_set (i := 3) scDraw.nd rfl (Or.inl rfl) (pe_op op_mod (pe_op op_add (pe_op op_add (pe_op op_mul (pv 3) (pv 3)) (pe_op op_mul pe_int (pe_ix ix_list (pv 0) pe_int (fun _ _ => rfl)))) pe_int) pe_int))
      (pss_one (ps_ret (pe_op op_mod (pe_op op_fdiv (pe_op op_mod (pe_op op_mul (pv 3) pe_int) pe_int) pe_int) (pv 1)))))))), ?_⟩
    have wr : ∀ (H1 : Hp) (xs : List V) d0 d1 d2 d3, (∀ x o, H x = some o → x ≠ p → H1 x = some o) → xs = [.int d0, .int d1, .int d2, .int d3] → 0 ≤ d3 → d3 < 1000000007 → Keep p H (upd H1 p (.lst xs)) := fun H1 xs d0 d1 d2 d3 hk e h1 h2 => by
      refine ⟨fun x o ex nx => by rw [upd_ne nx]; exact hk x o ex nx, d0, d1, d2, d3, by rw [upd_same, e], h1, h2⟩
    have fin : ∀ {H1 : Hp} (x : Int), Keep p H H1 → Q (.int (x % (b : Int))) H1 := fun x k => by
      obtain ⟨r, er, hr2⟩ := emod_nat (x := x) b1
      rw [er]
      exact q _ r k hr2
    refine ⟨_, rfl, p, _, (1 : Int), _, rfl, rfl, SqL.of hp, atI_nat (j := 1) rfl, rfl, _, rfl, ite2 (fun e1 => ⟨_, rfl, p, _, (0 : Int), _, rfl, rfl, SqL.of hp, atI_nat (j := 0) rfl, _, _, rfl, rfl, _, rfl, ite2 (fun e2 => ?g1) (fun e2 => ?g2)⟩) (fun e1 => iteF ?g3)⟩
    case g1 => -- a digit of the cell
        refine ⟨_, rfl, p, _, (0 : Int), _, rfl, rfl, SqL.of hp, atI_nat (j := 0) rfl, _, rfl, _, _, rfl, rfl, by show (0 : Int) < (b : Int); omega, ?_⟩
        refine ⟨_, rfl, p, _, (0 : Int), _, rfl, rfl, SqL.of hp, atI_nat (j := 0) rfl, _, rfl, _, _, rfl, rfl, ⟨by show (0 : Int) < (b : Int); omega, by show (b : Int) < 1073741824; omega⟩, _, rfl, p, _, (0 : Int), 0, rfl, rfl, hp, rfl, ?_⟩
        exact ⟨_, rfl, fin c0 (wr H _ _ _ _ _ (fun _ _ e _ => e) rfl l3 u3)⟩
    all_goals
      -- a cell stirred anew
      refine ⟨_, rfl, p, _, (2 : Int), _, rfl, rfl, SqL.of hp, atI_nat (j := 2) rfl, _, _, rfl, rfl, _, rfl, p, _, (2 : Int), 2, rfl, rfl, hp, rfl, ?_⟩
      refine ⟨_, rfl, p, _, (3 : Int), _, rfl, rfl, SqL.of upd_same, atI_nat (j := 3) rfl, _, _, rfl, rfl, _, rfl, p, _, (2 : Int), _, rfl, rfl, SqL.of upd_same, atI_nat (j := 2) rfl, _, _, rfl, rfl, .inl ⟨by decide, by decide⟩, _, _, rfl, rfl,
        _, _, rfl, rfl, .inl (cm17 l3 u3), _, _, rfl, rfl, by show (0 : Int) < 2147483647; decide, ?_⟩
      refine ⟨_, rfl, _, rfl, _, _, rfl, rfl, .inl (cmod _ (by decide) (by decide)), _, rfl, p, _, (2 : Int), _, rfl, rfl, SqL.of upd_same, atI_nat (j := 2) rfl, _, _, rfl, rfl, .inl ⟨by decide, by decide⟩, _, _, rfl, rfl, _, _, rfl, rfl, _, _, rfl, rfl, by show (0 : Int) < 2147483629; decide, ?_⟩
      refine ⟨_, rfl, _, _, rfl, rfl, .inl (cmod _ (by decide) (by decide)), _, _, rfl, rfl, by show (0 : Int) < 2147483647; decide, _, _, rfl, rfl, ⟨by decide, by decide⟩, _, rfl, _, _, rfl, rfl, by show (0 : Int) < (b : Int); omega, ?_⟩
      exact fin _ (wr H _ _ _ _ _ (fun _ _ e _ => e) rfl l3 u3)
end
end LB
namespace LB
open PySem PySem.Spec PyProof.Rows L2
open C8 (Cal pe_c)
section
variable {P : Program} {w : World} {K : PySem.W.Frag} {mg : Str → Option Value} {base : Heap} {aB : Addr}
/-! ### _law_mixed -/
def spMixed (K : PySem.W.Frag) : Sp := fun vs H Q _ => ∃ (p b : Addr) (xs : List V), vs = [.ref p, .ref b] ∧ PenAt H p ∧ SqA K H b xs ∧ xs.length ≤ 8 ∧
  ∀ H' L ys, Keep p H H' → H L = none → H' L = some (.lst ys) → ys.Perm xs → Q (.ref L) H'
theorem seqIx {r n : Nat} (h : r < n) : seqIndex? (r : Int) n = some r := by
  refine (ixN_seq (show ixN n (r : Int) = some r from ?_)).1
  unfold ixN
  rw [if_pos (by omega), if_pos (by omega), Int.toNat_natCast]
theorem erase_perm {α : Type} : ∀ {l : List α} {i : Nat} (h : i < l.length), (l[i] :: l.eraseIdx i).Perm l
  | a :: r, 0, _ => List.Perm.refl _
  | a :: r, i + 1, h => by
    have ih := erase_perm (l := r) (i := i) (by simpa using h)
    show (r[i]'_ :: a :: r.eraseIdx i).Perm (a :: r)
    exact (List.Perm.swap _ _ _).trans (ih.cons a)
theorem c_mixed (T : Txt K mg aB) (D : Df K mg "_law_mixed" sMixed ["_law_pen_here", "_law_some"]) (GDraw : Cal P w K mg base 1 "_law_draw" spDraw []) : Cal P w K mg base 2 "_law_mixed" (spMixed K) [] := by
  refine D.cal scMixed (fun vs H Q E h => ?_) (fun f cdv A outer s H vs Q E hr h => ?_)
  · obtain ⟨_, _, _, rfl, _⟩ := h
    rfl
  · obtain ⟨p, b, xs, rfl, hp, hq, l8, q⟩ := h
    refine ⟨_, (pss_cons (ps_set (i := 2) scMixed.nd rfl (Or.inr rfl) (pe_callTy call_list_of (by rfl) T.list (by decide +kernel) (pa_cons (pv 1) pa_nil)))
      (pss_one (ps_ret (pe_lc (own := [("_law_k", 3)]) (g := gName 3) (tt := tYes) rfl scMixed.nd (pi_range1 (by rfl) T.range (pa_cons (pe_callB call_len_seq (by rfl) T.len PySem.boot_len (pa_cons (pv 2) pa_nil)) pa_nil)) (blkOk_by (own := [("_law_k", 3)]) (N := ["_law_pen_here", "_law_some", "_law_left", "_law_k"]) (sc := defScope sMixed) (by decide +kernel)) (fun _ _ _ _ _ => (pg_name (i := 3) scMixed.nd rfl (Or.inl rfl))) (fun _ _ _ _ _ => pts_nil) (fun _ _ _ _ _ => (show PE _ _ (tBM K "list" rPopAt (tVar 2) (tCons (tCall spDraw [] E0 (tCons (tVar 0) (tCons (tCB (rLenS K) (tCons (tVar 2) tNil)) tNil))) tNil)) from (pe_bm PySem.F.plainAttrs_list PySem.F.slot_list_pop PySem.F.type_list_pop mt_popAt (pv 2) (pa_cons (pe_c GDraw hr (by decide) (by rfl) (pa_cons (pv 0) (pa_cons (pe_callB (r := rLenS K) cr_len (by rfl) T.len PySem.boot_len (pa_cons (pv 2) pa_nil)) pa_nil))) pa_nil)))))))), ?_⟩
    refine ⟨_, rfl, b, xs, rfl, hq, fun l nl => ?_⟩
    have hlp := hp.ne nl
    refine ⟨_, rfl, l, _, rfl, .inl (SqL.of upd_same), _, rfl, by omega, by omega, fun D nD => ?_⟩
    rw [Int.toNat_natCast]
    have nDl : D ≠ l := (ne_of_none upd_same nD).symm
    have nD0 : H D = none := by
      rw [upd_ne nDl] at nD
      exact nD
    have hDp := hp.ne nD0
    refine lc_range (n := xs.length) (fun j H5 => Keep p H H5 ∧ ∃ rem acc, H5 l = some (.lst rem) ∧ H5 D = some (.lst acc) ∧ (acc ++ rem).Perm xs ∧ rem.length + j = xs.length)
      ⟨((Keep.refl hp).put nl hlp).put nD0 hDp, xs, [], by rw [upd_ne nDl.symm, upd_same], upd_same, List.Perm.refl _, rfl⟩ ?_ ?_
    · rintro j H5 hj ⟨k5, rem, acc, el, eD, pm, hlen⟩
      refine ⟨rfl, ?_⟩
      refine tyes_i ?_
      refine ⟨_, rfl, .inl ⟨rfl, _, SqL.of el⟩, _, rfl, _, rfl, l, rem, rfl, .inl (SqL.of el), p, rem.length, rfl, k5.2, by omega, by omega, fun H6 r k6 hr2 => ?_⟩
      have el6 := k6.1 _ _ el hlp
      have eD6 := k6.1 _ _ eD hDp
      refine ⟨l, rem, (r : Int), r, rem[r], rfl, rfl, el6, by omega, by omega, seqIx hr2, List.getElem?_eq_getElem hr2, ?_⟩
      have al : acc.length < sizeLine := by
        have := pm.length_eq
        rw [List.length_append] at this
        exact small1000 (by omega)
      refine ⟨acc, by rw [upd_ne nDl]; exact eD6, al, ((k5.trans k6).put nl hlp).put nD0 hDp, rem.eraseIdx r, acc ++ [rem[r]], by rw [upd_ne nDl.symm, upd_same], upd_same, ?_, ?_⟩
      · rw [List.append_assoc]
        exact ((erase_perm hr2).append_left acc).trans pm
      · rw [List.length_eraseIdx_of_lt hr2]
        omega
    · rintro H5 ⟨k5, rem, acc, el, eD, pm, hlen⟩
      have er : rem = [] := List.eq_nil_of_length_eq_zero (by omega)
      rw [er, List.append_nil] at pm
      exact q H5 D acc k5 nD0 eD pm
/-! ### _law_true, _law_told -/
def spTrue : Sp := fun vs H Q _ => ∃ (p o : Addr) (n : Nat) (od : List Nat), vs = [.ref p, .ref o] ∧ PenAt H p ∧ H o = some (.lst (nums od)) ∧ o ≠ p ∧ Ord n od ∧ 1 ≤ n ∧ n ≤ 6 ∧
  ∀ H' t wd, Keep p H H' → H t = none → WdAt H' (.ref t) wd → wd.Ok n → Q (.ref t) H'
theorem wd_new {H : Hp} {t : Addr} {wd : Wd} {o : HO} (e : o = .tup [.str (kW wd.k), .int (wd.one : Int), .int (wd.oth : Int)]) : WdAt (upd H t o) (.ref t) wd := ⟨t, rfl, by rw [upd_same, e]⟩
theorem c_true (T : Txt K mg aB) (D : Df K mg "_law_true" sTrue ["_law_pen_here", "_law_order"]) (GDraw : Cal P w K mg base 1 "_law_draw" spDraw []) : Cal P w K mg base 2 "_law_true" spTrue [] := by
  refine D.cal scTrue (fun vs H Q E h => ?_) (fun f cdv A outer s H vs Q E hr h => ?_)
  · obtain ⟨_, _, _, _, rfl, _⟩ := h
    rfl
  · obtain ⟨p, o, n, od, rfl, hp, ho, nop, hor, n1, n6, q⟩ := h
    refine ⟨_, (pss_cons (ps_set (i := 2) scTrue.nd rfl (Or.inl rfl) (pe_callB call_len_seq (by rfl) T.len PySem.boot_len (pa_cons (pv 1) pa_nil)))
      (pss_cons (ps_par (i := 3) (j := 4) rfl scTrue.nd rfl rfl (by decide) rfl rfl (pa_cons (pe_c GDraw hr (by decide) (by rfl) (pa_cons (pv 0) (pa_cons (pv 2) pa_nil))) (pa_cons (pe_c GDraw hr (by decide) (by rfl) (pa_cons (pv 0) (pa_cons (pv 2) pa_nil))) pa_nil)) (by rfl))
      (pss_cons (ps_set (i := 5) scTrue.nd rfl (Or.inl rfl) (pe_c GDraw hr (by decide) (by rfl) (pa_cons (pv 0) (pa_cons pe_int pa_nil))))
      (pss_cons (ps_if (PW.pt (pw_or (pt_cmpR op_eq (pv 5) pe_int (nomark _)) (pw_or1 (pt_cmpR op_eq (pv 3) (pv 4) (nomark _))))) (pss_one (ps_ret (pe_tup (pa_cons pe_str (pa_cons (pe_ix ix_list (pv 1) (pv 3) (fun _ _ => rfl)) (pa_cons (pv 3) pa_nil)))))) pss_nil)
      (pss_cons (ps_if (pt_cmpR op_eq (pv 5) pe_int (nomark _)) (pss_one (ps_ret (pe_tup (pa_cons pe_str (pa_cons (pe_ix ix_list (pv 1) (pv 3) (fun _ _ => rfl)) (pa_cons (pv 4) pa_nil)))))) pss_nil)
      (pss_one (ps_ret (pe_tup (pa_cons pe_str (pa_cons (pe_ix ix_list (pv 1) (pe_callB (call_min2 rfl) (by rfl) T.min (by decide +kernel) (pa_cons (pv 3) (pa_cons (pv 4) pa_nil))) (fun _ _ => rfl)) (pa_cons (pe_ix ix_list (pv 1) (pe_callB (call_max2 rfl) (by rfl) T.max (by decide +kernel) (pa_cons (pv 3) (pa_cons (pv 4) pa_nil))) (fun _ _ => rfl)) pa_nil))))))))))), ?_⟩
    have hl := hor.ln
    refine ⟨_, rfl, o, _, rfl, .inl (SqL.of ho), ?_⟩
    rw [nums_len, hl]
    refine ⟨_, rfl, _, rfl, p, n, rfl, hp, n1, by omega, fun H1 at1 k1 h1 => ?_⟩
    refine ⟨_, rfl, _, rfl, p, n, rfl, k1.2, n1, by omega, fun H2 to1 k2 h2 => ⟨_, _, rfl, ?_⟩⟩
    refine ⟨_, rfl, p, 3, rfl, k2.2, by decide, by decide, fun H3 way k3 h3 => ?_⟩
    have k13 := k1.trans (k2.trans k3)
    have ho3 := k13.1 _ _ ho nop
    have hat : od[at1]? = some (od[at1]'(by omega)) := List.getElem?_eq_getElem (by omega)
    have hto : od[to1]? = some (od[to1]'(by omega)) := List.getElem?_eq_getElem (by omega)
    have hA : ∀ i (h : i < n), od[i]'(by omega) < n := fun i h => hor.lt _ (List.getElem_mem _)
    -- at: way == 0 or at == to
    have fin : ∀ (t : Addr) (wd : Wd) (o : HO), H3 t = none → o = .tup [.str (kW wd.k), .int (wd.one : Int), .int (wd.oth : Int)] → wd.Ok n → Q (.ref t) (upd H3 t o) := fun t wd o nt e ok =>
      q _ t wd (k13.put (k13.free nt) (k13.2.ne nt)) (k13.free nt) (wd_new e) ok
    refine ⟨_, rfl, rfl, _, rfl, ite2 (fun e1 => ?g1) (fun e1 => ⟨_, rfl, _, rfl, rfl, _, rfl, ite2 (fun e2 => ?g2) (fun e2 => ?g3)⟩)⟩
    case g3 =>
      have hne : at1 ≠ to1 := fun z => e2 (decide_eq_true (by rw [z]))
      refine ⟨_, rfl, rfl, _, rfl, ite2 (fun e3 => ?_) (fun e3 => ?_)⟩
      · refine ⟨_, rfl, _, rfl, o, _, (at1 : Int), _, rfl, rfl, SqL.of ho3, atI_nat (nums_get hat), _, rfl, by show 3 ≤ sizeLine; decide, fun t nt => ?_⟩
        exact fin t ⟨.kNot, od[at1]'(by omega), to1⟩ _ nt rfl ⟨hA at1 h1, h2, fun e => by cases e⟩
      · have nd : ∀ i j (hi : i < n) (hj : j < n), i ≠ j → od[i]'(by omega) ≠ od[j]'(by omega) := fun i j hi hj h e => h ((List.getElem_inj hor.nd).mp e)
        by_cases hlt : at1 < to1
        · refine ⟨_, rfl, _, rfl, _, rfl, _, _, rfl, ?_⟩
          rw [if_neg (show ¬ ((to1 : Int) < (at1 : Int)) by omega)]
          refine ⟨o, _, (at1 : Int), _, rfl, rfl, SqL.of ho3, atI_nat (nums_get hat), _, rfl, _, rfl, _, rfl, _, _, rfl, ?_⟩
          rw [if_pos (show (to1 : Int) > (at1 : Int) by omega)]
          refine ⟨o, _, (to1 : Int), _, rfl, rfl, SqL.of ho3, atI_nat (nums_get hto), by show 3 ≤ sizeLine; decide, fun t nt => ?_⟩
          exact fin t ⟨.kAhd, od[at1]'(by omega), od[to1]'(by omega)⟩ _ nt rfl ⟨hA at1 h1, hA to1 h2, fun _ => nd at1 to1 h1 h2 hne⟩
        · refine ⟨_, rfl, _, rfl, _, rfl, _, _, rfl, ?_⟩
          rw [if_pos (show ((to1 : Int) < (at1 : Int)) by omega)]
          refine ⟨o, _, (to1 : Int), _, rfl, rfl, SqL.of ho3, atI_nat (nums_get hto), _, rfl, _, rfl, _, rfl, _, _, rfl, ?_⟩
          rw [if_neg (show ¬ (to1 : Int) > (at1 : Int) by omega)]
          refine ⟨o, _, (at1 : Int), _, rfl, rfl, SqL.of ho3, atI_nat (nums_get hat), by show 3 ≤ sizeLine; decide, fun t nt => ?_⟩
          exact fin t ⟨.kAhd, od[to1]'(by omega), od[at1]'(by omega)⟩ _ nt rfl ⟨hA to1 h2, hA at1 h1, fun _ => nd to1 at1 h2 h1 hne.symm⟩
    all_goals
      refine ⟨_, rfl, _, rfl, o, _, (at1 : Int), _, rfl, rfl, SqL.of ho3, atI_nat (nums_get hat), _, rfl, by show 3 ≤ sizeLine; decide, fun t nt => ?_⟩
      exact fin t ⟨.kAt, od[at1]'(by omega), at1⟩ _ nt rfl ⟨hA at1 h1, h1, fun e => by cases e⟩
end
end LB
namespace LB
open PySem PySem.Spec PyProof.Rows L2
open C8 (Cal pe_c)
theorem WdAt.keep {p : Addr} {H H1 : Hp} {v : V} {wd : Wd} (k : Keep p H H1) (hp : PenAt H p) (h : WdAt H v wd) : WdAt H1 v wd := let ⟨q, e, r⟩ := h; ⟨q, e, k.tup hp r⟩
section
variable {P : Program} {w : World} {K : PySem.W.Frag} {mg : Str → Option Value} {base : Heap} {aB : Addr}
def spLTold : Sp := fun vs H Q _ => ∃ (p : Addr) (n : Nat), vs = [.ref p, .int n] ∧ PenAt H p ∧ 1 ≤ n ∧ n ≤ 6 ∧
  ∀ H' t wd, Keep p H H' → H t = none → WdAt H' (.ref t) wd → wd.Ok n → Q (.ref t) H'
theorem c_ltold (T : Txt K mg aB) (D : Df K mg "_law_told" sLTold ["_law_pen_here", "_law_size"]) (GDraw : Cal P w K mg base 1 "_law_draw" spDraw []) : Cal P w K mg base 2 "_law_told" spLTold [] := by
  refine D.cal scLTold (fun vs H Q E h => ?_) (fun f cdv A outer s H vs Q E hr h => ?_)
  · obtain ⟨_, _, rfl, _⟩ := h
    rfl
  · obtain ⟨p, n, rfl, hp, n1, n6, q⟩ := h
    refine ⟨_, (pss_cons (ps_par3 (i := 2) (j := 3) (l := 4) rfl scLTold.nd rfl rfl rfl (by decide) (by decide) (by decide) rfl rfl rfl (pa_cons (pe_ix ix_list (pe_lst (pa_cons pe_str (pa_cons pe_str (pa_cons pe_str pa_nil)))) (pe_c GDraw hr (by decide) (by rfl) (pa_cons (pv 0) (pa_cons pe_int pa_nil))) (fun _ _ => rfl)) (pa_cons (pe_c GDraw hr (by decide) (by rfl) (pa_cons (pv 0) (pa_cons (pv 1) pa_nil))) (pa_cons (pe_c GDraw hr (by decide) (by rfl) (pa_cons (pv 0) (pa_cons (pv 1) pa_nil))) pa_nil))) (by rfl))
      (pss_cons (ps_if (PW.pt (pw_and (pt_cmpR op_eq (pv 2) pe_str (nomark _)) (pw_and1 (pt_cmpR op_eq (pv 3) (pv 4) (nomark _))))) (pss_one (ps_set (i := 2) scLTold.nd rfl (Or.inl rfl) pe_str)) pss_nil)
      (pss_one (ps_ret (pe_tup (pa_cons (pv 2) (pa_cons (pv 3) (pa_cons (pv 4) pa_nil)))))))), ?_⟩
    refine ⟨by show 3 ≤ sizeLine; decide, fun L nL => ?_⟩
    have hLp := hp.ne nL
    have k0 := (Keep.refl hp).put (o := .lst [.str "at", .str "not", .str "ahead"]) nL hLp
    refine ⟨_, rfl, p, 3, rfl, k0.2, by decide, by decide, fun H1 r k1 hr3 => ?_⟩
    have eL := k1.1 _ _ upd_same hLp
    obtain ⟨kd, hkd⟩ : ∃ kd : Kd, ([V.str "at", .str "not", .str "ahead"] : List V)[r]? = some (.str (kW kd)) := by
      match r, hr3 with
      | 0, _ => exact ⟨.kAt, rfl⟩
      | 1, _ => exact ⟨.kNot, rfl⟩
      | 2, _ => exact ⟨.kAhd, rfl⟩
    refine ⟨L, _, (r : Int), _, rfl, rfl, SqL.of eL, atI_nat hkd, ?_⟩
    refine ⟨_, rfl, _, rfl, p, n, rfl, k1.2, n1, by omega, fun H2 one k2 h2 => ?_⟩
    refine ⟨_, rfl, _, rfl, p, n, rfl, k2.2, n1, by omega, fun H3 oth k3 h3 => ⟨_, _, _, rfl, ?_⟩⟩
    have k13 := k0.trans (k1.trans (k2.trans k3))
    have fin : ∀ (t : Addr) (wd : Wd) (o : HO), H3 t = none → o = .tup [.str (kW wd.k), .int (wd.one : Int), .int (wd.oth : Int)] → wd.Ok n → Q (.ref t) (upd H3 t o) := fun t wd o nt e ok =>
      q _ t wd (k13.put (k13.free nt) (k13.2.ne nt)) (k13.free nt) (wd_new e) ok
    have ret : ∀ kd : Kd, (kd = .kAhd → one ≠ oth) → ∀ (t : Addr), H3 t = none → Q (.ref t) (upd H3 t (.tup [.str (kW kd), .int (one : Int), .int (oth : Int)])) := fun kd hk t nt => fin t ⟨kd, one, oth⟩ _ nt rfl ⟨h2, h3, hk⟩
    cases kd with
    | kAt => exact ⟨_, rfl, rfl, _, rfl, iteN (kw_f (k := .kAt) (k' := .kAhd) (by decide)) (iteF ⟨_, rfl, _, rfl, _, rfl, by show 3 ≤ sizeLine; decide, ret .kAt fun e => by cases e⟩)⟩
    | kNot => exact ⟨_, rfl, rfl, _, rfl, iteN (kw_f (k := .kNot) (k' := .kAhd) (by decide)) (iteF ⟨_, rfl, _, rfl, _, rfl, by show 3 ≤ sizeLine; decide, ret .kNot fun e => by cases e⟩)⟩
    | kAhd =>
      refine ⟨_, rfl, rfl, _, rfl, iteE (kw_t .kAhd) ⟨_, rfl, _, rfl, rfl, _, rfl, ?_⟩⟩
      rw [nat_dec]
      cases e : (one == oth) with
      | true => exact iteT ⟨_, rfl, _, rfl, _, rfl, by show 3 ≤ sizeLine; decide, ret .kNot fun e => by cases e⟩
      | false => exact iteF ⟨_, rfl, _, rfl, _, rfl, by show 3 ≤ sizeLine; decide, ret .kAhd fun _ => beq_eq_false_iff_ne.mp e⟩
/-! ### _law_words -/
theorem rgV_nums (n : Nat) : rgV 0 (n : Int) = nums (List.range n) := by
  unfold rgV nums
  rw [show ((n : Int) - 0).toNat = n by omega]
  refine List.map_congr_left fun i _ => ?_
  rw [Int.zero_add]
theorem perm_nums : ∀ {ys : List V} {l : List Nat}, ys.Perm (nums l) → ∃ o, ys = nums o ∧ o.Perm l := fun {ys l} h => by
  have hm : ∀ y ∈ ys, ∃ d : Nat, y = V.int (d : Int) := fun y hy => by
    obtain ⟨d, _, e⟩ := List.mem_map.mp (h.mem_iff.mp hy)
    exact ⟨d, e.symm⟩
  let g : V → Nat := fun v => match v with | .int i => i.toNat | _ => 0
  have hg : ∀ y ∈ ys, V.int ((g y : Nat) : Int) = y := fun y hy => by
    obtain ⟨d, rfl⟩ := hm y hy
    rfl
  refine ⟨ys.map g, ?_, ?_⟩
  · unfold nums
    rw [List.map_map]
    have := List.map_congr_left (f := (fun d : Nat => V.int (d : Int)) ∘ g) (g := id) (l := ys) fun y hy => hg y hy
    rw [this, List.map_id]
  · have h2 := h.map g
    have e : (nums l).map g = l := by
      unfold nums
      rw [List.map_map]
      have := List.map_congr_left (f := g ∘ (fun d : Nat => V.int (d : Int))) (g := id) (l := l) fun d _ => rfl
      rw [this, List.map_id]
    rw [e] at h2
    exact h2
theorem perm_ord {n : Nat} {o : List Nat} (h : o.Perm (List.range n)) : Ord n o :=
  ⟨by rw [h.length_eq, List.length_range], h.nodup_iff.mpr List.nodup_range, fun d hd => List.mem_range.mp (h.mem_iff.mp hd)⟩
def spWords : Sp := fun vs H Q _ => ∃ (p : Addr) (n : Nat), vs = [.ref p, .int n] ∧ PenAt H p ∧ 1 ≤ n ∧ n ≤ 6 ∧
  ∀ H' t xs ws, Keep p H H' → H t = none → H' t = some (.tup xs) → WsAt H' xs ws → ws.length ≤ 8 → (∀ w ∈ ws, w.Ok n) → Q (.ref t) H'
theorem c_words (T : Txt K mg aB) (D : Df K mg "_law_words" sWords ["_law_pen_here", "_law_size"]) (GDraw : Cal P w K mg base 1 "_law_draw" spDraw []) (GMixed : Cal P w K mg base 2 "_law_mixed" (spMixed K) [])
    (GTrue : Cal P w K mg base 2 "_law_true" spTrue []) (GLTold : Cal P w K mg base 2 "_law_told" spLTold []) : Cal P w K mg base 3 "_law_words" spWords [] := by
  refine D.cal scWords (fun vs H Q E h => ?_) (fun f cdv A outer s H vs Q E hr h => ?_)
  · obtain ⟨_, _, rfl, _⟩ := h
    rfl
  · obtain ⟨p, n, rfl, hp, n1, n6, q⟩ := h
    refine ⟨_, (pss_cons (ps_set (i := 2) scWords.nd rfl (Or.inl rfl) (pe_c GMixed hr (by decide) (by rfl) (pa_cons (pv 0) (pa_cons (pe_listRg rfl (by rfl) T.list (prg_1 (by rfl) T.range (pv 1))) pa_nil))))
      (pss_cons (ps_set (i := 3) scWords.nd rfl (Or.inl rfl) (pe_lst pa_nil))
      (pss_cons (ps_for PassesOwn.never rfl (pi_range1 (by rfl) T.range (pa_cons (pe_c GDraw hr (by decide) (by rfl) (pa_cons (pv 0) (pa_cons pe_int pa_nil))) pa_nil)) (pg_name (i := 4) scWords.nd rfl (Or.inl rfl))
        (pss_one (ps_expr (pe_bm PySem.F.plainAttrs_list PySem.F.slot_list_append PySem.F.type_list_append mt_append (pv 3) (pa_cons (pe_ix ix_list (pe_lst (pa_cons (pe_c GTrue hr (by decide) (by rfl) (pa_cons (pv 0) (pa_cons (pv 2) pa_nil))) (pa_cons (pe_c GLTold hr (by decide) (by rfl) (pa_cons (pv 0) (pa_cons (pv 1) pa_nil))) pa_nil))) (pe_callTy call_int1 (by rfl) T.int (by decide +kernel) (pa_cons (pe_cmpR op_eq (pe_c GDraw hr (by decide) (by rfl) (pa_cons (pv 0) (pa_cons pe_int pa_nil))) pe_int (nomark _)) pa_nil)) (fun _ _ => rfl)) pa_nil)))))
      (pss_one (ps_ret (pe_callTy call_tuple_of (by rfl) T.tuple (by decide +kernel) (pa_cons (pv 3) pa_nil))))))), ?_⟩
    refine ⟨_, rfl, _, rfl, _, rfl, ⟨by omega, by omega⟩, fun r0 nr0 => ?_⟩
    rw [rgV_nums]
    have hr0p := hp.ne nr0
    have k0 := (Keep.refl hp).put (o := .lst (nums (List.range n))) nr0 hr0p
    refine ⟨p, r0, nums (List.range n), rfl, k0.2, .inl (SqL.of upd_same), by rw [nums_len, List.length_range]; omega, fun H1 o ys k1 no eo pm => ?_⟩
    obtain ⟨od, rfl, pmo⟩ := perm_nums pm
    have hord := perm_ord pmo
    have no0 : H o = none := k0.free no
    have hop := hp.ne no0
    have k01 := k0.trans k1
    refine ⟨Nat.zero_le _, fun F nF => ?_⟩
    have nF0 := k01.free nF
    have hFp := hp.ne nF0
    have hFo : o ≠ F := ne_of_none eo nF
    have k2 := k01.put (o := .lst []) nF0 hFp
    refine ⟨_, rfl, p, 9, rfl, k2.2, by decide, by decide, fun H3 m k3 hm => ⟨_, rfl, by omega, by omega, ?_⟩⟩
    rw [Int.toNat_natCast]
    have k03 := k2.trans k3
    have eF3 := k3.1 _ _ upd_same hFp
    have eo3 := k3.1 _ _ (show upd H1 F (.lst []) o = _ by rw [upd_ne hFo]; exact eo) hop
    refine for_range (lo := 0) (n := m) (fun i σ H4 => ∃ y4 xs ws, σ = [some (V.ref p), some (.int n), some (.ref o), some (.ref F), y4] ∧ Keep p H H4 ∧ H4 o = some (.lst (nums od)) ∧ H4 F = some (.lst xs) ∧ WsAt H4 xs ws ∧ ws.length = i ∧ ∀ w ∈ ws, w.Ok n)
      ⟨_, [], [], rfl, k03, eo3, eF3, .nil, rfl, fun w hw => by cases hw⟩ ?_ ?_
    · rintro i σ H4 hi ⟨y4, xs, ws, rfl, k4, eo4, eF4, hw, hl, ok⟩
      refine ⟨_, rfl, .inl ⟨rfl, _, SqL.of eF4⟩, _, rfl, _, rfl, p, o, n, od, rfl, k4.2, eo4, hop, hord, n1, n6, fun H5 t1 w1 k5 nt1 hw1 ok1 => ?_⟩
      refine ⟨_, rfl, _, rfl, p, n, rfl, k5.2, n1, n6, fun H6 t2 w2 k6 nt2 hw2 ok2 => ?_⟩
      refine ⟨by show 2 ≤ sizeLine; decide, fun L nL => ?_⟩
      have hLp := k6.2.ne nL
      have k7 := (Keep.refl k6.2).put (o := .lst [.ref t1, .ref t2]) nL hLp
      refine ⟨_, rfl, p, 5, rfl, k7.2, by decide, by decide, fun H8 r k8 hr5 => ?_⟩
      have k48 := k5.trans (k6.trans (k7.trans k8))
      have eF8 := k48.1 _ _ eF4 hFp
      have eo8 := k48.1 _ _ eo4 hop
      have hw8 := WsAt.tups (k48.tups k4.2) hw
      have hw18 := WdAt.keep (k6.trans (k7.trans k8)) k5.2 hw1
      have hw28 := WdAt.keep (k7.trans k8) k6.2 hw2
      have eL8 := k8.1 _ _ upd_same hLp
      have fin : ∀ t wd, WdAt H8 (.ref t) wd → wd.Ok n → ∃ y4 xs' ws', ([some (V.ref p), some (.int n), some (.ref o), some (.ref F), some (.int (0 + (i : Int)))] : L2.St) = [some (V.ref p), some (.int n), some (.ref o), some (.ref F), y4] ∧ Keep p H (upd H8 F (.lst (xs ++ [.ref t]))) ∧
          upd H8 F (.lst (xs ++ [.ref t])) o = some (.lst (nums od)) ∧ upd H8 F (.lst (xs ++ [.ref t])) F = some (.lst xs') ∧ WsAt (upd H8 F (.lst (xs ++ [.ref t]))) xs' ws' ∧ ws'.length = i + 1 ∧ ∀ w ∈ ws', w.Ok n := fun t wd ht okt => by
        have tp : Tups H8 (upd H8 F (.lst (xs ++ [.ref t]))) := Tups.put eF8
        refine ⟨_, _, ws ++ [wd], rfl, (k4.trans k48).put nF0 hFp, by rw [upd_ne hFo]; exact eo8, upd_same, ?_, by rw [List.length_append, hl]; rfl, fun x hx => ?_⟩
        · obtain ⟨b, e, hb⟩ := ht
          exact Paired.snoc (WsAt.tups tp hw8) ⟨b, e, tp _ _ hb⟩
        · rcases List.mem_append.mp hx with h | h
          · exact ok x h
          · rw [List.mem_singleton.mp h]
            exact okt
      have al : xs.length < sizeLine := by
        have := hw.len
        exact small1000 (by omega)
      refine ⟨rfl, .inr ⟨_, rfl, ?_⟩⟩
      cases hz : decide (V.int (r : Int) = V.int 0) with
      | true =>
        exact ⟨L, _, (1 : Int), _, rfl, rfl, SqL.of eL8, atI_nat (j := 1) rfl, F, xs, _, rfl, rfl, eF8, al, fin t2 w2 hw28 ok2⟩
      | false =>
        exact ⟨L, _, (0 : Int), _, rfl, rfl, SqL.of eL8, atI_nat (j := 0) rfl, F, xs, _, rfl, rfl, eF8, al, fin t1 w1 hw18 ok1⟩
    · rintro σ H4 ⟨y4, xs, ws, rfl, k4, eo4, eF4, hw, hl, ok⟩
      refine ⟨_, rfl, F, _, rfl, .inl ⟨SqL.of eF4, fun t nt => ?_⟩⟩
      refine q _ t xs ws (k4.put (k4.free nt) (k4.2.ne nt)) (k4.free nt) upd_same (WsAt.same (same_upd nt) hw) (by omega) ok
end
end LB
namespace LB
open PySem PySem.Spec PyProof.Rows L2
open C8 (Cal pe_c)
theorem map_take {α β : Type} {l : List α} {j : Nat} {x : α} (f : α → β) (h : l[j]? = some x) : (l.take (j + 1)).map f = (l.take j).map f ++ [f x] := by
  rw [List.take_add_one, h, List.map_append]
  rfl
theorem nm_get {names : List Nat} {d : Nat} (h : d < names.length) : names[d]? = some (nm names d) := by
  unfold nm
  rw [List.getD_eq_getElem?_getD, List.getElem?_eq_getElem h]
  rfl
section
variable {P : Program} {w : World} {K : PySem.W.Frag} {mg : Str → Option Value} {base : Heap} {aB : Addr}
/-! ### _law_named -/
def spNamed (K : PySem.W.Frag) : Sp := fun vs H Q _ => ∃ (a b : Addr) (xs : List V) (n : Nat) (ws : List Wd) (names : List Nat), vs = [.ref a, .ref b] ∧ H a = some (.tup xs) ∧ WsAt H xs ws ∧ (∀ w ∈ ws, w.Ok n) ∧ ws.length ≤ 8 ∧ n ≤ 6 ∧
  H b = some (.lst (nums names)) ∧ names.length = n ∧ ∀ H' t ys, Same H H' → H t = none → H' t = some (.tup ys) → WsAt H' ys (ws.map (ren names)) → Q (.ref t) H'
theorem c_named (T : Txt K mg aB) (D : Df K mg "_law_named" sNamed ["_law_words_here", "_law_names"]) : Cal P w K mg base 1 "_law_named" (spNamed K) [] := by
  refine D.cal scNamed (fun vs H Q E h => ?_) (fun f cdv A outer s H vs Q E hr h => ?_)
  · obtain ⟨_, _, _, _, _, _, rfl, _⟩ := h
    rfl
  · obtain ⟨a, b, xs, n, ws, names, rfl, ha, hw, ok, l8, n6, hb, hnl, q⟩ := h
    refine ⟨_, (pss_cons (ps_set (i := 2) scNamed.nd rfl (Or.inl rfl) (pe_lst pa_nil))
      (pss_cons (ps_for PassesOwn.never rfl (pi_tup (pv 0)) (pg_tup rfl (pgs_cons (pg_name (i := 3) scNamed.nd rfl (Or.inl rfl)) (pgs_cons (pg_name (i := 4) scNamed.nd rfl (Or.inl rfl)) (pgs_cons (pg_name (i := 5) scNamed.nd rfl (Or.inl rfl)) pgs_nil))))
        (pss_one (ps_expr (pe_bm PySem.F.plainAttrs_list PySem.F.slot_list_append PySem.F.type_list_append mt_append (pv 2) (pa_cons (pe_tup (pa_cons (pv 3) (pa_cons (pe_ix ix_list (pv 1) (pv 4) (fun _ _ => rfl)) (pa_cons (pe_ifExp (pt_cmpR op_eq (pv 3) pe_str (nomark _)) (pe_ix ix_list (pv 1) (pv 5) (fun _ _ => rfl)) (pv 5)) pa_nil)))) pa_nil)))))
      (pss_one (ps_ret (pe_callTy call_tuple_of (by rfl) T.tuple (by decide +kernel) (pa_cons (pv 2) pa_nil)))))), ?_⟩
    refine ⟨Nat.zero_le _, fun F nF => ?_⟩
    have hbF : b ≠ F := ne_of_none hb nF
    refine ⟨_, rfl, a, rfl, ⟨_, .inl (.inl ((same_upd nF) _ _ ha))⟩, ?_⟩
    refine for_tup (K := K) (a := a) (xs := xs) (fun j σ H4 => ∃ y3 y4 y5 ys, σ = [some (V.ref a), some (.ref b), some (.ref F), y3, y4, y5] ∧ Same H H4 ∧ H4 F = some (.lst ys) ∧ WsAt H4 ys ((ws.take j).map (ren names)))
      ⟨_, _, _, [], rfl, same_upd nF, upd_same, .nil⟩ (fun j σ H4 _ ⟨_, _, _, _, _, s4, _⟩ => .inl (.inl (s4 _ _ ha))) ?_ ?_
    · rintro j x σ H4 hj ⟨y3, y4, y5, ys, rfl, s4, eF, hys⟩
      obtain ⟨wd, hwd, p, rfl, hp⟩ := paired_at (WsAt.same s4 hw) hj
      have okw := ok wd (List.mem_of_getElem? hwd)
      have sq := SqL.of (K := K) (s4 _ _ hb)
      refine ⟨p, _, rfl, .inl (.inl hp), rfl, _, _, rfl, _, _, rfl, _, _, rfl, rfl, ?_⟩
      have al : ys.length < sizeLine := by
        have := hys.len
        rw [List.length_map, List.length_take] at this
        exact small1000 (by omega)
      have fin : ∀ (wd' : Wd) (t : Addr), H4 t = none → ren names wd = wd' → rAppend (.ref F) [.ref t] (upd H4 t (.tup [.str (kW wd'.k), .int (wd'.one : Int), .int (wd'.oth : Int)])) fun _ H5 => ∃ y3' y4' y5' ys', ([some (V.ref a), some (.ref b), some (.ref F), some (.str (kW wd.k)), some (.int (wd.one : Int)), some (.int (wd.oth : Int))] : L2.St) = [some (V.ref a), some (.ref b), some (.ref F), y3', y4', y5'] ∧ Same H H5 ∧ H5 F = some (.lst ys') ∧ WsAt H5 ys' ((ws.take (j + 1)).map (ren names)) := fun wd' t nt e => by
        have nFt : F ≠ t := ne_of_none eF nt
        refine ⟨F, ys, _, rfl, rfl, by rw [upd_ne nFt]; exact eF, al, _, _, _, _, rfl, same_put (s4.trans (same_upd nt)) nF, upd_same, ?_⟩
        rw [map_take _ hwd, e]
        have eF2 : upd H4 t (.tup [.str (kW wd'.k), .int (wd'.one : Int), .int (wd'.oth : Int)]) F = some (.lst ys) := by rw [upd_ne nFt]; exact eF
        have tp := (Tups.of (same_upd (o := .tup [.str (kW wd'.k), .int (wd'.one : Int), .int (wd'.oth : Int)]) nt)).trans (Tups.put (o := .lst (ys ++ [.ref t])) eF2)
        exact Paired.snoc (WsAt.tups tp hys) ⟨t, rfl, by rw [upd_ne nFt.symm, upd_same]⟩
      have i1 : (nums names)[wd.one]? = some (.int (nm names wd.one : Nat)) := nums_get (nm_get (by have := okw.h1; omega))
      refine ⟨_, rfl, .inl ⟨rfl, _, SqL.of eF⟩, _, rfl, _, rfl, _, rfl, b, _, (wd.one : Int), _, rfl, rfl, sq, atI_nat i1, ?_⟩
      obtain ⟨k, one, oth⟩ := wd
      cases k with
      | kAhd =>
        have i2 : (nums names)[oth]? = some (.int (nm names oth : Nat)) := nums_get (nm_get (by have := okw.h2; simp only at this; omega))
        exact ⟨_, rfl, rfl, _, rfl, iteE (kw_t .kAhd) ⟨_, rfl, _, rfl, b, _, (oth : Int), _, rfl, rfl, sq, atI_nat i2, by show 3 ≤ sizeLine; decide, fun t nt => fin ⟨.kAhd, nm names one, nm names oth⟩ t nt rfl⟩⟩
      | kAt => exact ⟨_, rfl, rfl, _, rfl, iteN (kw_f (k := .kAt) (k' := .kAhd) (by decide)) ⟨_, rfl, by show 3 ≤ sizeLine; decide, fun t nt => fin ⟨.kAt, nm names one, oth⟩ t nt rfl⟩⟩
      | kNot => exact ⟨_, rfl, rfl, _, rfl, iteN (kw_f (k := .kNot) (k' := .kAhd) (by decide)) ⟨_, rfl, by show 3 ≤ sizeLine; decide, fun t nt => fin ⟨.kNot, nm names one, oth⟩ t nt rfl⟩⟩
    · rintro σ H4 ⟨y3, y4, y5, ys, rfl, s4, eF, hys⟩
      rw [hw.len, List.take_length] at hys
      exact ⟨_, rfl, F, _, rfl, .inl ⟨SqL.of eF, fun t nt => q _ t ys (s4.trans (same_upd nt)) (s4.free nt) upd_same (WsAt.same (same_upd nt) hys)⟩⟩
/-! ### _law_clash_right -/
def spRight : Sp := fun vs H Q _ => ∃ (a : Addr) (n : Nat) (ws : List Wd), vs = [.int n, .ref a] ∧ ArgT H a n ws ∧ ∀ H', Same H H' → Q (.bl true) H'
theorem c_right (T : Txt K mg aB) (D : Df K mg "_law_clash_right" sRight ["_law_size", "_law_words_here"]) (GClash : Cal P w K mg base 8 "first_clash" spClash []) (GHolds : Cal P w K mg base 8 "clash_holds" spHolds [])
    (GMany : Cal P w K mg base 7 "orders_many" spMany []) : Cal P w K mg base 9 "_law_clash_right" spRight [] := by
  refine D.cal scRight (fun vs H Q E h => ?_) (fun f cdv A outer s H vs Q E hr h => ?_)
  · obtain ⟨_, _, _, rfl, _⟩ := h
    rfl
  · obtain ⟨a, n, ws, rfl, g, q⟩ := h
    refine ⟨_, (pss_cons (ps_set (i := 2) scRight.nd rfl (Or.inl rfl) (pe_c GClash hr (by decide) (by rfl) (pa_cons (pv 0) (pa_cons (pv 1) pa_nil))))
      (pss_cons (ps_if (pt_cmpR op_isN (pv 2) pe_non (nomark _)) (pss_one (ps_ret pe_bl)) pss_nil)
      (pss_cons (ps_if (PW.pt (pw_or (pt_not (pt_val (pe_c GHolds hr (by decide) (by rfl) (pa_cons (pv 0) (pa_cons (pv 1) (pa_cons (pv 2) pa_nil)))))) (pw_or1 (pt_cmpR op_ne (pe_c GMany hr (by decide) (by rfl) (pa_cons (pv 0) (pa_cons (pe_callTy call_tuple_of (by rfl) T.tuple (by decide +kernel) (pa_cons (pe_lc (own := [("_law_place", 3)]) (g := gName 3) (tt := tYes) rfl scRight.nd (pi_tup (pv 2)) (blkOk_by (own := [("_law_place", 3)]) (N := ["_law_size", "_law_words_here", "_law_lot", "_law_place", "_law_one"]) (sc := defScope sRight) (by decide +kernel)) (fun _ _ _ _ _ => (pg_name (i := 3) scRight.nd rfl (Or.inl rfl))) (fun _ _ _ _ _ => pts_nil) (fun _ _ _ _ _ => (pe_ix (r := rIxT K) ix_tup (pv 1) (pv 3) (fun _ _ => rfl)))) pa_nil)) pa_nil))) pe_int (nomark _))))) (pss_one (ps_ret pe_bl)) pss_nil)
      (pss_cons (ps_for PassesOwn.never rfl (pi_tup (pv 2)) (pg_name (i := 3) scRight.nd rfl (Or.inr rfl))
        (pss_one (ps_if (pt_cmpR op_eq (pe_c GMany hr (by decide) (by rfl) (pa_cons (pv 0) (pa_cons (pe_callTy call_tuple_of (by rfl) T.tuple (by decide +kernel) (pa_cons (pe_lc (own := [("_law_one", 4)]) (g := gName 4) rfl scRight.nd (pi_tup (pv 2)) (blkOk_by (own := [("_law_one", 4)]) (N := ["_law_size", "_law_words_here", "_law_lot", "_law_place", "_law_one"]) (sc := defScope sRight) (by decide +kernel)) (fun _ _ _ _ _ => (pg_name (i := 4) scRight.nd rfl (Or.inl rfl))) (fun _ _ _ _ _ => (pts_one (pt_cmpR op_ne (pv 4) (pv 3) (nomark _)))) (fun _ _ _ _ _ => (pe_ix (r := rIxT K) ix_tup (pv 1) (pv 4) (fun _ _ => rfl)))) pa_nil)) pa_nil))) pe_int (nomark _)) (pss_one (ps_ret pe_bl)) pss_nil)))
      (pss_one (ps_ret pe_bl)))))), ?_⟩
    refine ⟨_, rfl, _, rfl, a, n, ws, rfl, g, fun hm H1 s1 => ?_, fun hm H1 t l s1 ht cl => ?_⟩
    · -- no clash
      refine ⟨_, rfl, rfl, _, rfl, iteT (q H1 s1)⟩
    · refine ⟨_, rfl, rfl, _, rfl, iteF ?_⟩
      have l8 : l.length ≤ 8 := Nat.le_trans (lot_len (mem_lotsM.mpr ⟨cl.rs, cl.lt⟩)) g.l8
      refine ⟨_, rfl, _, rfl, _, rfl, a, t, n, ws, l, rfl, g.same s1, ht, cl, fun H2 s2 => ⟨_, rfl, iteF ?_⟩⟩
      have s12 := s1.trans s2
      have ht2 := s2 _ _ ht
      have okp : ∀ pl : List Nat, ∀ w ∈ pick ws pl, w.Ok n := fun pl w m => g.ok w (pick_mem m)
      -- the words of the clash
      obtain ⟨⟨xs, hx, hw⟩, _, _, _, _⟩ := g.same s12
      refine ⟨_, rfl, _, rfl, t, rfl, ⟨_, .inl (.inl ht2)⟩, fun D nD => ?_⟩
      refine lc_tup (K := K) (a := t) (xs := nums l) (fun j H5 => Same H2 H5 ∧ ∃ acc, H5 D = some (.lst acc) ∧ WsAt H5 acc (pick ws (l.take j))) ⟨same_upd nD, [], upd_same, .nil⟩ (fun j H5 _ h => .inl (.inl (h.1 _ _ ht2))) ?_ ?_
      · rintro j x H5 hj ⟨s5, acc, e5, pa⟩
        obtain ⟨d, hd, rfl⟩ := nums_at hj
        have hdw := cl.lt d (List.mem_of_getElem? hd)
        obtain ⟨v, hv, hvw⟩ := paired_get (hw.same s5) (List.getElem?_eq_getElem hdw)
        refine ⟨rfl, ?_⟩
        refine tyes_i ?_
        refine ⟨_, rfl, _, rfl, a, xs, (d : Int), v, rfl, rfl, .inl (.inl (s5 _ _ hx)), atI_nat hv, acc, e5, ?_, same_put s5 nD, _, upd_same, ?_⟩
        · rw [WsAt.len pa]
          have := pick_le ws (l.take j)
          rw [List.length_take] at this
          exact small1000 (by omega)
        rw [pick_snoc hd (List.getElem?_eq_getElem hdw)]
        have tp : Tups H5 (upd H5 D (.lst (acc ++ [v]))) := Tups.put e5
        obtain ⟨p, e1, e2⟩ := hvw
        exact Paired.snoc (WsAt.tups tp pa) ⟨p, e1, tp _ _ e2⟩
      · rintro H5 ⟨s5, acc, e5, pa⟩
        rw [nums_len, List.take_length] at pa
        refine ⟨D, _, rfl, .inl ⟨SqL.of e5, fun r nr => ?_⟩⟩
        have s6 := same_upd (o := .tup acc) nr
        refine ⟨r, n, pick ws l, rfl, ⟨⟨acc, upd_same, WsAt.same s6 pa⟩, Nat.le_trans (pick_le ws l) l8, okp l, g.n1, g.n6⟩, fun H6 s7 => ⟨rfl, _, rfl, iteN (by rw [cl.no]; rfl) ?_⟩⟩
        have s16 := s12.trans (s5.trans (s6.trans s7))
        have ht6 := (s5.trans (s6.trans s7)) _ _ ht2
        -- each less one word
        refine ⟨_, rfl, t, rfl, ⟨_, .inl (.inl ht6)⟩, ?_⟩
        refine for_tup (K := K) (a := t) (xs := nums l) (fun j σ H7 => ∃ y3, σ = [some (V.int n), some (.ref a), some (.ref t), y3, none] ∧ Same H6 H7) ⟨_, rfl, Same.refl _⟩ (fun j σ H7 _ ⟨_, _, s8⟩ => .inl (.inl (s8 _ _ ht6))) ?_ ?_
        · rintro j x σ H7 hj ⟨y3, rfl, s8⟩
          obtain ⟨d, hd, rfl⟩ := nums_at hj
          have s17 := s16.trans s8
          have ht7 := s8 _ _ ht6
          obtain ⟨⟨xs7, hx7, hw7⟩, _, _, _, _⟩ := g.same s17
          refine ⟨_, rfl, _, rfl, t, rfl, ⟨_, .inl (.inl ht7)⟩, fun D9 nD9 => ?_⟩
          refine lc_tup (K := K) (a := t) (xs := nums l) (fun i H9 => Same H7 H9 ∧ ∃ acc, H9 D9 = some (.lst acc) ∧ WsAt H9 acc (pick ws ((l.take i).filter fun y => decide (y ≠ d)))) ⟨same_upd nD9, [], upd_same, .nil⟩ (fun j H5 _ h => .inl (.inl (h.1 _ _ ht7))) ?_ ?_
          · rintro k y H9 hk ⟨s9, acc9, e9, pa9⟩
            obtain ⟨c, hc, rfl⟩ := nums_at hk
            have hcw := cl.lt c (List.mem_of_getElem? hc)
            refine ⟨rfl, _, rfl, _, rfl, rfl, _, rfl, ?_⟩
            rw [filter_take _ hc, nat_dec]
            have eb : decide (c ≠ d) = !(c == d) := by
              rw [Bool.eq_iff_iff, decide_eq_true_iff, Bool.not_eq_true', beq_eq_false_iff_ne]
            rw [eb]
            cases hz : (c == d) with
            | true =>
              refine iteF ⟨s9, acc9, e9, ?_⟩
              show WsAt H9 acc9 (pick ws (_ ++ []))
              rw [List.append_nil]
              exact pa9
            | false =>
              obtain ⟨v, hv, hvw⟩ := paired_get (hw7.same s9) (List.getElem?_eq_getElem hcw)
              refine iteT ⟨_, rfl, _, rfl, a, xs7, (c : Int), v, rfl, rfl, .inl (.inl (s9 _ _ hx7)), atI_nat hv, acc9, e9, ?_, same_put s9 nD9, _, upd_same, ?_⟩
              · rw [WsAt.len pa9]
                have h1 := pick_le ws ((l.take k).filter fun y => decide (y ≠ d))
                have h2 := List.length_filter_le (fun y => decide (y ≠ d)) (l.take k)
                rw [List.length_take] at h2
                exact small1000 (by omega)
              · show WsAt _ _ (pick ws (_ ++ [c]))
                have e : ∀ m : List Nat, pick ws (m ++ [c]) = pick ws m ++ [ws[c]] := fun m => by
                  unfold pick
                  rw [List.filterMap_append, List.filterMap_cons_some (List.getElem?_eq_getElem hcw), List.filterMap_nil]
                rw [e]
                have tp : Tups H9 (upd H9 D9 (.lst (acc9 ++ [v]))) := Tups.put e9
                obtain ⟨p, e1, e2⟩ := hvw
                exact Paired.snoc (WsAt.tups tp pa9) ⟨p, e1, tp _ _ e2⟩
          · rintro H9 ⟨s9, acc9, e9, pa9⟩
            rw [nums_len, List.take_length] at pa9
            refine ⟨D9, _, rfl, .inl ⟨SqL.of e9, fun r9 nr9 => ?_⟩⟩
            have s10 := same_upd (o := .tup acc9) nr9
            have hless := cl.less d (List.mem_of_getElem? hd)
            refine ⟨r9, n, pick ws (l.filter fun y => decide (y ≠ d)), rfl, ⟨⟨acc9, upd_same, WsAt.same s10 pa9⟩, Nat.le_trans (pick_le ws _) (Nat.le_trans (List.length_filter_le _ _) l8), okp _, g.n1, g.n6⟩, fun H10 s11 => ⟨rfl, _, rfl, iteN ?_ ?_⟩⟩
            · rw [decide_eq_false_iff_not, V.int.injEq]
              omega
            · exact ⟨_, rfl, s8.trans (s9.trans (s10.trans s11))⟩
        · rintro σ H7 ⟨y3, rfl, s8⟩
          exact q H7 (s16.trans s8)
end
end LB
namespace LB
open PySem PySem.Spec PyProof.Rows L2
open C8 (Cal pe_c)
/-! ### data -/
def numsD (l : List Nat) : List PyData := l.map fun d : Nat => PyData.int (d : Int)
def setD (l : List Nat) : PyData := match l with
  | [d] => .int (d : Int)
  | _ => .none
def setDs (n : Nat) (ws : List Wd) : List PyData := (List.range n).map fun p => setD (opn n ws p)
def rowsD (n : Nat) (f : Nat → List Nat) : List PyData := (List.range n).map fun p => .tuple (numsD (f p))
theorem dp_all {K : PySem.W.Frag} {H : Hp} : ∀ {vs : List V} {ds : List PyData}, vs.length = ds.length → (∀ (i : Nat) (v : V) (d : PyData), vs[i]? = some v → ds[i]? = some d → Dp K H v d) → DpAll K H vs ds
  | [], [], _, _ => .nil
  | [], _ :: _, h, _ => by simp at h
  | _ :: _, [], h, _ => by simp at h
  | v :: vs, d :: ds, h, f => .cons (f 0 v d rfl rfl) (dp_all (by simpa using h) fun i v d a b => f (i + 1) v d (by simpa using a) (by simpa using b))
theorem dp_nums {K : PySem.W.Frag} {H : Hp} : ∀ l : List Nat, DpAll K H (nums l) (numsD l)
  | [] => .nil
  | d :: r => .cons (.int _) (dp_nums r)
theorem dp_sets {K : PySem.W.Frag} {H : Hp} (f : Nat → List Nat) : ∀ l : List Nat, DpAll K H (l.map fun p => setV (f p)) (l.map fun p => setD (f p))
  | [] => .nil
  | p :: r => by
    refine .cons ?_ (dp_sets f r)
    show Dp K H (setV (f p)) (setD (f p))
    match f p with
    | [] => exact .non
    | [d] => exact .int _
    | _ :: _ :: _ => exact .non
theorem dp_rows {K : PySem.W.Frag} {H : Hp} {ps : List V} {n : Nat} {f : Nat → List Nat} (r : RowsAt H ps n f) : DpAll K H ps (rowsD n f) := by
  refine dp_all (by unfold rowsD; rw [r.1, List.length_map, List.length_range]) fun i v d hv hd => ?_
  obtain ⟨t, rfl, ht⟩ := r.2 i v hv
  unfold rowsD at hd
  rw [List.getElem?_map] at hd
  have hi : i < n := by
    have := (List.getElem?_eq_some_iff.mp hv).1
    have := r.1
    omega
  rw [List.getElem?_eq_getElem (by rw [List.length_range]; exact hi), List.getElem_range] at hd
  cases Option.some.inj hd
  exact .tup (.inl (.inl ht)) (dp_nums _)
theorem lay_all : ∀ {ds : List PyData}, (∀ d ∈ ds, d.canLay0 = true) → PyData.canLayAll0 ds = true
  | [], _ => rfl
  | d :: r, h => by
    rw [PyData.canLayAll0, h d List.mem_cons_self, lay_all fun x m => h x (List.mem_cons_of_mem _ m)]
    rfl
theorem dep_all {k : Nat} : ∀ {ds : List PyData}, (∀ d ∈ ds, d.depth ≤ k) → PyData.depthAll ds ≤ k
  | [], _ => by rw [PyData.depthAll]; exact Nat.zero_le _
  | d :: r, h => by
    rw [PyData.depthAll]
    exact Nat.max_le.mpr ⟨h d List.mem_cons_self, dep_all fun x m => h x (List.mem_cons_of_mem _ m)⟩
theorem lay_nums (l : List Nat) : (PyData.tuple (numsD l)).canLay0 = true ∧ (PyData.tuple (numsD l)).depth ≤ 1 := by
  constructor
  · rw [PyData.canLay0]
    refine lay_all fun d m => ?_
    obtain ⟨c, _, rfl⟩ := List.mem_map.mp m
    rw [PyData.canLay0]
  · rw [PyData.depth]
    refine Nat.succ_le_succ (dep_all fun d m => ?_)
    obtain ⟨c, _, rfl⟩ := List.mem_map.mp m
    rw [PyData.depth]
    exact Nat.le_refl _
theorem lay_sets (n : Nat) (ws : List Wd) : (PyData.tuple (setDs n ws)).canLay0 = true ∧ (PyData.tuple (setDs n ws)).depth ≤ 1 := by
  have h : ∀ d ∈ setDs n ws, d.canLay0 = true ∧ d.depth ≤ 0 := fun d m => by
    obtain ⟨p, _, rfl⟩ := List.mem_map.mp m
    unfold setD
    split
    · rw [PyData.canLay0, PyData.depth]
      exact ⟨rfl, Nat.le_refl _⟩
    · rw [PyData.canLay0, PyData.depth]
      exact ⟨rfl, Nat.le_refl _⟩
  constructor
  · rw [PyData.canLay0]
    exact lay_all fun d m => (h d m).1
  · rw [PyData.depth]
    exact Nat.succ_le_succ (dep_all fun d m => (h d m).2)
theorem lay_rows (n : Nat) (f : Nat → List Nat) : (PyData.list (rowsD n f)).canLay0 = true ∧ (PyData.list (rowsD n f)).depth ≤ 2 := by
  have h : ∀ d ∈ rowsD n f, d.canLay0 = true ∧ d.depth ≤ 1 := fun d m => by
    obtain ⟨p, _, rfl⟩ := List.mem_map.mp m
    exact lay_nums _
  constructor
  · rw [PyData.canLay0]
    exact lay_all fun d m => (h d m).1
  · rw [PyData.depth]
    exact Nat.succ_le_succ (dep_all fun d m => (h d m).2)
theorem shaped_of {d : PyData} {k : Nat} (h : d.canLay0 = true ∧ d.depth ≤ k) (hk : k ≤ 64) : SeqAt.shaped d = true := by
  unfold SeqAt.shaped
  rw [h.1, decide_eq_true (Nat.le_trans h.2 hk)]
  rfl
def rEqT (K : PySem.W.Frag) : R2 := fun x y H Q => ∃ d, Dp K H x d ∧ Dp K H y d ∧ d.canLay0 = true ∧ d.depth ≤ 2 ∧ Q (.bl true) H
def rNeT (K : PySem.W.Frag) : R2 := fun x y H Q => ∃ d, Dp K H x d ∧ Dp K H y d ∧ d.canLay0 = true ∧ d.depth ≤ 2 ∧ Q (.bl false) H
theorem op_eqT {X : Cx} (hu : X.A.units + 64 < cLine) : OpR X (compareOp .Eq) (rEqT X.K) := by
  intro pins s σ H x y v u Q I rx ry h
  obtain ⟨d, hx, hy, l, dp, q⟩ := h
  exact op_eqD hu pins s σ H x y v u Q I rx ry ⟨d, d, hx, hy, shaped_of ⟨l, dp⟩ (by decide), shaped_of ⟨l, dp⟩ (by decide), by rw [SeqAt.eqv_refl d l]; exact q⟩
theorem op_neT {X : Cx} (hu : X.A.units + 64 < cLine) : OpR X (compareOp .NotEq) (rNeT X.K) := by
  intro pins s σ H x y v u Q I rx ry h
  obtain ⟨d, hx, hy, l, dp, q⟩ := h
  exact op_neD hu pins s σ H x y v u Q I rx ry ⟨d, d, hx, hy, shaped_of ⟨l, dp⟩ (by decide), shaped_of ⟨l, dp⟩ (by decide), by rw [SeqAt.eqv_refl d l]; exact q⟩
theorem inV_nums {l : List Nat} {d : Nat} (h : d ∈ l) : inV (.int (d : Int)) (nums l) = true := by
  unfold inV
  refine List.any_eq_true.mpr ⟨.int (d : Int), List.mem_map.mpr ⟨d, h, rfl⟩, ?_⟩
  simp [eqV]
theorem flat_nums (l : List Nat) : (nums l).all flatV = true := List.all_eq_true.mpr fun v m => by
  obtain ⟨d, _, rfl⟩ := List.mem_map.mp m
  rfl
/-! ### what first_order, first_clash hand back -/
def FirstIs (H : Hp) (v : V) (n : Nat) (ws : List Wd) : Prop := (v = .non ∧ many n ws = 0) ∨ (∃ t, v = .ref t ∧ OrdAt H t (firstO n ws) ∧ 0 < many n ws)
theorem FirstIs.same {H H' : Hp} {v : V} {n : Nat} {ws : List Wd} (h : FirstIs H v n ws) (s : Same H H') : FirstIs H' v n ws := by
  rcases h with h | ⟨t, e, o, m⟩
  · exact .inl h
  · exact .inr ⟨t, e, o.same s, m⟩
def ClashIs (v : V) (n : Nat) (ws : List Wd) : Prop := (v = .non ∧ 0 < many n ws) ∨ (∃ t, v = .ref t ∧ many n ws = 0)
theorem first_bool {H : Hp} {v : V} {n : Nat} {ws : List Wd} (h : FirstIs H v n ws) : (!decide (V.bl (decide (v = .non)) = V.bl (decide (V.int (many n ws : Nat) = V.int 0)))) = false := by
  rcases h with ⟨rfl, m⟩ | ⟨t, rfl, _, m⟩
  · rw [m]
    rfl
  · have : decide (V.int (many n ws : Nat) = V.int 0) = false := by
      rw [decide_eq_false_iff_not, V.int.injEq]
      omega
    rw [this]
    rfl
theorem clash_bool {v : V} {n : Nat} {ws : List Wd} (h : ClashIs v n ws) : (!decide (V.bl (decide (v = .non)) = V.bl (decide (((many n ws : Nat) : Int) > 0)))) = false := by
  rcases h with ⟨rfl, m⟩ | ⟨t, rfl, m⟩
  · have : decide (((many n ws : Nat) : Int) > 0) = true := decide_eq_true (by omega)
    rw [this]
    rfl
  · rw [m]
    rfl
def firstD (n : Nat) (ws : List Wd) : PyData := if many n ws = 0 then .none else .tuple (numsD (firstO n ws))
theorem FirstIs.dp {K : PySem.W.Frag} {H : Hp} {v : V} {n : Nat} {ws : List Wd} (h : FirstIs H v n ws) : Dp K H v (firstD n ws) := by
  unfold firstD
  rcases h with ⟨rfl, m⟩ | ⟨t, rfl, o, m⟩
  · rw [if_pos m]
    exact .non
  · rw [if_neg (by omega)]
    exact .tup o.sq (dp_nums _)
theorem lay_first (n : Nat) (ws : List Wd) : (firstD n ws).canLay0 = true ∧ (firstD n ws).depth ≤ 2 := by
  unfold firstD
  split
  · rw [PyData.canLay0, PyData.depth]
    exact ⟨rfl, by decide⟩
  · exact ⟨(lay_nums _).1, Nat.le_succ_of_le (lay_nums _).2⟩
theorem cal_imp {P : Program} {w : World} {K : PySem.W.Frag} {mg : Str → Option Value} {base : Heap} {k : Nat} {x : Str} {sp sp' : Sp} {dvs : List V} (C : Cal P w K mg base k x sp dvs) (h : ∀ vs H Q E, sp' vs H Q E → sp vs H Q E) : Cal P w K mg base k x sp' dvs := by
  obtain ⟨f, fd, ps, ds, F, m, kp, b, d⟩ := C.ex
  exact ⟨f, fd, ps, ds, F.imp h, m, kp, b, d⟩
def spFirst2 : Sp := fun vs H Q _ => ∃ (a : Addr) (n : Nat) (ws : List Wd), vs = [.int n, .ref a] ∧ ArgT H a n ws ∧ ∀ (v : V) (H' : Hp), Same H H' → FirstIs H' v n ws → Q v H'
def spClash2 : Sp := fun vs H Q _ => ∃ (a : Addr) (n : Nat) (ws : List Wd), vs = [.int n, .ref a] ∧ ArgT H a n ws ∧ ∀ (v : V) (H' : Hp), Same H H' → ClashIs v n ws → Q v H'
theorem first2 {P : Program} {w : World} {K : PySem.W.Frag} {mg : Str → Option Value} {base : Heap} {k : Nat} (C : Cal P w K mg base k "first_order" spFirst []) : Cal P w K mg base k "first_order" spFirst2 [] := cal_imp C fun vs H Q E h => by
  obtain ⟨a, n, ws, rfl, g, q⟩ := h
  exact ⟨a, n, ws, rfl, g, fun m H' s => q _ H' s (.inl ⟨rfl, m⟩), fun m H' t s _ o => q _ H' s (.inr ⟨t, rfl, o, m⟩)⟩
theorem clash2 {P : Program} {w : World} {K : PySem.W.Frag} {mg : Str → Option Value} {base : Heap} {k : Nat} (C : Cal P w K mg base k "first_clash" spClash []) : Cal P w K mg base k "first_clash" spClash2 [] := cal_imp C fun vs H Q E h => by
  obtain ⟨a, n, ws, rfl, g, q⟩ := h
  exact ⟨a, n, ws, rfl, g, fun m H' s => q _ H' s (.inl ⟨rfl, m⟩), fun m H' t l s _ _ => q _ H' s (.inr ⟨t, rfl, m⟩)⟩
/-- two tuples, the second not empty, one behind the other -/
def rCatT (K : PySem.W.Frag) : R2 := fun x y H Q => ∃ (a b : Addr) (xs ys : List V), x = .ref a ∧ y = .ref b ∧ H a = some (.tup xs) ∧ H b = some (.tup ys) ∧ xs.length + ys.length ≤ sizeLine ∧ ys ≠ [] ∧ ∀ (p : Addr) (H' : Hp), Same H H' → H' p = some (.tup (xs ++ ys)) → Q (.ref p) H'
theorem op_catT {X : Cx} : OpR X (binaryOp .Add) (rCatT X.K) := by
  intro pins s σ H x y v u Q I rx ry h
  obtain ⟨a, b, xs, ys, rfl, rfl, ha, hb, hl, hy, q⟩ := h
  exact op_catA pins s σ H (.ref a) (.ref b) v u Q I rx ry ⟨a, b, xs, ys, rfl, rfl, .inl (.inl ha), .inl (.inl hb), hl, fun e => q b H (Same.refl _) (by rw [e]; exact hb), fun _ e => absurd e hy, fun _ _ p np => q p _ (same_upd np) upd_same⟩
theorem set_hd (l : List Nat) : ∃ v, (nums l ++ [V.int 0])[0]? = some v ∧ ∀ d, l = [d] → v = .int (d : Int) := by
  cases l with
  | nil => exact ⟨.int 0, rfl, fun d e => by cases e⟩
  | cons c r => exact ⟨.int (c : Int), rfl, fun d e => by cases e; rfl⟩
theorem opn_len {n : Nat} {ws : List Wd} (p : Nat) : (opn n ws p).length ≤ n := len_filter_range _ _
section
variable {P : Program} {w : World} {K : PySem.W.Frag} {mg : Str → Option Value} {base : Heap} {aB : Addr}
/-! ### _law_shown -/
def spShown : Sp := fun vs H Q _ => ∃ (a : Addr) (n : Nat) (ws : List Wd), vs = [.int n, .ref a] ∧ ArgT H a n ws ∧ ∀ H', Same H H' → Q (.bl true) H'
theorem c_shown (T : Txt K mg aB) (D : Df K mg "_law_shown" sShown ["_law_size", "_law_words_here"]) (GMany : Cal P w K mg base 7 "orders_many" spMany []) (GFirst : Cal P w K mg base 6 "first_order" spFirst2 []) (GOpens : Cal P w K mg base 7 "open_pages" spOpens [])
    (GClash : Cal P w K mg base 8 "first_clash" spClash2 []) (GSettled : Cal P w K mg base 7 "settled_pages" spSettled []) (GFits : Cal P w K mg base 5 "order_fits" spFits []) : Cal P w K mg base 9 "_law_shown" spShown [] := by
  refine D.cal scShown (fun vs H Q E h => ?_) (fun f cdv A outer s H vs Q E hr h => ?_)
  · obtain ⟨_, _, _, rfl, _⟩ := h
    rfl
  · obtain ⟨a, n, ws, rfl, g, q⟩ := h
    have n6 := g.n6
    refine ⟨_, (pss_cons (ps_par (i := 2) (j := 3) rfl scShown.nd rfl rfl (by decide) rfl rfl (pa_cons (pe_c GMany hr (by decide) (by rfl) (pa_cons (pv 0) (pa_cons (pv 1) pa_nil))) (pa_cons (pe_c GFirst hr (by decide) (by rfl) (pa_cons (pv 0) (pa_cons (pv 1) pa_nil))) pa_nil)) (by rfl))
      (pss_cons (ps_set (i := 4) scShown.nd rfl (Or.inl rfl) (pe_c GOpens hr (by decide) (by rfl) (pa_cons (pv 0) (pa_cons (pv 1) pa_nil))))
      (pss_cons (ps_if (PW.pt (pw_or (pt_cmpR op_ne (pe_cmpR op_isN (pv 3) pe_non (nomark _)) (pe_cmpR op_eq (pv 2) pe_int (nomark _)) (nomark _)) (pw_or1 (pt_cmpR op_ne (pe_cmpR op_isN (pe_c GClash hr (by decide) (by rfl) (pa_cons (pv 0) (pa_cons (pv 1) pa_nil))) pe_non (nomark _)) (pe_cmpR op_gt (pv 2) pe_int (nomark _)) (nomark _))))) (pss_one (ps_ret pe_bl)) pss_nil)
      (pss_cons (ps_if (pt_cmpR (op_neT hr.units) (pe_c GSettled hr (by decide) (by rfl) (pa_cons (pv 0) (pa_cons (pv 1) pa_nil))) (pe_callTy call_tuple_of (by rfl) T.tuple (by decide +kernel) (pa_cons (pe_lc (own := [("_law_row", 5)]) (g := gName 5) (tt := tYes) rfl scShown.nd (pi_list (pv 4)) (blkOk_by (own := [("_law_row", 5)]) (N := ["_law_size", "_law_words_here", "_law_many", "_law_first", "_law_opened", "_law_row", "_law_deed"]) (sc := defScope sShown) (by decide +kernel)) (fun _ _ _ _ _ => (pg_name (i := 5) scShown.nd rfl (Or.inl rfl))) (fun _ _ _ _ _ => pts_nil) (fun _ _ _ _ _ => (pe_ix (r := rIxL K) ix_list (pe_lst (pa_cons pe_non (pa_cons (pe_ix (r := rIxT K) ix_tup (pe_op (r := rCatT K) op_catT (pv 5) (pe_tup (pa_cons pe_int pa_nil))) pe_int (fun _ _ => rfl)) pa_nil))) (pe_callTy call_int1 (by rfl) T.int (by decide +kernel) (pa_cons (pe_cmpR op_eq (pe_callB (r := rLenS K) cr_len (by rfl) T.len PySem.boot_len (pa_cons (pv 5) pa_nil)) pe_int (nomark _)) pa_nil)) (fun _ _ => rfl)))) pa_nil)) (nomark _)) (pss_one (ps_ret pe_bl)) pss_nil)
      (pss_cons (ps_if (pt_cmpR op_isN (pv 3) pe_non (nomark _)) (pss_one (ps_ret (pe_cmpR (op_eqT hr.units) (pv 4) (pe_op op_rep (pe_lst (pa_cons (pe_tup pa_nil) pa_nil)) (pv 0)) (nomark _)))) pss_nil)
      (pss_one (ps_ret (pe_and (pe_c GFits hr (by decide) (by rfl) (pa_cons (pv 0) (pa_cons (pv 1) (pa_cons (pv 3) pa_nil)))) (pe_one (pe_cmpR (op_eqT hr.units) (pe_lc (own := [("_law_deed", 6), ("_law_row", 5)]) (g := gTup K 2 (gCons (gName 6) (gCons (gName 5) (gNil)))) rfl scShown.nd (pi_zipM (by rfl) T.zip (pa_cons (pv 3) (pa_cons (pv 4) pa_nil))) (blkOk_by (own := [("_law_deed", 6), ("_law_row", 5)]) (N := ["_law_size", "_law_words_here", "_law_many", "_law_first", "_law_opened", "_law_row", "_law_deed"]) (sc := defScope sShown) (by decide +kernel)) (fun _ _ _ _ _ => (pg_tup rfl (pgs_cons (pg_name (i := 6) scShown.nd rfl (Or.inl rfl)) (pgs_cons (pg_name (i := 5) scShown.nd rfl (Or.inl rfl)) pgs_nil)))) (fun _ _ _ _ _ => (pts_one (pt_cmpR (r := rIn K true) op_notIn_seq (pv 6) (pv 5) (by rfl)))) (fun _ _ _ _ _ => pe_int)) (pe_lst pa_nil) (nomark _))))))))))), ?_⟩
    refine ⟨_, rfl, _, rfl, a, n, ws, rfl, g, fun H1 s1 => ?_⟩
    refine ⟨_, rfl, _, rfl, a, n, ws, rfl, g.same s1, fun v H2 s2 hv2 => ⟨_, _, rfl, ?_⟩⟩
    have s02 := s1.trans s2
    refine ⟨_, rfl, _, rfl, a, n, ws, rfl, g.same s02, fun H3 L ps s3 nL eL r3 => ?_⟩
    have s03 := s02.trans s3
    have hv3 := hv2.same s3
    refine ⟨_, rfl, rfl, _, rfl, rfl, rfl, _, rfl, iteN (first_bool hv3) ?_⟩
    refine ⟨_, rfl, _, rfl, a, n, ws, rfl, g.same s03, fun c H4 s4 hc => ⟨rfl, _, rfl, _, _, rfl, rfl, rfl, _, rfl, iteN (clash_bool hc) ?_⟩⟩
    have s04 := s03.trans s4
    have eL4 := s4 _ _ eL
    -- settled_pages
    refine ⟨_, rfl, _, rfl, a, n, ws, rfl, g.same s04, fun H5 t5 s5 nt5 et5 => ?_⟩
    have eL5 := s5 _ _ eL4
    refine ⟨_, rfl, L, rfl, ⟨_, SqL.of eL5⟩, fun D nD => ?_⟩
    have r5 := (r3.same s4).same s5
    refine lc_list (K := K) (a := L) (xs := ps) (fun j H6 => Same H5 H6 ∧ H6 D = some (.lst ((List.range j).map fun p => setV (opn n ws p)))) ⟨same_upd nD, upd_same⟩ (fun i H6 _ h => h.1.seq (SqL.of eL5)) ?_ ?_
    · rintro j x H6 hj ⟨s6, e6⟩
      obtain ⟨t, rfl, ht⟩ := (r5.same s6).2 j x hj
      have hjn : j < n := by
        have := (List.getElem?_eq_some_iff.mp hj).1
        have := r5.1
        omega
      refine ⟨rfl, ?_⟩
      refine tyes_i ?_
      obtain ⟨hd, hhd, hh⟩ := set_hd (opn n ws j)
      have hol := opn_len (n := n) (ws := ws) j
      refine ⟨_, rfl, by show 1 ≤ sizeLine; decide, fun c nc => ?_⟩
      refine ⟨t, c, _, [.int 0], rfl, rfl, (same_upd nc) _ _ ht, upd_same, by rw [nums_len]; exact Nat.le_of_lt (small1000 (show (opn n ws j).length + 1 ≤ 1000 by omega)), by simp, fun p H7 s7 ep => ?_⟩
      refine ⟨p, _, (0 : Int), hd, rfl, rfl, .inl (.inl ep), atI_nat (j := 0) hhd, by show 2 ≤ sizeLine; decide, fun M nM => ?_⟩
      have s67 := (same_upd nc).trans s7
      have s68 := s67.trans (same_upd (o := .lst [.non, hd]) nM)
      have ht8 := s68 _ _ ht
      have e8 := s68 _ _ e6
      refine ⟨_, rfl, t, _, rfl, .inr (.inl (.inl ht8)), rfl, .inr ⟨_, rfl, ?_⟩⟩
      rw [nums_len]
      have fin : ∀ v, setV (opn n ws j) = v → ∀ H8, Same H6 H8 → ∃ acc, H8 D = some (.lst acc) ∧ acc.length < sizeLine ∧ Same H5 (upd H8 D (.lst (acc ++ [v]))) ∧ upd H8 D (.lst (acc ++ [v])) D = some (.lst ((List.range (j + 1)).map fun p => setV (opn n ws p))) := fun v e H8 s8 => by
        refine ⟨_, s8 _ _ e6, ?_, same_put (s6.trans s8) nD, ?_⟩
        · rw [List.length_map, List.length_range]
          exact small1000 (by omega)
        · rw [upd_same, List.range_succ, List.map_append, ← e]
          rfl
      cases hz : decide (V.int ((opn n ws j).length : Nat) = V.int 1) with
      | true =>
        obtain ⟨d, ed⟩ := setV_one (V.int.inj (of_decide_eq_true hz))
        refine ⟨M, _, (1 : Int), hd, rfl, rfl, SqL.of upd_same, atI_nat (j := 1) rfl, fin hd ?_ _ s68⟩
        rw [hh d ed, ed]
        rfl
      | false =>
        exact ⟨M, _, (0 : Int), .non, rfl, rfl, SqL.of upd_same, atI_nat (j := 0) rfl, fin .non (setV_not fun z => (of_decide_eq_false hz) (by rw [z])) _ s68⟩
    · rintro H6 ⟨s6, e6⟩
      rw [r5.1] at e6
      refine ⟨D, _, rfl, .inl ⟨SqL.of e6, fun tt ntt => ?_⟩⟩
      have s7 := same_upd (o := .tup ((List.range n).map fun p => setV (opn n ws p))) ntt
      have et7 := (s6.trans s7) _ _ et5
      refine ⟨.tuple (setDs n ws), .tup (.inl (.inl et7)) (dp_sets _ _), .tup (.inl (.inl upd_same)) (dp_sets _ _), (lay_sets n ws).1, Nat.le_succ_of_le (lay_sets n ws).2, _, rfl, iteF ?_⟩
      have s07 := s04.trans (s5.trans (s6.trans s7))
      have s37 := s4.trans (s5.trans (s6.trans s7))
      have eL7 := s37 _ _ eL
      have r7 := r3.same s37
      have hv7 := hv3.same s37
      generalize (upd H6 tt (HO.tup (List.map (fun p => setV (opn n ws p)) (List.range n)))) = H7 at s07 s37 eL7 r7 hv7 ⊢
      clear s7 et7
      refine ⟨_, rfl, rfl, _, rfl, ?_⟩
      rcases hv7 with ⟨rfl, m0⟩ | ⟨t, rfl, ho, m1⟩
      · -- no order: no page open
        refine iteT ⟨_, rfl, Nat.zero_le _, fun e ne => ⟨by show 1 ≤ sizeLine; decide, fun M nM => ⟨_, rfl, M, (n : Int), _, rfl, rfl, upd_same, by omega, by omega, ?_, fun R nR => ?_⟩⟩⟩
        · rw [Int.toNat_natCast, List.length_singleton, Nat.one_mul]
          exact Nat.le_of_lt (small1000 (by omega))
        · rw [Int.toNat_natCast, List.flatten_replicate_singleton]
          have neM : e ≠ M := ne_of_none upd_same nM
          have eM : upd (upd H7 e (HO.tup [])) M (HO.lst [V.ref e]) e = some (.tup []) := by rw [upd_ne neM, upd_same]
          have s8 : Same H7 (upd (upd H7 e (HO.tup [])) M (HO.lst [V.ref e])) := (same_upd ne).trans (same_upd nM)
          generalize (upd (upd H7 e (HO.tup [])) M (HO.lst [V.ref e])) = H8 at s8 eM nR ⊢
          have s9 := s8.trans (same_upd (o := .lst (List.replicate n (V.ref e))) nR)
          have hz : rowsD n (opn n ws) = rowsD n fun _ => [] := List.map_congr_left fun p _ => by rw [open_none (by omega) g.ok g.n1 m0 p]
          refine ⟨.list (rowsD n fun _ => []), .lst (SqL.of (s9 _ _ eL7)) (hz ▸ dp_rows (r7.same s9)), .lst (SqL.of upd_same) (dp_rows ⟨List.length_replicate, fun i v hv => ?_⟩), (lay_rows _ _).1, (lay_rows _ _).2, q _ (s07.trans s9)⟩
          obtain ⟨hi, hv⟩ := List.getElem?_eq_some_iff.mp hv
          rw [List.getElem_replicate] at hv
          exact ⟨e, hv.symm, (same_upd nR) _ _ eM⟩
      · -- the first order fits, its deeds are open
        have fo := first_ok (by omega) g.ok m1
        refine iteF ⟨_, rfl, _, rfl, _, rfl, a, t, n, ws, firstO n ws, rfl, g.same s07, ho, ⟨fo.ln, fo.nd, fo.lt⟩, fun H8 s8 => ⟨_, rfl, iteE ?_ ?_⟩⟩
        · exact List.all_eq_true.mpr fun w m => fo.so w m
        · have ho8 := (ho.same s8).sq (K := K)
          have eL8 := s8 _ _ eL7
          have r8 := r7.same s8
          refine ⟨_, rfl, _, rfl, t, L, nums (firstO n ws), ps, rfl, ho8, SqL.of eL8, fun D8 nD8 => ?_⟩
          refine lc_zipM (K := K) (a := t) (b := L) (xs := nums (firstO n ws)) (ys := ps) (by rw [nums_len, fo.ln, r8.1]) (fun j H9 => Same H8 H9 ∧ H9 D8 = some (.lst [])) ⟨same_upd nD8, upd_same⟩ (fun j H9 h => ⟨same_tup h.1 ho8, h.1.seq (SqL.of eL8)⟩) ?_ ?_
          · rintro j x y T5 H9 hx hy ⟨s9, e9⟩ nT
            obtain ⟨d, hd, rfl⟩ := nums_at hx
            obtain ⟨r, rfl, hr9⟩ := (r8.same s9).2 j y hy
            have s10 := same_upd (o := .tup [.int (d : Int), .ref r]) nT
            refine ⟨T5, _, rfl, .inl (.inl upd_same), rfl, _, _, rfl, _, _, rfl, rfl, rfl, ?_⟩
            refine ⟨_, rfl, _, rfl, r, _, rfl, .inr (.inl (.inl (s10 _ _ hr9))), rfl, flat_nums _, _, rfl, iteN ?_ ⟨s9.trans s10, s10 _ _ e9⟩⟩
            show (!inV (.int (d : Int)) (nums (opn n ws j))) = false
            rw [inV_nums (first_open (by omega) g.ok m1 hd)]
            rfl
          · rintro H9 ⟨s9, e9⟩
            refine ⟨Nat.zero_le _, fun M nM => ?_⟩
            have s10 := same_upd (o := .lst []) nM
            exact ⟨.list [], .lst (SqL.of (s10 _ _ e9)) .nil, .lst (SqL.of upd_same) .nil, by simp [PyData.canLay0, PyData.canLayAll0], by simp [PyData.depth, PyData.depthAll], q _ (s07.trans (s8.trans (s9.trans s10)))⟩
end
end LB
namespace LB
open PySem PySem.Spec PyProof.Rows L2
open C8 (Cal pe_c)
theorem ArgT.keep {p a : Addr} {H H' : Hp} {n : Nat} {ws : List Wd} (g : ArgT H a n ws) (hp : PenAt H p) (k : Keep p H H') : ArgT H' a n ws := by
  obtain ⟨⟨xs, h1, h2⟩, h3, h4, h5, h6⟩ := g
  exact ⟨⟨xs, k.tup hp h1, WsAt.tups (k.tups hp) h2⟩, h3, h4, h5, h6⟩
theorem RowsAt.keep {p : Addr} {H H' : Hp} {ps : List V} {n : Nat} {f : Nat → List Nat} (r : RowsAt H ps n f) (hp : PenAt H p) (k : Keep p H H') : RowsAt H' ps n f :=
  ⟨r.1, fun i v h => let ⟨t, e, q⟩ := r.2 i v h; ⟨t, e, k.tup hp q⟩⟩
theorem Keep.base {p : Addr} {H0 H H' : Hp} (s : Same H0 H) (np : H0 p = none) (k : Keep p H H') : Same H0 H' := fun b o e => k.1 b o (s _ _ e) (ne_of_none e np)
theorem ArgT.perm {H : Hp} {a b : Addr} {n : Nat} {ws : List Wd} {xs ys : List V} (g : ArgT H a n ws) (e : H a = some (.tup xs)) (hb : H b = some (.tup ys)) (pm : ys.Perm xs) : ∃ ws', ArgT H b n ws' ∧ ws'.Perm ws := by
  obtain ⟨⟨xs', h1, h2⟩, h3, h4, h5, h6⟩ := g
  rw [e] at h1
  cases h1
  obtain ⟨ws', q, pw⟩ := paired_perm pm h2
  exact ⟨ws', ⟨⟨ys, hb, q⟩, by rw [pw.length_eq]; exact h3, fun w m => h4 w (pw.mem_iff.mp m), h5, h6⟩, pw⟩
/-- the first seven of a tuple -/
def rSl7 (K : PySem.W.Frag) : V → Option Int → Option Int → Hp → VK → Prop := fun x lo hi H Q => ∃ (a : Addr) (xs : List V), x = .ref a ∧ lo = none ∧ hi = some 7 ∧ H a = some (.tup xs) ∧ ∀ (p : Addr) (H' : Hp), Same H H' → H' p = some (.tup (xs.take 7)) → Q (.ref p) H'
theorem sl_tup7 {X : Cx} : SlR X (rSl7 X.K) := by
  intro pins s σ H x v vl vu lo hi sl Q I rx hs pl pu h
  obtain ⟨a, xs, rfl, rfl, rfl, ha, q⟩ := h
  have e7 : HT.sIx xs.length xs.length (some 7) = min 7 xs.length := HT.sIx_nat _ _ 7
  refine sl_tupA pins s σ H (.ref a) v vl vu none (some 7) sl Q I rx hs pl pu ⟨a, xs, rfl, .inl (.inl ha), fun h => q a H (Same.refl _) ?_, fun _ p np => q p _ (same_upd np) ?_⟩
  · have := h.2
    rw [e7] at this
    rw [List.take_of_length_le (by omega)]
    exact ha
  · rw [upd_same]
    unfold cutV
    rw [e7, HT.sIx_none, List.drop_zero, Nat.sub_zero]
    by_cases hl : xs.length ≤ 7
    · rw [Nat.min_eq_right hl, List.take_length, List.take_of_length_le hl]
    · rw [Nat.min_eq_left (by omega)]
theorem take_ws {H : Hp} : ∀ {xs : List V} {ws : List Wd} (m : Nat), WsAt H xs ws → WsAt H (xs.take m) (ws.take m)
  | _, _, 0, _ => by
    rw [List.take_zero, List.take_zero]
    exact .nil
  | _, _, m + 1, .nil => .nil
  | _, _, m + 1, .cons h t => .cons h (take_ws m t)
def toldTo (o : List Nat) (j : Nat) : List Wd := (List.range j).filterMap fun i => (o[i]?).map fun d => ⟨.kAt, d, i⟩
theorem toldTo_succ {o : List Nat} {j d : Nat} (h : o[j]? = some d) : toldTo o (j + 1) = toldTo o j ++ [⟨.kAt, d, j⟩] := by
  unfold toldTo
  rw [List.range_succ, List.filterMap_append, List.filterMap_cons_some (by rw [h]; rfl), List.filterMap_nil]
theorem toldTo_len (o : List Nat) (j : Nat) : (toldTo o j).length ≤ j := by
  have := List.length_filterMap_le (fun i => (o[i]?).map fun d => (⟨.kAt, d, i⟩ : Wd)) (List.range j)
  rw [List.length_range] at this
  exact this
theorem told_sets {n : Nat} {o : List Nat} (hn : n ≤ 7) (ho : Ord n o) : setDs n (toldAll o) = numsD o := by
  unfold setDs numsD
  refine List.ext_getElem? fun i => ?_
  rw [List.getElem?_map, List.getElem?_map]
  by_cases hi : i < n
  · have e : o[i]? = some (o[i]'(by rw [ho.ln]; exact hi)) := List.getElem?_eq_getElem _
    rw [List.getElem?_eq_getElem (by rw [List.length_range]; exact hi), List.getElem_range, e]
    show some (setD (opn n (toldAll o) i)) = _
    rw [told_opn hn ho.nd ho.ln ho.lt e]
    rfl
  · rw [List.getElem?_eq_none (by rw [List.length_range]; omega), List.getElem?_eq_none (by rw [ho.ln]; omega)]
    rfl
theorem turns (l : Nat) : ∃ m : Nat, (if (if (2 : Int) < (l : Int) then (2 : Int) else (l : Int)) > 1 then (if (2 : Int) < (l : Int) then (2 : Int) else (l : Int)) else 1) = (m : Int) ∧ m ≤ 2 := by
  by_cases h : (2 : Int) < (l : Int)
  · rw [if_pos h]
    exact ⟨2, rfl, Nat.le_refl _⟩
  · rw [if_neg h]
    by_cases h1 : (l : Int) > 1
    · rw [if_pos h1]
      exact ⟨l, rfl, by omega⟩
    · rw [if_neg h1]
      exact ⟨1, rfl, by decide⟩
section
variable {P : Program} {w : World} {K : PySem.W.Frag} {mg : Str → Option Value} {base : Heap} {aB : Addr}
def spLaw (K : PySem.W.Frag) : Sp := fun vs H Q _ => ∃ (a : Addr) (ns : List Int), vs = [.ref a] ∧ SqL K H a (ns.map V.int) ∧ ∀ H', Q (.bl true) H'
theorem ok_law {fL : Addr} {fd : FuncData} (T : Txt K mg aB) (F : Fun K "law" "law" sLaw fL fd) (GPen : Cal P w K mg base 1 "_law_pen" spPen []) (GCellAt : Cal P w K mg base 1 "_law_cell_at" (spCellAt K) []) (GDraw : Cal P w K mg base 1 "_law_draw" spDraw [])
    (GWords : Cal P w K mg base 3 "_law_words" spWords []) (GShown : Cal P w K mg base 9 "_law_shown" spShown []) (GRight : Cal P w K mg base 9 "_law_clash_right" spRight []) (GMany : Cal P w K mg base 7 "orders_many" spMany [])
    (GOpens : Cal P w K mg base 7 "open_pages" spOpens []) (GLTold : Cal P w K mg base 2 "_law_told" spLTold []) (GMixed : Cal P w K mg base 2 "_law_mixed" (spMixed K) []) (GFirst : Cal P w K mg base 6 "first_order" spFirst2 [])
    (GNamed : Cal P w K mg base 1 "_law_named" (spNamed K) []) (GSettled : Cal P w K mg base 7 "settled_pages" spSettled []) : FnOk P w K mg base CX0 10 fL fd ["_law_script"] (spLaw K) := by
  refine F.ok scLaw (fun vs H Q E h => ?_) (fun cdv A outer s H vs Q E hr h => ?_)
  · obtain ⟨_, _, rfl, _⟩ := h
    rfl
  · obtain ⟨a, ns, rfl, hq, q⟩ := h
    refine ⟨_, (pss_cons (ps_for PassesOwn.never rfl (pi_range1 (by rfl) T.range (pa_cons (pe_callB (call_max2 rfl) (by rfl) T.max (by decide +kernel) (pa_cons pe_int (pa_cons (pe_callB (call_min2 rfl) (by rfl) T.min (by decide +kernel) (pa_cons (pe_callB call_len_seq (by rfl) T.len PySem.boot_len (pa_cons (pv 0) pa_nil)) (pa_cons pe_int pa_nil))) pa_nil))) pa_nil)) (pg_name (i := 1) scLaw.nd rfl (Or.inl rfl))
        (pss_cons (ps_set (i := 2) scLaw.nd rfl (Or.inl rfl) (pe_c GPen hr (by decide) (by rfl) (pa_cons (pe_c GCellAt hr (by decide) (by rfl) (pa_cons (pv 0) (pa_cons (pv 1) pa_nil))) pa_nil)))
        (pss_cons (ps_set (i := 3) scLaw.nd rfl (Or.inl rfl) (pe_op op_add pe_int (pe_c GDraw hr (by decide) (by rfl) (pa_cons (pv 2) (pa_cons pe_int pa_nil)))))
        (pss_cons (ps_set (i := 4) scLaw.nd rfl (Or.inl rfl) (pe_slice (sl_tup7) (pe_c GWords hr (by decide) (by rfl) (pa_cons (pv 2) (pa_cons (pv 3) pa_nil))) po_none (po_some pe_int)))
        (pss_cons (ps_if (PW.pt (pw_or (pt_not (pt_val (pe_c GShown hr (by decide) (by rfl) (pa_cons (pv 3) (pa_cons (pv 4) pa_nil))))) (pw_or1 (pt_not (pt_val (pe_c GRight hr (by decide) (by rfl) (pa_cons (pv 3) (pa_cons (pv 4) pa_nil)))))))) (pss_one (ps_ret pe_bl)) pss_nil)
        (pss_cons (ps_par (i := 5) (j := 6) rfl scLaw.nd rfl rfl (by decide) rfl rfl (pa_cons (pe_c GMany hr (by decide) (by rfl) (pa_cons (pv 3) (pa_cons (pv 4) pa_nil))) (pa_cons (pe_c GOpens hr (by decide) (by rfl) (pa_cons (pv 3) (pa_cons (pv 4) pa_nil))) pa_nil)) (by rfl))
        (pss_cons (ps_set (i := 7) scLaw.nd rfl (Or.inl rfl) (pe_op op_catT (pv 4) (pe_tup (pa_cons (pe_c GLTold hr (by decide) (by rfl) (pa_cons (pv 2) (pa_cons (pv 3) pa_nil))) pa_nil))))
        (pss_cons (ps_if (PW.pt (pw_or (pt_cmpR op_gt (pe_c GMany hr (by decide) (by rfl) (pa_cons (pv 3) (pa_cons (pv 7) pa_nil))) (pv 5) (nomark _)) (pw_or1 (pt_not (pt_val (pe_c GShown hr (by decide) (by rfl) (pa_cons (pv 3) (pa_cons (pv 7) pa_nil)))))))) (pss_one (ps_ret pe_bl)) pss_nil)
        (pss_cons (ps_for PassesOwn.never rfl (pi_zip (by rfl) T.zip (pa_cons (pe_c GOpens hr (by decide) (by rfl) (pa_cons (pv 3) (pa_cons (pv 7) pa_nil))) (pa_cons (pv 6) pa_nil))) (pg_tup rfl (pgs_cons (pg_name (i := 8) scLaw.nd rfl (Or.inl rfl)) (pgs_cons (pg_name (i := 9) scLaw.nd rfl (Or.inr rfl)) pgs_nil)))
          (pss_one (ps_if (pt_cmpR (op_neT hr.units) (pe_lc (own := [("_law_deed", 14)]) (g := gName 14) rfl scLaw.nd (pi_tup (pv 8)) (blkOk_by (own := [("_law_deed", 14)]) (N := ["_law_script", "_law_k", "_law_pen_here", "_law_size", "_law_words_here", "_law_many", "_law_opened", "_law_more", "_law_row", "_law_ahead", "_law_mixed_here", "_law_names", "_law_order", "_law_told_here", "_law_deed", "_law_page"]) (sc := defScope sLaw) (by decide +kernel)) (fun _ _ _ _ _ => (pg_name (i := 14) scLaw.nd rfl (Or.inl rfl))) (fun _ _ _ _ _ => (pts_one (pt_cmpR (r := rIn K true) op_notIn_seq (pv 14) (pv 9) (by rfl)))) (fun _ _ _ _ _ => (pv 14))) (pe_lst pa_nil) (nomark _)) (pss_one (ps_ret pe_bl)) pss_nil)))
        (pss_cons (ps_set (i := 10) scLaw.nd rfl (Or.inl rfl) (pe_callTy call_tuple_of (by rfl) T.tuple (by decide +kernel) (pa_cons (pe_c GMixed hr (by decide) (by rfl) (pa_cons (pv 2) (pa_cons (pv 4) pa_nil))) pa_nil)))
        (pss_cons (ps_if (PW.pt (pw_or (pt_cmpR (op_neT hr.units) (pe_c GOpens hr (by decide) (by rfl) (pa_cons (pv 3) (pa_cons (pv 10) pa_nil))) (pv 6) (nomark _)) (pw_or1 (pt_cmpR (op_neT hr.units) (pe_c GFirst hr (by decide) (by rfl) (pa_cons (pv 3) (pa_cons (pv 10) pa_nil))) (pe_c GFirst hr (by decide) (by rfl) (pa_cons (pv 3) (pa_cons (pv 4) pa_nil))) (nomark _))))) (pss_one (ps_ret pe_bl)) pss_nil)
        (pss_cons (ps_set (i := 11) scLaw.nd rfl (Or.inl rfl) (pe_c GMixed hr (by decide) (by rfl) (pa_cons (pv 2) (pa_cons (pe_listRg rfl (by rfl) T.list (prg_1 (by rfl) T.range (pv 3))) pa_nil))))
        (pss_cons (ps_if (pt_cmpR op_ne (pe_c GMany hr (by decide) (by rfl) (pa_cons (pv 3) (pa_cons (pe_c GNamed hr (by decide) (by rfl) (pa_cons (pv 4) (pa_cons (pv 11) pa_nil))) pa_nil))) (pv 5) (nomark _)) (pss_one (ps_ret pe_bl)) pss_nil)
        (pss_cons (ps_set (i := 12) scLaw.nd rfl (Or.inl rfl) (pe_callTy call_tuple_of (by rfl) T.tuple (by decide +kernel) (pa_cons (pe_c GMixed hr (by decide) (by rfl) (pa_cons (pv 2) (pa_cons (pe_listRg rfl (by rfl) T.list (prg_1 (by rfl) T.range (pv 3))) pa_nil))) pa_nil)))
        (pss_cons (ps_set (i := 13) scLaw.nd rfl (Or.inl rfl) (pe_callTy call_tuple_of (by rfl) T.tuple (by decide +kernel) (pa_cons (pe_lc (own := [("_law_page", 15), ("_law_deed", 14)]) (g := gTup K 2 (gCons (gName 15) (gCons (gName 14) (gNil)))) (tt := tYes) rfl scLaw.nd (pi_enumT (by rfl) T.enum (pa_cons (pv 12) pa_nil)) (blkOk_by (own := [("_law_page", 15), ("_law_deed", 14)]) (N := ["_law_script", "_law_k", "_law_pen_here", "_law_size", "_law_words_here", "_law_many", "_law_opened", "_law_more", "_law_row", "_law_ahead", "_law_mixed_here", "_law_names", "_law_order", "_law_told_here", "_law_deed", "_law_page"]) (sc := defScope sLaw) (by decide +kernel)) (fun _ _ _ _ _ => (pg_tup rfl (pgs_cons (pg_name (i := 15) scLaw.nd rfl (Or.inl rfl)) (pgs_cons (pg_name (i := 14) scLaw.nd rfl (Or.inl rfl)) pgs_nil)))) (fun _ _ _ _ _ => pts_nil) (fun _ _ _ _ _ => (pe_tup (pa_cons pe_str (pa_cons (pv 14) (pa_cons (pv 15) pa_nil)))))) pa_nil)))
        (pss_one (ps_if (PW.pt (pw_or (pt_cmpR (op_neT hr.units) (pe_c GSettled hr (by decide) (by rfl) (pa_cons (pv 3) (pa_cons (pv 13) pa_nil))) (pv 12) (nomark _)) (pw_or1 (pt_cmpR op_ne (pe_c GMany hr (by decide) (by rfl) (pa_cons (pv 3) (pa_cons (pv 13) pa_nil))) pe_int (nomark _))))) (pss_one (ps_ret pe_bl)) pss_nil)))))))))))))))))
      (pss_one (ps_ret pe_bl))), ?_⟩
    obtain ⟨m, em, m2⟩ := turns (ns.map V.int).length
    refine ⟨_, rfl, a, _, rfl, .inl hq, _, _, rfl, _, _, rfl, ?_⟩
    rw [em]
    refine ⟨_, rfl, by omega, by omega, ?_⟩
    rw [Int.toNat_natCast]
    refine for_range (lo := 0) (n := m) (fun i σ H4 => ∃ y1 y2 y3 y4 y5 y6 y7 y8 y9 y10 y11 y12 y13, σ = [some (V.ref a), y1, y2, y3, y4, y5, y6, y7, y8, y9, y10, y11, y12, y13, none, none] ∧ Same H H4)
      ⟨_, _, _, _, _, _, _, _, _, _, _, _, _, rfl, Same.refl _⟩ ?_ ?_
    · rintro i σ H4 hi ⟨y1, y2, y3, y4, y5, y6, y7, y8, y9, y10, y11, y12, y13, rfl, s4⟩
      rw [Int.zero_add]
      -- the pen
      refine ⟨_, rfl, _, rfl, a, ns, i, rfl, s4.seq hq, fun c => ⟨c, rfl, fun H5 p s5 np hp => ?_⟩⟩
      -- the size
      refine ⟨_, rfl, p, 6, rfl, hp, by decide, by decide, fun H6 r k6 hr6 => ⟨_, _, rfl, rfl, ?_⟩⟩
      obtain ⟨n, hn⟩ : ∃ n : Nat, n = 1 + r := ⟨_, rfl⟩
      have en : (1 : Int) + (r : Int) = (n : Int) := by omega
      have n1 : 1 ≤ n := by omega
      have n6 : n ≤ 6 := by omega
      have n7 : n ≤ 7 := by omega
      show gName 3 (V.int ((1 : Int) + (r : Int))) _ _ _
      rw [en]
      -- the words
      refine ⟨_, rfl, _, rfl, p, n, rfl, k6.2, n1, n6, fun H7 t xs ws k7 nt et hw l8 ok => ⟨_, rfl, t, xs, rfl, rfl, rfl, et, fun t' B s8 et' => ?_⟩⟩
      have k5B := k6.trans (k7.same s8)
      have hpB := k5B.2
      have gB : ArgT B t' n (ws.take 7) := ⟨⟨_, et', take_ws 7 (WsAt.same s8 hw)⟩, by rw [List.length_take]; omega, fun w m => ok w (List.mem_of_mem_take m), n1, n6⟩
      have l7 : (ws.take 7).length ≤ 7 := by
        rw [List.length_take]
        omega
      generalize ws.take 7 = ws1 at gB l7
      generalize xs.take 7 = xs1 at et'
      -- shown, and the clash right
      refine ⟨_, rfl, _, rfl, t', n, ws1, rfl, gB, fun H9 s9 => ⟨_, rfl, iteF ⟨_, rfl, _, rfl, t', n, ws1, rfl, gB.same s9, fun H10 s10 => ⟨_, rfl, iteF ?_⟩⟩⟩⟩
      have k10 : Keep p B H10 := Keep.of hpB (s9.trans s10)
      -- many, opened
      refine ⟨_, rfl, _, rfl, t', n, ws1, rfl, gB.keep hpB k10, fun H11 s11 => ⟨_, rfl, _, rfl, t', n, ws1, rfl, gB.keep hpB (k10.same s11), fun C L ps s12 nL eL rL => ⟨_, _, rfl, ?_⟩⟩⟩
      have kBC : Keep p B C := (k10.same s11).same s12
      have hpC := kBC.2
      have hLp : L ≠ p := (k10.same s11).2.ne nL
      have gC := gB.keep hpB kBC
      have etC := kBC.tup hpB et'
      have hw1B := gB
      obtain ⟨⟨xsB, etB, hwB⟩, _, okB, _, _⟩ := gB
      rw [et'] at etB
      cases etB
      have gB : ArgT B t' n ws1 := hw1B
      have hxl : xs1.length ≤ 7 := by
        rw [hwB.len]
        exact l7
      -- one word more
      refine ⟨_, rfl, _, rfl, _, rfl, p, n, rfl, hpC, n1, n6, fun H13 u wd k13 nu hwd okd => ⟨by show 1 ≤ sizeLine; decide, fun c nc => ?_⟩⟩
      have s14 := same_upd (o := .tup [.ref u]) nc
      refine ⟨t', c, xs1, [.ref u], rfl, rfl, s14 _ _ (k13.tup hpC etC), upd_same, ?_, by simp, fun m' E1 s15 em' => ?_⟩
      · rw [List.length_singleton]
        exact Nat.le_of_lt (small1000 (by omega))
      have kCE : Keep p C E1 := (k13.same s14).same s15
      have hpE := kCE.2
      have kBE := kBC.trans kCE
      have gM : ArgT E1 m' n (ws1 ++ [wd]) := by
        refine ⟨⟨_, em', Paired.snoc (WsAt.tups (kBE.tups hpB) hwB) ?_⟩, by rw [List.length_append, List.length_singleton]; omega, fun w m => ?_, n1, n6⟩
        · obtain ⟨b, e, hb⟩ := hwd
          exact ⟨b, e, s15 _ _ (s14 _ _ hb)⟩
        · rcases List.mem_append.mp m with h | h
          · exact okB w h
          · rw [List.mem_singleton.mp h]
            exact okd
      have hsub : ∀ w ∈ ws1, w ∈ ws1 ++ [wd] := fun w m => List.mem_append_left _ m
      refine ⟨_, rfl, _, rfl, m', n, _, rfl, gM, fun H16 s16 => ⟨_, rfl, _, _, rfl, rfl, _, rfl, iteN ?_ ⟨_, rfl, _, rfl, m', n, _, rfl, gM.same s16, fun H17 s17 => ⟨_, rfl, iteF ?_⟩⟩⟩⟩
      · have := many_mono (n := n) hsub
        exact decide_eq_false (by omega)
      have k17 : Keep p E1 H17 := Keep.of hpE (s16.trans s17)
      refine ⟨_, rfl, _, rfl, m', n, _, rfl, gM.keep hpE k17, fun H18 L2 ps2 s18 nL2 eL2 rL2 => ?_⟩
      have kC18 : Keep p C H18 := kCE.trans (k17.same s18)
      have eL18 := kC18.1 _ _ eL hLp
      have rL18 := rL.keep hpC kC18
      refine ⟨_, rfl, L2, L, ps2, ps, rfl, SqL.of eL2, SqL.of eL18, ?_⟩
      refine RZ.for_zipL (K := K) (a := L2) (b := L) (xs := ps2) (ys := ps) (by rw [rL2.1, rL18.1]) (fun j σ H19 => ∃ y8 y9, σ = [some (V.ref a), some (.int (i : Int)), some (.ref p), some (.int (n : Int)), some (.ref t'), some (.int (many n ws1 : Nat)), some (.ref L), some (.ref m'), y8, y9, y10, y11, y12, y13, none, none] ∧ Same H18 H19)
        ⟨_, _, rfl, Same.refl _⟩ (fun j σ H19 ⟨_, _, _, s19⟩ => ⟨s19.seq (SqL.of eL2), s19.seq (SqL.of eL18)⟩) ?_ ?_
      · rintro j x y T5 σ H19 hx hy ⟨y8, y9, rfl, s19⟩ nT
        obtain ⟨r2, rfl, hr2⟩ := (rL2.same s19).2 j x hx
        obtain ⟨r1, rfl, hr1⟩ := (rL18.same s19).2 j y hy
        have s20 := same_upd (o := .tup [.ref r2, .ref r1]) nT
        have e2 := s20 _ _ hr2
        have e1 := s20 _ _ hr1
        refine ⟨T5, _, rfl, .inl (.inl upd_same), rfl, _, _, rfl, _, _, rfl, rfl, ?_⟩
        refine ⟨_, rfl, r2, rfl, ⟨_, .inl (.inl e2)⟩, fun D nD => ?_⟩
        generalize upd H19 T5 (.tup [.ref r2, .ref r1]) = H20 at s20 e2 e1 nD ⊢
        refine lc_tup (K := K) (a := r2) (xs := nums (opn n (ws1 ++ [wd]) j)) (fun k H21 => Same H20 H21 ∧ H21 D = some (.lst [])) ⟨same_upd nD, upd_same⟩ (fun k H21 _ h => .inl (.inl (h.1 _ _ e2))) ?_ ?_
        · rintro k z H21 hk ⟨s21, e21⟩
          obtain ⟨d, hd, rfl⟩ := nums_at hk
          refine ⟨rfl, _, rfl, _, rfl, r1, _, rfl, .inr (.inl (.inl (s21 _ _ e1))), rfl, flat_nums _, _, rfl, iteN ?_ ⟨s21, e21⟩⟩
          show (!inV (.int (d : Int)) (nums (opn n ws1 j))) = false
          rw [inV_nums (opn_mono n7 hsub (List.mem_of_getElem? hd))]
          rfl
        · rintro H21 ⟨s21, e21⟩
          refine ⟨Nat.zero_le _, fun M nM => ?_⟩
          have s22 := same_upd (o := .lst []) nM
          exact ⟨.list [], .lst (SqL.of (s22 _ _ e21)) .nil, .lst (SqL.of upd_same) .nil, by simp [PyData.canLay0, PyData.canLayAll0], by simp [PyData.depth, PyData.depthAll], _, rfl, iteF ⟨_, _, rfl, s19.trans (s20.trans (s21.trans s22))⟩⟩
      · rintro σ H22 ⟨y8, y9, rfl, s22⟩
        have kC22 := kC18.same s22
        have kB22 := kBC.trans kC22
        -- the words mixed
        refine ⟨_, rfl, _, rfl, p, t', xs1, rfl, kB22.2, .inr (.inl (.inl (kB22.tup hpB et'))), by omega, fun H23 M ys k23 nM eM pm => ⟨M, ys, rfl, .inl ⟨SqL.of eM, fun q' nq' => ?_⟩⟩⟩
        have s24 := same_upd (o := .tup ys) nq'
        have kC24 := (kC22.trans k23).same s24
        have kB24 := kBC.trans kC24
        obtain ⟨ws3, g3, pw⟩ := (gB.keep hpB kB24).perm (kB24.tup hpB et') upd_same pm
        have hsame : ∀ w, w ∈ ws3 ↔ w ∈ ws1 := fun w => pw.mem_iff
        refine ⟨_, rfl, _, rfl, q', n, ws3, rfl, g3, fun H25 L3 ps3 s25 nL3 eL3 r3 => ?_⟩
        have kC25 := kC24.same s25
        have kB25 := kBC.trans kC25
        have hop : rowsD n (opn n ws3) = rowsD n (opn n ws1) := List.map_congr_left fun p _ => by rw [opn_same hsame p]
        refine ⟨_, rfl, .list (rowsD n (opn n ws1)), .lst (SqL.of eL3) (hop ▸ dp_rows r3), .lst (SqL.of (kC25.1 _ _ eL hLp)) (dp_rows (rL.keep hpC kC25)), (lay_rows _ _).1, (lay_rows _ _).2, _, rfl, iteF ?_⟩
        have hfd : firstD n ws3 = firstD n ws1 := by
          unfold firstD
          rw [many_same hsame, first_same hsame]
        refine ⟨_, rfl, _, rfl, q', n, ws3, rfl, g3.same s25, fun v H26 s26 hv => ⟨_, rfl, _, rfl, t', n, ws1, rfl, gB.keep hpB (kB25.same s26), fun v2 H27 s27 hv2 => ⟨firstD n ws1, hfd ▸ (hv.same s27).dp, hv2.dp, (lay_first _ _).1, (lay_first _ _).2, _, rfl, iteF ?_⟩⟩⟩
        have kC27 := (kC25.same s26).same s27
        -- names
        refine ⟨_, rfl, _, rfl, _, rfl, ⟨by omega, by omega⟩, fun r0 nr0 => ?_⟩
        rw [rgV_nums]
        have k28 := (Keep.refl kC27.2).put (o := .lst (nums (List.range n))) nr0 (kC27.2.ne nr0)
        refine ⟨p, r0, nums (List.range n), rfl, k28.2, .inl (SqL.of upd_same), by rw [nums_len, List.length_range]; omega, fun H29 N2 ys2 k29 nN2 eN2 pm2 => ?_⟩
        obtain ⟨names, rfl, pmn⟩ := perm_nums pm2
        have hnm := perm_ord pmn
        have kC29 := (kC27.trans k28).trans k29
        have kB29 := kBC.trans kC29
        refine ⟨_, rfl, _, rfl, _, rfl, t', N2, xs1, n, ws1, names, rfl, kB29.tup hpB et', WsAt.tups (kB29.tups hpB) hwB, okB, by omega, n6, eN2, hnm.ln, fun H30 t3 ys3 s30 nt3 et3 hw3 => ?_⟩
        refine ⟨t3, n, ws1.map (ren names), rfl, ⟨⟨_, et3, hw3⟩, by rw [List.length_map]; omega, fun w m => ?_, n1, n6⟩, fun H31 s31 => ⟨_, rfl, rfl, _, rfl, iteN ?_ ?_⟩⟩
        · obtain ⟨w0, m0, rfl⟩ := List.mem_map.mp m
          exact ren_ok hnm.nd hnm.ln hnm.lt (okB w0 m0)
        · rw [ren_many hnm.nd hnm.ln hnm.lt okB, decide_eq_true rfl]
          rfl
        have kC31 := (kC29.same s30).same s31
        have hp31 := kC31.2
        -- an order, told whole
        refine ⟨_, rfl, _, rfl, _, rfl, ⟨by omega, by omega⟩, fun r1 nr1 => ?_⟩
        rw [rgV_nums]
        have k32 := (Keep.refl hp31).put (o := .lst (nums (List.range n))) nr1 (hp31.ne nr1)
        refine ⟨p, r1, nums (List.range n), rfl, k32.2, .inl (SqL.of upd_same), by rw [nums_len, List.length_range]; omega, fun H33 O ys4 k33 nO eO pm4 => ?_⟩
        obtain ⟨od, rfl, pmo⟩ := perm_nums pm4
        have hod := perm_ord pmo
        have kC33 := (kC31.trans k32).trans k33
        refine ⟨O, _, rfl, .inl ⟨SqL.of eO, fun t5 nt5 => ?_⟩⟩
        have s34 := same_upd (o := .tup (nums od)) nt5
        have kC34 := kC33.same s34
        have e5 : upd H33 t5 (.tup (nums od)) t5 = some (.tup (nums od)) := upd_same
        generalize upd H33 t5 (.tup (nums od)) = H34 at s34 kC34 e5 ⊢
        refine ⟨_, rfl, t5, nums od, rfl, .inl (.inl e5), fun D nD => ?_⟩
        refine lc_enumT (K := K) (a := t5) (xs := nums od) (fun j H35 => Same H34 H35 ∧ ∃ acc, H35 D = some (.lst acc) ∧ WsAt H35 acc (toldTo od j)) ⟨same_upd nD, [], upd_same, .nil⟩ (fun j H35 h => .inl (.inl (h.1 _ _ e5))) ?_ ?_
        · rintro j x T6 H35 hx ⟨s35, acc, e35, pa⟩ nT
          obtain ⟨d, hd, rfl⟩ := nums_at hx
          have hjn : j < n := by
            have := (List.getElem?_eq_some_iff.mp hd).1
            have := hod.ln
            omega
          refine ⟨T6, _, rfl, .inl (.inl upd_same), rfl, _, _, rfl, _, _, rfl, rfl, rfl, ?_⟩
          refine tyes_i ?_
          have s36 := same_upd (o := .tup [.int ((j : Nat) : Int), .int (d : Int)]) nT
          refine ⟨_, rfl, _, rfl, by show 3 ≤ sizeLine; decide, fun u nu => ?_⟩
          have s37 := s36.trans (same_upd (o := .tup [.str "at", .int (d : Int), .int (j : Int)]) nu)
          refine ⟨acc, s37 _ _ e35, ?_, same_put (s35.trans s37) nD, _, upd_same, ?_⟩
          · rw [WsAt.len pa]
            have := toldTo_len od j
            exact small1000 (by omega)
          · rw [toldTo_succ hd]
            have tp : Tups _ (upd _ D (.lst (acc ++ [.ref u]))) := Tups.put (s37 _ _ e35)
            refine Paired.snoc (WsAt.tups tp (WsAt.same s37 pa)) ⟨u, rfl, tp _ _ ?_⟩
            exact upd_same
        · rintro H35 ⟨s35, acc, e35, pa⟩
          rw [nums_len] at pa
          have pa : WsAt H35 acc (toldAll od) := pa
          refine ⟨D, acc, rfl, .inl ⟨SqL.of e35, fun t6 nt6 => ?_⟩⟩
          have s36 := same_upd (o := .tup acc) nt6
          have g6 : ArgT (upd H35 t6 (.tup acc)) t6 n (toldAll od) := by
            refine ⟨⟨acc, upd_same, WsAt.same s36 pa⟩, ?_, told_ok hod.ln hod.lt, n1, n6⟩
            have : (toldAll od).length ≤ od.length := toldTo_len od od.length
            have := hod.ln
            omega
          refine ⟨_, rfl, _, rfl, t6, n, toldAll od, rfl, g6, fun H37 t7 s37 nt7 et7 => ?_⟩
          have s347 := s35.trans (s36.trans s37)
          have lay := lay_nums od
          refine ⟨_, rfl, .tuple (numsD od), .tup (.inl (.inl et7)) (told_sets n7 hod ▸ dp_sets _ _), .tup (.inl (.inl (s347 _ _ e5))) (dp_nums _), lay.1, Nat.le_succ_of_le lay.2, _, rfl, iteF ?_⟩
          refine ⟨_, rfl, _, rfl, t6, n, toldAll od, rfl, g6.same s37, fun H38 s38 => ⟨rfl, _, rfl, iteN ?_ ?_⟩⟩
          · rw [told_many hod.nd hod.ln hod.lt]
            rfl
          · have kC38 := kC34.same (s347.trans s38)
            exact ⟨_, _, _, _, _, _, _, _, _, _, _, _, _, rfl, s4.trans (((k5B.trans kBC).trans kC38).base s5 np)⟩
    · rintro σ H4 ⟨y1, y2, y3, y4, y5, y6, y7, y8, y9, y10, y11, y12, y13, rfl, s4⟩
      exact q H4
end
end LB
namespace LB
open PySem PySem.Spec PyProof.Rows L2
open C8 (Cal pe_c)
def dOf (x : Str) (st : Stmt) : He.DefD := ⟨(x, none), x, x, defArgs st, defBody st, defScope st, [], []⟩
def fnl : List He.DefD := [dOf "is_whole" sWhole, dOf "is_from" sFrom, dOf "rises" sRises, dOf "is_told" sTold, dOf "need_told" sNeed, dOf "has" sHas, dOf "count_of" sCount, dOf "is_let" sLet, dOf "next_ones" sNext, dOf "ways_on" sWays, dOf "fit_many" sFit, dOf "orders_many" sMany, dOf "first_order" sFirst, dOf "open_in" sOpenIn, dOf "open_pages" sOpens, dOf "settled_pages" sSettled, dOf "is_so" sSo, dOf "order_fits" sFits, dOf "lots_of" sLots, dOf "fits_some" sSome, dOf "first_clash" sClash, dOf "clash_holds" sHolds, dOf "_law_pen" sPen, dOf "_law_cell_at" sCellAt, dOf "_law_draw" sDraw, dOf "_law_mixed" sMixed, dOf "_law_true" sTrue, dOf "_law_told" sLTold, dOf "_law_words" sWords, dOf "_law_shown" sShown, dOf "_law_clash_right" sRight, dOf "_law_named" sNamed, dOf "law" sLaw]
def bis : List Str := ["isinstance", "len", "all", "zip", "range", "sum", "sorted", "set", "list", "tuple", "min", "max", "enumerate", "int", "bool", "str"]
def gls1 : List Str := ["is_whole", "is_from", "rises", "is_told", "need_told", "has", "count_of", "is_let", "next_ones", "ways_on", "fit_many", "orders_many", "first_order", "open_in", "open_pages", "settled_pages", "is_so"]
def gls2 : List Str := ["order_fits", "lots_of", "fits_some", "first_clash", "clash_holds", "_law_pen", "_law_cell_at", "_law_draw", "_law_mixed", "_law_true", "_law_told", "_law_words", "_law_shown", "_law_clash_right", "_law_named", "law", "BITS"]
def gls : List Str := gls1 ++ gls2
def fal : List He.Fa := gls.map He.Fa.glo ++ (bis.map He.Fa.free ++ [.int "MOST_SIZE" 7, .int "MOST_WORDS" 8])
def bitsD : List He.Dv := [.int 1, .int 2, .int 4, .int 8, .int 16, .int 32, .int 64]
abbrev AlB : Type := He.AlD × Bool
def obsB (fa : List He.Fa) (fn : List He.DefD) (K : PySem.W.Frag) : AlB := (He.obsD fa fn K, He.tupB K "BITS" bitsD)
def valB (fn : List He.DefD) : AlB := (He.valD fn, true)
def SaysB (fa : List He.Fa) (fn : List He.DefD) (K : PySem.W.Frag) : Prop := obsB fa fn K = valB fn
def obsBG (n : Nat) (fa : List He.Fa) (fn : List He.DefD) (g : Addr → Option Obj) : AlB := obsB fa fn (He.frG g (He.asD g n))
def hookB (n : Nat) (fa : List He.Fa) (fn : List He.DefD) : PySem.W.Hook where
  α := AlB
  obs := fun s => obsBG n fa fn s.heap.get?
  val := fun _ => valB fn
  says := fun _ h => ∃ K : PySem.W.Frag, K.In h ∧ SaysB fa fn K
  of := fun _ _ e => ⟨_, He.frG_in, e⟩
  keeps := fun _ _ _ ⟨K, hK, c⟩ k => ⟨K, PySem.W.Frag.In.keeps hK k, c⟩
theorem obsBG_eq {n : Nat} {fa : List He.Fa} {fn : List He.DefD} {g : Addr → Option Obj} {s : Shared} (h : ∀ a, g a = s.heap.get? a) : obsBG n fa fn g = (hookB n fa fn).obs s := by
  have e : g = s.heap.get? := funext h
  rw [e] <;> rfl
abbrev lawR : PySem.W.OpenRow := PySem.W.OpenLaw.row PySem.Challenge.rw_deedsheaf_k65_whole_what_copies_settle
abbrev lawHook : PySem.W.Hook := hookB 4 fal fnl
def lawOb (s : PySem.W.SharedT) : AlB := obsBG 4 fal fnl (HandSHeadRun.getT s)
theorem lawOb_eq (s : PySem.W.SharedT) : lawOb s = lawHook.obs s.abs := obsBG_eq (HandSHeadRun.getT_eq s)
def loose1 : List Str := ["SheafError", "NoSize", "NoWords", "is_whole", "is_from", "rises", "MOST_SIZE", "MOST_WORDS", "BITS", "is_told", "need_told", "has", "count_of", "is_let", "next_ones", "ways_on", "fit_many", "orders_many", "first_order", "open_in"]
def loose2 : List Str := ["open_pages", "settled_pages", "is_so", "order_fits", "lots_of", "fits_some", "first_clash", "clash_holds", "_law_pen", "_law_cell_at", "_law_draw", "_law_mixed", "_law_true", "_law_told", "_law_words", "_law_shown", "_law_clash_right", "_law_named"]
def looseNs : List Str := loose1 ++ loose2
theorem lawRun (w : World) : HandSHeadRun.RunEq lawR (PySem.W.view lawR.prog [42]) lawHook lawOb 4000 looseNs w := by
  intro os
  kernel_rfl
end LB
namespace LB
open PySem PySem.Spec PyProof.Rows L2
open C8 (Cal pe_c)
theorem df_of {K : PySem.W.Frag} {mg : Str → Option Value} {x : Str} {st : Stmt} {ps : List Str} {f : Addr} (F : ∃ fd, FunD K x x (defArgs st) (defBody st) (defScope st) [] [] f fd) (g : mg x = some (.ref f))
    (h : ∀ (kV doc pm : Value) (an : Option Addr) (cdv ct : Value) (us : List Value), us.length = ps.length → bindArgs (PySem.W.fnOf x x (defArgs st) (defBody st) (defScope st) .none kV doc pm an cdv ct) ⟨us, []⟩ = pure (ps.zip us)) : Df K mg x st ps := by
  obtain ⟨fd, F⟩ := F
  have b := F.bindsN h
  obtain ⟨oc, od, dV, kV, doc, pm, an, cdv, ct, osl, rfl, lk, hcd, hD, hK⟩ := F.ex
  rcases hD with ⟨_, rfl⟩ | ⟨e, _⟩
  · exact ⟨f, _, ⟨⟨oc, od, kV, doc, pm, an, cdv, ct, osl, rfl, lk, hcd⟩, F.kp⟩, g, b⟩
  · exact absurd rfl e
theorem fun_of {K : PySem.W.Frag} {x : Str} {st : Stmt} {f : Addr} {fd : FuncData} (F : FunD K x x (defArgs st) (defBody st) (defScope st) [] [] f fd) : Fun K x x st f fd := by
  obtain ⟨oc, od, dV, kV, doc, pm, an, cdv, ct, osl, rfl, lk, hcd, hD, hK⟩ := F.ex
  rcases hD with ⟨_, rfl⟩ | ⟨e, _⟩
  · exact ⟨⟨oc, od, kV, doc, pm, an, cdv, ct, osl, rfl, lk, hcd⟩, F.kp⟩
  · exact absurd rfl e
theorem lawFacts {P : Program} {w : World} {K : PySem.W.Frag} {h : Heap} {mg : Str → Option Value} {f : Addr} (X : K.In h) (G : h.Ns mainGlobals mg) (hfa : mg ("law" : Str) = some (.ref f)) (c0 : SaysB fal fnl K) :
    ∃ fd : FuncData, (∀ (s : Shared) (v : Value), BindsTo s fd ⟨[v], []⟩ [("_law_script", v)]) ∧ ∀ base : Heap, K.In base → base.Ns mainGlobals mg → FnOk P w K mg base CX0 10 f fd ["_law_script"] (spLaw K) := by
  have c : He.SaysD fal fnl K := congrArg (fun z : AlB => z.1) c0
  have ct : He.tupB K "BITS" bitsD = true := congrArg (fun z : AlB => z.2) c0
  have call := (He.ba (show ((fal.all fun f => f.ok K) && fnl.all fun d => d.ok K) = true from congrArg (fun z : He.AlD => z.1) c)).1
  have hg : ∀ x ∈ gls, mg x = some (.ref (He.ga K x)) := fun x m => He.glo_ok X G (List.all_eq_true.mp call _ (List.mem_append_left _ (List.mem_map.mpr ⟨x, m, rfl⟩)))
  have hf : ∀ x ∈ bis, mg x = none := fun x m => He.free_ok X G (List.all_eq_true.mp call _ (List.mem_append_right _ (List.mem_append_left _ (List.mem_map.mpr ⟨x, m, rfl⟩))))
  have T : Txt K mg (He.ga K "BITS") := ⟨hf, He.int_ok X G (List.all_eq_true.mp call _ (List.mem_append_right _ (List.mem_append_right _ List.mem_cons_self))),
    He.int_ok X G (List.all_eq_true.mp call _ (List.mem_append_right _ (List.mem_append_right _ (List.mem_cons_of_mem _ List.mem_cons_self)))), hg _ (by decide +kernel), fun H => He.tupB_ok ct H⟩
  have DWhole : Df K mg "is_whole" sWhole ["thing"] := df_of (c.def_ 0 (d := dOf "is_whole" sWhole) rfl) (hg "is_whole" (by decide +kernel)) fun _ _ _ _ _ _ us hl => match us, hl with | [_], _ => rfl
  have DFrom : Df K mg "is_from" sFrom ["thing", "low", "high"] := df_of (c.def_ 1 (d := dOf "is_from" sFrom) rfl) (hg "is_from" (by decide +kernel)) fun _ _ _ _ _ _ us hl => match us, hl with | [_, _, _], _ => rfl
  have DRises : Df K mg "rises" sRises ["things"] := df_of (c.def_ 2 (d := dOf "rises" sRises) rfl) (hg "rises" (by decide +kernel)) fun _ _ _ _ _ _ us hl => match us, hl with | [_], _ => rfl
  have DTold : Df K mg "is_told" sTold ["size", "thing"] := df_of (c.def_ 3 (d := dOf "is_told" sTold) rfl) (hg "is_told" (by decide +kernel)) fun _ _ _ _ _ _ us hl => match us, hl with | [_, _], _ => rfl
  have DNeed : Df K mg "need_told" sNeed ["size", "words"] := df_of (c.def_ 4 (d := dOf "need_told" sNeed) rfl) (hg "need_told" (by decide +kernel)) fun _ _ _ _ _ _ us hl => match us, hl with | [_, _], _ => rfl
  have DHas : Df K mg "has" sHas ["used", "deed"] := df_of (c.def_ 5 (d := dOf "has" sHas) rfl) (hg "has" (by decide +kernel)) fun _ _ _ _ _ _ us hl => match us, hl with | [_, _], _ => rfl
  have DCount : Df K mg "count_of" sCount ["used"] := df_of (c.def_ 6 (d := dOf "count_of" sCount) rfl) (hg "count_of" (by decide +kernel)) fun _ _ _ _ _ _ us hl => match us, hl with | [_], _ => rfl
  have DLet : Df K mg "is_let" sLet ["words", "used", "deed"] := df_of (c.def_ 7 (d := dOf "is_let" sLet) rfl) (hg "is_let" (by decide +kernel)) fun _ _ _ _ _ _ us hl => match us, hl with | [_, _, _], _ => rfl
  have DNext : Df K mg "next_ones" sNext ["size", "words", "used"] := df_of (c.def_ 8 (d := dOf "next_ones" sNext) rfl) (hg "next_ones" (by decide +kernel)) fun _ _ _ _ _ _ us hl => match us, hl with | [_, _, _], _ => rfl
  have DWays : Df K mg "ways_on" sWays ["size", "words"] := df_of (c.def_ 9 (d := dOf "ways_on" sWays) rfl) (hg "ways_on" (by decide +kernel)) fun _ _ _ _ _ _ us hl => match us, hl with | [_, _], _ => rfl
  have DFit : Df K mg "fit_many" sFit ["size", "words"] := df_of (c.def_ 10 (d := dOf "fit_many" sFit) rfl) (hg "fit_many" (by decide +kernel)) fun _ _ _ _ _ _ us hl => match us, hl with | [_, _], _ => rfl
  have DMany : Df K mg "orders_many" sMany ["size", "words"] := df_of (c.def_ 11 (d := dOf "orders_many" sMany) rfl) (hg "orders_many" (by decide +kernel)) fun _ _ _ _ _ _ us hl => match us, hl with | [_, _], _ => rfl
  have DFirst : Df K mg "first_order" sFirst ["size", "words"] := df_of (c.def_ 12 (d := dOf "first_order" sFirst) rfl) (hg "first_order" (by decide +kernel)) fun _ _ _ _ _ _ us hl => match us, hl with | [_, _], _ => rfl
  have DOpenIn : Df K mg "open_in" sOpenIn ["size", "words"] := df_of (c.def_ 13 (d := dOf "open_in" sOpenIn) rfl) (hg "open_in" (by decide +kernel)) fun _ _ _ _ _ _ us hl => match us, hl with | [_, _], _ => rfl
  have DOpens : Df K mg "open_pages" sOpens ["size", "words"] := df_of (c.def_ 14 (d := dOf "open_pages" sOpens) rfl) (hg "open_pages" (by decide +kernel)) fun _ _ _ _ _ _ us hl => match us, hl with | [_, _], _ => rfl
  have DSettled : Df K mg "settled_pages" sSettled ["size", "words"] := df_of (c.def_ 15 (d := dOf "settled_pages" sSettled) rfl) (hg "settled_pages" (by decide +kernel)) fun _ _ _ _ _ _ us hl => match us, hl with | [_, _], _ => rfl
  have DSo : Df K mg "is_so" sSo ["order", "told"] := df_of (c.def_ 16 (d := dOf "is_so" sSo) rfl) (hg "is_so" (by decide +kernel)) fun _ _ _ _ _ _ us hl => match us, hl with | [_, _], _ => rfl
  have DFits : Df K mg "order_fits" sFits ["size", "words", "thing"] := df_of (c.def_ 17 (d := dOf "order_fits" sFits) rfl) (hg "order_fits" (by decide +kernel)) fun _ _ _ _ _ _ us hl => match us, hl with | [_, _, _], _ => rfl
  have DLots : Df K mg "lots_of" sLots ["many"] := df_of (c.def_ 18 (d := dOf "lots_of" sLots) rfl) (hg "lots_of" (by decide +kernel)) fun _ _ _ _ _ _ us hl => match us, hl with | [_], _ => rfl
  have DSome : Df K mg "fits_some" sSome ["size", "words", "places"] := df_of (c.def_ 19 (d := dOf "fits_some" sSome) rfl) (hg "fits_some" (by decide +kernel)) fun _ _ _ _ _ _ us hl => match us, hl with | [_, _, _], _ => rfl
  have DClash : Df K mg "first_clash" sClash ["size", "words"] := df_of (c.def_ 20 (d := dOf "first_clash" sClash) rfl) (hg "first_clash" (by decide +kernel)) fun _ _ _ _ _ _ us hl => match us, hl with | [_, _], _ => rfl
  have DHolds : Df K mg "clash_holds" sHolds ["size", "words", "thing"] := df_of (c.def_ 21 (d := dOf "clash_holds" sHolds) rfl) (hg "clash_holds" (by decide +kernel)) fun _ _ _ _ _ _ us hl => match us, hl with | [_, _, _], _ => rfl
  have DPen : Df K mg "_law_pen" sPen ["_law_cell"] := df_of (c.def_ 22 (d := dOf "_law_pen" sPen) rfl) (hg "_law_pen" (by decide +kernel)) fun _ _ _ _ _ _ us hl => match us, hl with | [_], _ => rfl
  have DCellAt : Df K mg "_law_cell_at" sCellAt ["_law_script", "_law_k"] := df_of (c.def_ 23 (d := dOf "_law_cell_at" sCellAt) rfl) (hg "_law_cell_at" (by decide +kernel)) fun _ _ _ _ _ _ us hl => match us, hl with | [_, _], _ => rfl
  have DDraw : Df K mg "_law_draw" sDraw ["_law_pen_here", "_law_bound"] := df_of (c.def_ 24 (d := dOf "_law_draw" sDraw) rfl) (hg "_law_draw" (by decide +kernel)) fun _ _ _ _ _ _ us hl => match us, hl with | [_, _], _ => rfl
  have DMixed : Df K mg "_law_mixed" sMixed ["_law_pen_here", "_law_some"] := df_of (c.def_ 25 (d := dOf "_law_mixed" sMixed) rfl) (hg "_law_mixed" (by decide +kernel)) fun _ _ _ _ _ _ us hl => match us, hl with | [_, _], _ => rfl
  have DTrue : Df K mg "_law_true" sTrue ["_law_pen_here", "_law_order"] := df_of (c.def_ 26 (d := dOf "_law_true" sTrue) rfl) (hg "_law_true" (by decide +kernel)) fun _ _ _ _ _ _ us hl => match us, hl with | [_, _], _ => rfl
  have DLTold : Df K mg "_law_told" sLTold ["_law_pen_here", "_law_size"] := df_of (c.def_ 27 (d := dOf "_law_told" sLTold) rfl) (hg "_law_told" (by decide +kernel)) fun _ _ _ _ _ _ us hl => match us, hl with | [_, _], _ => rfl
  have DWords : Df K mg "_law_words" sWords ["_law_pen_here", "_law_size"] := df_of (c.def_ 28 (d := dOf "_law_words" sWords) rfl) (hg "_law_words" (by decide +kernel)) fun _ _ _ _ _ _ us hl => match us, hl with | [_, _], _ => rfl
  have DShown : Df K mg "_law_shown" sShown ["_law_size", "_law_words_here"] := df_of (c.def_ 29 (d := dOf "_law_shown" sShown) rfl) (hg "_law_shown" (by decide +kernel)) fun _ _ _ _ _ _ us hl => match us, hl with | [_, _], _ => rfl
  have DRight : Df K mg "_law_clash_right" sRight ["_law_size", "_law_words_here"] := df_of (c.def_ 30 (d := dOf "_law_clash_right" sRight) rfl) (hg "_law_clash_right" (by decide +kernel)) fun _ _ _ _ _ _ us hl => match us, hl with | [_, _], _ => rfl
  have DNamed : Df K mg "_law_named" sNamed ["_law_words_here", "_law_names"] := df_of (c.def_ 31 (d := dOf "_law_named" sNamed) rfl) (hg "_law_named" (by decide +kernel)) fun _ _ _ _ _ _ us hl => match us, hl with | [_, _], _ => rfl
  obtain ⟨fd, F⟩ := c.def_ 32 (d := dOf "law" sLaw) rfl
  have e := hfa.symm.trans (hg "law" (by decide +kernel))
  cases e
  have b := FunD.bindsA (ps := ["_law_script"]) F fun _ _ _ _ _ _ us hl => match us, hl with | [_], _ => rfl
  refine ⟨fd, fun s v => b s [v] rfl, fun base _ _ => ?_⟩
  have GWhole := c_whole (P := P) (w := w) (base := base) T DWhole
  have GFrom := c_from (P := P) (w := w) (base := base) T DFrom GWhole
  have GHas := c_has (P := P) (w := w) (base := base) T DHas
  have GCount := c_count (P := P) (w := w) (base := base) T DCount GHas
  have GLet := c_let (P := P) (w := w) (base := base) T DLet GCount GHas
  have GNext := c_next (P := P) (w := w) (base := base) T DNext GHas GLet
  have GWays := c_ways (P := P) (w := w) (base := base) T DWays GNext
  have GFit := c_fit (P := P) (w := w) (base := base) T DFit GWays
  have GTold := c_told (P := P) (w := w) (base := base) T DTold GFrom
  have GNeed := c_need (P := P) (w := w) (base := base) T DNeed GFrom GTold
  have GMany := c_many (P := P) (w := w) (base := base) T DMany GNeed GFit
  have GFirst := c_first (P := P) (w := w) (base := base) T DFirst GNeed GWays GNext
  have GFirst2 := first2 GFirst
  have GOpenIn := c_openIn (P := P) (w := w) (base := base) T DOpenIn GWays GNext
  have GOpens := c_opens (P := P) (w := w) (base := base) T DOpens GNeed GOpenIn
  have GSettled := c_settled (P := P) (w := w) (base := base) T DSettled GNeed GOpenIn
  have GSo := c_so (P := P) (w := w) (base := base) T DSo
  have GFits := c_fits (P := P) (w := w) (base := base) T DFits GNeed GFrom GSo
  have GLots := c_lots (P := P) (w := w) (base := base) T DLots
  have GSome := c_some (P := P) (w := w) (base := base) T DSome GFit
  have GClash := c_clash (P := P) (w := w) (base := base) T DClash GNeed GFit GLots GSome
  have GClash2 := clash2 GClash
  have GRises := c_rises (P := P) (w := w) (base := base) T DRises
  have GHolds := c_holds (P := P) (w := w) (base := base) T DHolds GNeed GFrom GRises GSome
  have GPen := c_pen (P := P) (w := w) (base := base) T DPen
  have GCellAt := c_cellAt (P := P) (w := w) (base := base) T DCellAt
  have GDraw := c_draw (P := P) (w := w) (base := base) T DDraw
  have GMixed := c_mixed (P := P) (w := w) (base := base) T DMixed GDraw
  have GTrue := c_true (P := P) (w := w) (base := base) T DTrue GDraw
  have GLTold := c_ltold (P := P) (w := w) (base := base) T DLTold GDraw
  have GWords := c_words (P := P) (w := w) (base := base) T DWords GDraw GMixed GTrue GLTold
  have GShown := c_shown (P := P) (w := w) (base := base) T DShown GMany GFirst2 GOpens GClash2 GSettled GFits
  have GRight := c_right (P := P) (w := w) (base := base) T DRight GClash GHolds GMany
  have GNamed := c_named (P := P) (w := w) (base := base) T DNamed
  exact ok_law T (fun_of F) GPen GCellAt GDraw GWords GShown GRight GMany GOpens GLTold GMixed GFirst2 GNamed GSettled
end LB
open PySem PySem.W PySem.Calls PyProof.Rows
theorem PySem.Challenge.cw_deedsheaf_k65_whole_what_copies_settle_holds : PySem.Challenge.rw_deedsheaf_k65_whole_what_copies_settle.Holds := by
  w_on; o_law
  refine HandSHeadRun.head_any (r := OpenLaw.row PySem.Challenge.rw_deedsheaf_k65_whole_what_copies_settle) (q := view (OpenLaw.row PySem.Challenge.rw_deedsheaf_k65_whole_what_copies_settle).prog [42]) (H := LB.lawHook) (ob := LB.lawOb) (M := 4000) (loose := LB.looseNs) (d := HandSHeadRun.topDef (OpenLaw.row PySem.Challenge.rw_deedsheaf_k65_whole_what_copies_settle).prog 42) (kwd := []) LB.lawOb_eq
    (by kernel_rfl) (fun s => by kernel_rfl) LB.lawRun (by kernel_rfl) (by kernel_rfl) (by kernel_rfl) (by rfl) (by first | assumption | decide +kernel) (by decide +kernel) ⟨rfl, rfl, rfl, rfl, rfl, by decide +kernel⟩ ?hw ?hc
  case hw => w_witness2
  case hc =>
    refine L2.walk_ofE (l := PySem.Challenge.rw_deedsheaf_k65_whole_what_copies_settle) (n := 63) (k := 10) (x := "_law_script") (CX := L2.CX0) rfl (by decide) (by kernel_rfl) ⟨rfl, by decide, by decide⟩ ?F (fun _ _ _ _ z => z)
    intro w mg fa h Y G hmg0
    obtain ⟨K, KX, c⟩ := Y
    have hmg : mg ("law" : PySem.Str) = some (.ref fa) := by
      have e : (HandSHeadRun.topDef (OpenLaw.row PySem.Challenge.rw_deedsheaf_k65_whole_what_copies_settle).prog 42).name = ("law" : PySem.Str) := by kernel_rfl
      rw [← e]
      exact hmg0
    obtain ⟨fd, hb, hF⟩ := LB.lawFacts (P := (PySem.Challenge.rw_deedsheaf_k65_whole_what_copies_settle).prog) (w := w) KX G hmg c
    exact ⟨K, fd, LB.spLaw K, KX, hb, fun H a ns hl _ hS => ⟨a, ns, rfl, hS, fun _ => rfl⟩, hF⟩
