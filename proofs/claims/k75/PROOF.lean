import PyProof.Rows.All
import Wide.All
import OpenK.AllK
import Wide.FinOn
import HandS.Codes
import HandS.IsInst
import HandS.HotCalls
import HandS.Iter
import HandS.ForMost
import HandS.More
import HandS.TupAny
import HandS.ExcField
import HandS.ExcIs
import HandS.ExcCtx
import HandS.Zip
import HandS.Small
import HandS.Wide
import HandS.Flow
import HandS.EndBits
import HandS.RaiseMore
import KE.GoesNew
import KE.GoesMore
import KE.KDictLaws
import HandS.TryOnly
import HandS.WordsDict
import HandS.ExcInitHot
import PySem.Challenge.RW_anycorner_k75_names_and_store_deeds
set_option Elab.async false
set_option maxRecDepth 100000
set_option linter.all false
/-! k75: the plain part: which values are store deeds, how a line is read -/
namespace K75
open PySem SX

abbrev D := PyData
abbrev tl (x : Str) : List Nat := x.cps.toList
/-! ### judges -/
def alB (c : Nat) : Bool := (decide (97 ≤ c) && decide (c ≤ 122)) || (decide (48 ≤ c) && decide (c ≤ 57))
def figB (c : Nat) : Bool := decide (48 ≤ c) && decide (c ≤ 57)
def sg (m : Nat) (l : List Nat) : Bool := decide (1 ≤ l.length) && decide (l.length ≤ m) && l.all alB
def okS (m : Nat) : D → Bool
  | .str x => sg m (tl x)
  | _ => false
def okI (lo hi : Int) : D → Bool
  | .int i => decide (lo ≤ i) && decide (i ≤ hi)
  | _ => false
def okN (w : Nat) : D → Bool
  | .tuple ds => decide (ds.length = w) && ds.all (okI (-1000000000) 1000000000)
  | _ => false
def srcL : List Nat → Bool
  | a :: 46 :: r => (a == 116 || a == 115) && sg 6 r
  | _ => false
def okSrc : D → Bool
  | .str x => srcL (tl x)
  | _ => false
def okSgn : D → Bool
  | .int i => decide (i = 1) || decide (i = -1)
  | _ => false
def okBd : D → Bool
  | .none => true
  | d => okS 12 d
inductive Kd | name | row | width | most | nums | place | step | src | sgn | bound
  deriving DecidableEq
def okK : Kd → D → Bool
  | .name => okS 6
  | .row => okS 12
  | .width => okI 1 2
  | .most => okI 0 400
  | .nums => fun d => okN 1 d || okN 2 d
  | .place => okI 0 1
  | .step => okI (-2000000000) 2000000000
  | .src => okSrc
  | .sgn => okSgn
  | .bound => okBd
/-! ### the words -/
def words12 : List (Str × List Kd) := [
  ("make", [.name, .width, .most]), ("end", [.name]), ("call", [.name, .name]), ("snap", [.name, .name]), ("clone", [.name, .name]),
  ("fade", [.name]), ("put", [.name, .row, .nums]), ("drop", [.name, .row]), ("rename", [.name, .row, .row]),
  ("shift", [.name, .row, .place, .step]), ("post", [.name, .row, .place, .src, .row, .place, .sgn]), ("clear", [.name, .bound, .bound])]
def kds (w : Str) : Option (List Kd) := words12.lookup w
def badAux : List Kd → List D → Int → Int
  | k :: ks, d :: ds, i => if okK k d = true then badAux ks ds (i + 1) else i
  | _, _, _ => -1
/-- both ends are names and do not rise -/
def flat2 (ps : List D) : Bool := match ps with
  | [_, .str a, .str b] => !decide (tl a < tl b)
  | _ => false
def badPs (w : Str) (ps : List D) : Int := match kds w with
  | none => 0
  | some ks => if ps.length = ks.length then (if 0 ≤ badAux ks ps 1 then badAux ks ps 1 else if w = "clear" ∧ flat2 ps = true then 3 else -1) else 0
def firstBad : D → Int
  | .tuple (.str w :: ps) => badPs w ps
  | _ => 0
/-! ### what is written -/
def intL (i : Int) : List Nat := if i < 0 then 45 :: TL.numL i.natAbs else TL.numL i.natAbs
def numD : D → List Nat
  | .int i => intL i
  | _ => []
def itx : D → List Nat
  | .none => [45]
  | .tuple ds => TL.joinL [44] (ds.map numD)
  | .str x => tl x
  | .int i => intL i
  | _ => []
/-! ### what is read -/
def figs (l : List Nat) : Bool := l.all figB && !l.isEmpty
def readCount (l : List Nat) (most : Int) : Option Int :=
  if (figs l = false) ∨ 13 < l.length then none
  else if 1 < l.length ∧ l.head? = some 48 then none
  else if (NumText.digitsVal l : Int) ≤ most then some (NumText.digitsVal l) else none
def BIG : Int := 1000000000000
def readNum (l : List Nat) : Option Int := match l with
  | 45 :: r => match readCount r BIG with
    | none => none
    | some c => if c = 0 then none else some (-c)
  | l => readCount l BIG
def optD : Option Int → D
  | none => .none
  | some i => .int i
def readVal (l : List Nat) : D :=
  if ((TL.spl [44] 0 [] l).map readNum).any (·.isNone) = true ∨ 4 < (TL.spl [44] 0 [] l).length then .none else .tuple ((TL.spl [44] 0 [] l).map fun z => optD (readNum z))
def readItem (k : Nat) (l : List Nat) : D :=
  if k = 110 then optD (readNum l) else if k = 118 then readVal l else if k = 111 ∧ l = [45] then .none else .str (S l)
def lt : Kd → Nat
  | .name | .row | .src => 119
  | .width | .most | .place | .step | .sgn => 110
  | .nums => 118
  | .bound => 111
def readAll (ks : List Kd) (ws : List (List Nat)) : List D := List.zipWith (fun k l => readItem (lt k) l) ks ws
def readWords : List (List Nat) → Option D
  | [] => none
  | h :: t => match kds (S h) with
    | none => none
    | some ks => if t.length = ks.length then (if badPs (S h) (readAll ks t) < 0 then some (.tuple (.str (S h) :: readAll ks t)) else none) else none

/-! ### numbers -/
theorem numL_head : ∀ n : Nat, 1 ≤ n → (TL.numL n).head? ≠ some 48 := by
  intro n
  induction n using Nat.strongRecOn with
  | _ n ih =>
    intro h1
    by_cases h : n < 10
    · rw [TL.numL_lt h]
      intro e
      have e2 : 48 + n = 48 := Option.some.inj e
      omega
    · rw [TL.numL_step (by omega)]
      have hd := ih (n / 10) (by omega) (by omega)
      intro e
      apply hd
      cases hq : TL.numL (n / 10) with
      | nil => exact absurd hq (TL.numL_ne _)
      | cons a r =>
        rw [hq] at e
        exact e
theorem figs_num (n : Nat) : figs (TL.numL n) = true := by
  unfold figs
  rw [Bool.and_eq_true]
  refine ⟨List.all_eq_true.mpr fun c hc => ?_, ?_⟩
  · have := TL.numL_digits n c hc
    unfold figB
    rw [Bool.and_eq_true, decide_eq_true_eq, decide_eq_true_eq]
    exact this
  · cases hq : TL.numL n with
    | nil => exact absurd hq (TL.numL_ne _)
    | cons a r => rfl
theorem count_num {n : Nat} (h : n ≤ 1000000000000) : readCount (TL.numL n) BIG = some (n : Int) := by
  have hl : (TL.numL n).length ≤ 13 := TL.numL_len (by decide) (by omega)
  unfold readCount
  rw [if_neg (by rw [figs_num]; simp; omega)]
  rw [if_neg ?_, if_pos (by rw [TL.numL_val]; unfold BIG; omega), TL.numL_val]
  rintro ⟨a, b⟩
  by_cases h0 : n = 0
  · subst h0
    rw [TL.numL_lt (by decide)] at a
    simp at a
  · exact numL_head n (by omega) b
theorem num_notneg {n : Nat} : ∀ r, TL.numL n ≠ 45 :: r := by
  intro r e
  have := TL.numL_digits n 45 (by rw [e]; exact List.mem_cons_self ..)
  omega
theorem readNum_pos {l : List Nat} (h : l.head? ≠ some 45) : readNum l = readCount l BIG := by
  unfold readNum
  split
  · exact absurd rfl h
  · rfl
theorem read_int {i : Int} (h1 : -1000000000000 ≤ i) (h2 : i ≤ 1000000000000) : readNum (intL i) = some i := by
  unfold intL
  by_cases h : i < 0
  · rw [if_pos h]
    show (match readCount (TL.numL i.natAbs) BIG with | none => none | some c => if c = 0 then none else some (-c)) = some i
    rw [count_num (by omega)]
    show (if ((i.natAbs : Nat) : Int) = 0 then none else some (-((i.natAbs : Nat) : Int))) = some i
    rw [if_neg (by omega)]
    exact congrArg some (by omega)
  · rw [if_neg h, readNum_pos, count_num (by omega)]
    · exact congrArg some (by omega)
    · cases hq : TL.numL i.natAbs with
      | nil => exact absurd hq (TL.numL_ne _)
      | cons a r =>
        intro e
        have e2 : a = 45 := Option.some.inj e
        subst e2
        exact num_notneg r hq
theorem intL_free {c : Nat} (h : c < 45 ∨ (45 < c ∧ c < 48) ∨ 57 < c) (i : Int) : c ∉ intL i := by
  unfold intL
  intro hm
  have hn : c ∉ TL.numL i.natAbs := TL.numL_free (by omega)
  by_cases hi : i < 0
  · rw [if_pos hi] at hm
    rcases List.mem_cons.mp hm with e | e
    · omega
    · exact hn e
  · rw [if_neg hi] at hm
    exact hn hm
theorem intL_ne (i : Int) : intL i ≠ [] := by
  unfold intL
  split
  · simp
  · exact TL.numL_ne _
/-- no figures at the head: no count -/
theorem count_bad {c : Nat} {l : List Nat} {m : Int} (h : figB c = false) : readCount (c :: l) m = none := by
  unfold readCount figs
  rw [List.all_cons, h]
  rfl
theorem count_bad2 {c d : Nat} {l : List Nat} {m : Int} (h : figB d = false) : readCount (c :: d :: l) m = none := by
  unfold readCount figs
  rw [List.all_cons, List.all_cons, h]
  simp
theorem count_zero {l : List Nat} {m : Int} (h : l ≠ []) : readCount (48 :: l) m = none := by
  unfold readCount
  split
  · rfl
  · rw [if_pos ⟨by cases l with | nil => exact absurd rfl h | cons a r => simp, rfl⟩]
/-- a sign or a zero ahead of a number -/
def odd3 : List (List Nat) := [[43], [48], [45, 45]]
theorem read_odd {s : List Nat} (hs : s ∈ odd3) (i : Int) : readNum (s ++ intL i) = none := by
  have hz : ∃ a r, intL i = a :: r ∧ (a = 45 ∨ figB a = true) := by
    unfold intL
    by_cases h : i < 0
    · rw [if_pos h]
      exact ⟨45, _, rfl, .inl rfl⟩
    · rw [if_neg h]
      cases hq : TL.numL i.natAbs with
      | nil => exact absurd hq (TL.numL_ne _)
      | cons a r =>
        refine ⟨a, r, rfl, .inr ?_⟩
        have := TL.numL_digits i.natAbs a (by rw [hq]; exact List.mem_cons_self ..)
        unfold figB
        rw [Bool.and_eq_true, decide_eq_true_eq, decide_eq_true_eq]
        exact this
  obtain ⟨a, r, e, _⟩ := hz
  have : s = [43] ∨ s = [48] ∨ s = [45, 45] := by
    simpa [odd3] using hs
  rcases this with rfl | rfl | rfl
  · rw [readNum_pos (by simp)]
    exact count_bad (by decide)
  · rw [readNum_pos (by simp)]
    exact count_zero (intL_ne i)
  · show (match readCount (45 :: intL i) BIG with | none => none | some c => if c = 0 then none else some (-c)) = none
    rw [count_bad (by decide)]
theorem read_A {l : List Nat} : readNum (65 :: l) = none := by
  rw [readNum_pos (by simp)]
  exact count_bad (by decide)

/-! ### values -/
theorem okI_int {lo hi : Int} {d : D} (h : okI lo hi d = true) : ∃ i, d = .int i ∧ lo ≤ i ∧ i ≤ hi := by
  cases d with
  | int i =>
    have h' : (decide (lo ≤ i) && decide (i ≤ hi)) = true := h
    rw [Bool.and_eq_true, decide_eq_true_eq, decide_eq_true_eq] at h'
    exact ⟨i, rfl, h'.1, h'.2⟩
  | _ => exact absurd h Bool.false_ne_true
theorem okN_ints {w : Nat} {d : D} (h : okN w d = true) : ∃ ns : List Int, d = .tuple (ns.map .int) ∧ ns.length = w ∧ ∀ n ∈ ns, -1000000000 ≤ n ∧ n ≤ 1000000000 := by
  cases d with
  | tuple ds =>
    have h' : (decide (ds.length = w) && ds.all (okI (-1000000000) 1000000000)) = true := h
    rw [Bool.and_eq_true, decide_eq_true_eq] at h'
    obtain ⟨h1, h2⟩ := h'
    have : ∀ ds : List D, ds.all (okI (-1000000000) 1000000000) = true → ∃ ns : List Int, ds = ns.map .int ∧ ∀ n ∈ ns, -1000000000 ≤ n ∧ n ≤ 1000000000 := by
      intro ds
      induction ds with
      | nil => exact fun _ => ⟨[], rfl, fun _ h => nomatch h⟩
      | cons d r ih =>
        intro h
        rw [List.all_cons, Bool.and_eq_true] at h
        obtain ⟨i, rfl, a, b⟩ := okI_int h.1
        obtain ⟨ns, rfl, k⟩ := ih h.2
        refine ⟨i :: ns, rfl, fun n hn => ?_⟩
        rcases List.mem_cons.mp hn with e | e
        · subst e
          exact ⟨a, b⟩
        · exact k n e
    obtain ⟨ns, rfl, k⟩ := this ds h2
    exact ⟨ns, rfl, by rw [← h1, List.length_map], k⟩
  | _ => exact absurd h Bool.false_ne_true
theorem nums_ints {d : D} (h : okK .nums d = true) : ∃ ns : List Int, d = .tuple (ns.map .int) ∧ (ns.length = 1 ∨ ns.length = 2) ∧ ∀ n ∈ ns, -1000000000 ≤ n ∧ n ≤ 1000000000 := by
  have h' : (okN 1 d || okN 2 d) = true := h
  rw [Bool.or_eq_true] at h'
  rcases h' with h | h
  · obtain ⟨ns, e, l, k⟩ := okN_ints h
    exact ⟨ns, e, .inl l, k⟩
  · obtain ⟨ns, e, l, k⟩ := okN_ints h
    exact ⟨ns, e, .inr l, k⟩
theorem itx_nums (ns : List Int) : itx (.tuple (ns.map .int)) = TL.joinL [44] (ns.map intL) := by
  show TL.joinL [44] ((ns.map PyData.int).map numD) = _
  rw [List.map_map]
  rfl
theorem spl_nums {ps : List (List Nat)} (h : ps ≠ []) (hf : ∀ p ∈ ps, 44 ∉ p) : TL.spl [44] 0 [] (TL.joinL [44] ps) = ps := TL.spl_join h hf
theorem readVal_nums {ns : List Int} (h0 : ns ≠ []) (hl : ns.length ≤ 4) (h : ∀ n ∈ ns, -1000000000 ≤ n ∧ n ≤ 1000000000) : readVal (TL.joinL [44] (ns.map intL)) = .tuple (ns.map .int) := by
  have e := spl_nums (ps := ns.map intL) (by simpa using h0) (by
    intro p hp
    obtain ⟨n, _, rfl⟩ := List.mem_map.mp hp
    exact intL_free (by decide) n)
  unfold readVal
  rw [e, if_neg]
  · rw [List.map_map]
    refine congrArg PyData.tuple (List.map_congr_left fun n hn => ?_)
    show optD (readNum (intL n)) = .int n
    rw [read_int (by have := h n hn; omega) (by have := h n hn; omega)]
    rfl
  · rw [List.length_map]
    rintro (a | a)
    · obtain ⟨z, hz, q⟩ := List.any_eq_true.mp a
      obtain ⟨p, hp, rfl⟩ := List.mem_map.mp hz
      obtain ⟨n, hn, rfl⟩ := List.mem_map.mp hp
      rw [read_int (by have := h n hn; omega) (by have := h n hn; omega)] at q
      exact absurd q Bool.false_ne_true
    · omega
theorem readVal_bad {p : List Nat} {ps : List (List Nat)} (hf : ∀ q ∈ p :: ps, 44 ∉ q) (h : readNum p = none) : readVal (TL.joinL [44] (p :: ps)) = .none := by
  unfold readVal
  rw [spl_nums (by simp) hf, if_pos]
  left
  rw [List.map_cons, List.any_cons, h]
  rfl
theorem joinL_head (s : List Nat) (p : List Nat) (ps : List (List Nat)) : s ++ TL.joinL [44] (p :: ps) = TL.joinL [44] ((s ++ p) :: ps) := by
  cases ps with
  | nil => rfl
  | cons q r => exact (List.append_assoc ..).symm
end K75
/-! k75: lines of store deeds, read back; lines near them, refused -/
namespace K75
open PySem SX

theorem alB_ne {c : Nat} (h : alB c = true) : c ≠ 32 ∧ c ≠ 46 ∧ c ≠ 45 ∧ c ≠ 65 ∧ c ≠ 44 := by
  unfold alB at h
  rw [Bool.or_eq_true, Bool.and_eq_true, Bool.and_eq_true, decide_eq_true_eq, decide_eq_true_eq, decide_eq_true_eq, decide_eq_true_eq] at h
  omega
theorem sg_free {m : Nat} {l : List Nat} (h : sg m l = true) : 32 ∉ l ∧ 45 ∉ l ∧ 65 ∉ l := by
  unfold sg at h
  rw [Bool.and_eq_true] at h
  have k := List.all_eq_true.mp h.2
  exact ⟨fun q => (alB_ne (k _ q)).1 rfl, fun q => (alB_ne (k _ q)).2.2.1 rfl, fun q => (alB_ne (k _ q)).2.2.2.1 rfl⟩
theorem srcL_cases {l : List Nat} (h : srcL l = true) : ∃ a r, l = a :: 46 :: r ∧ (a = 116 ∨ a = 115) ∧ sg 6 r = true := by
  unfold srcL at h
  split at h
  · rename_i a r
    rw [Bool.and_eq_true, Bool.or_eq_true, beq_iff_eq, beq_iff_eq] at h
    exact ⟨a, r, rfl, h.1, h.2⟩
  · exact absurd h Bool.false_ne_true
theorem srcL_free {l : List Nat} (h : srcL l = true) : 32 ∉ l := by
  obtain ⟨a, r, rfl, ha, hr⟩ := srcL_cases h
  intro q
  rcases List.mem_cons.mp q with e | q
  · omega
  · rcases List.mem_cons.mp q with e | q
    · omega
    · exact (sg_free hr).1 q
theorem okS_str {m : Nat} {d : D} (h : okS m d = true) : ∃ x, d = .str x ∧ sg m (tl x) = true := by
  cases d with
  | str x => exact ⟨x, rfl, h⟩
  | _ => exact absurd h Bool.false_ne_true
theorem okSrc_str {d : D} (h : okSrc d = true) : ∃ x, d = .str x ∧ srcL (tl x) = true := by
  cases d with
  | str x => exact ⟨x, rfl, h⟩
  | _ => exact absurd h Bool.false_ne_true
theorem okSgn_int {d : D} (h : okSgn d = true) : d = .int 1 ∨ d = .int (-1) := by
  cases d with
  | int i =>
    have h' : (decide (i = 1) || decide (i = -1)) = true := h
    rw [Bool.or_eq_true, decide_eq_true_eq, decide_eq_true_eq] at h'
    rcases h' with rfl | rfl
    · exact .inl rfl
    · exact .inr rfl
  | _ => exact absurd h Bool.false_ne_true
theorem okBd_cases {d : D} (h : okBd d = true) : d = .none ∨ ∃ x, d = .str x ∧ sg 12 (tl x) = true := by
  cases d with
  | none => exact .inl rfl
  | str x => exact .inr ⟨x, rfl, h⟩
  | _ => exact absurd h Bool.false_ne_true
/-- a whole number of a kind that is written as a number -/
theorem okK_int {k : Kd} {d : D} (hk : lt k = 110) (h : okK k d = true) : ∃ i, d = .int i ∧ -2000000000 ≤ i ∧ i ≤ 2000000000 := by
  cases k with
  | name => exact absurd hk (by decide)
  | row => exact absurd hk (by decide)
  | src => exact absurd hk (by decide)
  | nums => exact absurd hk (by decide)
  | bound => exact absurd hk (by decide)
  | width => obtain ⟨i, rfl, a, b⟩ := okI_int h; exact ⟨i, rfl, by omega, by omega⟩
  | most => obtain ⟨i, rfl, a, b⟩ := okI_int h; exact ⟨i, rfl, by omega, by omega⟩
  | place => obtain ⟨i, rfl, a, b⟩ := okI_int h; exact ⟨i, rfl, by omega, by omega⟩
  | step => obtain ⟨i, rfl, a, b⟩ := okI_int h; exact ⟨i, rfl, by omega, by omega⟩
  | sgn =>
    rcases okSgn_int h with rfl | rfl
    · exact ⟨1, rfl, by decide, by decide⟩
    · exact ⟨-1, rfl, by decide, by decide⟩
theorem okK_none {k : Kd} (hk : k ≠ .bound) : okK k .none = false := by
  cases k <;> first | rfl | exact absurd rfl hk
theorem joinL_free {c : Nat} (hc : c ≠ 44) : ∀ {ps : List (List Nat)}, (∀ p ∈ ps, c ∉ p) → c ∉ TL.joinL [44] ps
  | [], _ => by intro h; cases h
  | [p], h => h p (List.mem_cons_self ..)
  | p :: q :: r, h => by
    show c ∉ p ++ ([44] ++ TL.joinL [44] (q :: r))
    intro hm
    rcases List.mem_append.mp hm with a | a
    · exact h p (List.mem_cons_self ..) a
    · rcases List.mem_append.mp a with b | b
      · exact hc (List.mem_singleton.mp b)
      · exact joinL_free hc (fun p hp => h p (List.mem_cons_of_mem _ hp)) b
/-- no blank in a part's text -/
theorem itx_free {k : Kd} {d : D} (h : okK k d = true) : 32 ∉ itx d := by
  cases k with
  | name => obtain ⟨x, rfl, s⟩ := okS_str h; exact (sg_free s).1
  | row => obtain ⟨x, rfl, s⟩ := okS_str h; exact (sg_free s).1
  | src => obtain ⟨x, rfl, s⟩ := okSrc_str h; exact srcL_free s
  | width => obtain ⟨i, rfl, _⟩ := okK_int rfl h; exact intL_free (by decide) i
  | most => obtain ⟨i, rfl, _⟩ := okK_int rfl h; exact intL_free (by decide) i
  | place => obtain ⟨i, rfl, _⟩ := okK_int rfl h; exact intL_free (by decide) i
  | step => obtain ⟨i, rfl, _⟩ := okK_int rfl h; exact intL_free (by decide) i
  | sgn => obtain ⟨i, rfl, _⟩ := okK_int rfl h; exact intL_free (by decide) i
  | nums =>
    obtain ⟨ns, rfl, _⟩ := nums_ints h
    rw [itx_nums]
    refine joinL_free (by decide) fun p hp => ?_
    obtain ⟨n, _, rfl⟩ := List.mem_map.mp hp
    exact intL_free (by decide) n
  | bound =>
    rcases okBd_cases h with rfl | ⟨x, rfl, s⟩
    · intro hm
      have hm' : 32 ∈ [45] := hm
      simp at hm'
    · exact (sg_free s).1
theorem readItem_w (l : List Nat) : readItem 119 l = .str (S l) := by
  unfold readItem
  rw [if_neg (by decide), if_neg (by decide), if_neg (by rintro ⟨a, _⟩; exact absurd a (by decide))]
theorem readItem_n (l : List Nat) : readItem 110 l = optD (readNum l) := by
  unfold readItem
  rw [if_pos rfl]
theorem readItem_v (l : List Nat) : readItem 118 l = readVal l := by
  unfold readItem
  rw [if_neg (by decide), if_pos rfl]
theorem readItem_o (l : List Nat) (h : l ≠ [45]) : readItem 111 l = .str (S l) := by
  unfold readItem
  rw [if_neg (by decide), if_neg (by decide), if_neg (by rintro ⟨_, a⟩; exact h a)]
theorem S_tlk (x : Str) : S (tl x) = x := S_tl x
theorem ne_nil_nums {ns : List Int} (h : ns.length = 1 ∨ ns.length = 2) : ns ≠ [] := by
  rintro rfl
  simp at h
/-- what is written is read -/
theorem read_itx {k : Kd} {d : D} (h : okK k d = true) : readItem (lt k) (itx d) = d := by
  have num : ∀ {k : Kd}, lt k = 110 → okK k d = true → readItem (lt k) (itx d) = d := by
    intro k hk h
    obtain ⟨i, rfl, a, b⟩ := okK_int hk h
    rw [hk, readItem_n]
    show optD (readNum (intL i)) = _
    rw [read_int (by omega) (by omega)]
    rfl
  cases k with
  | name => obtain ⟨x, rfl, s⟩ := okS_str h; exact (readItem_w _).trans (congrArg PyData.str (S_tlk x))
  | row => obtain ⟨x, rfl, s⟩ := okS_str h; exact (readItem_w _).trans (congrArg PyData.str (S_tlk x))
  | src => obtain ⟨x, rfl, s⟩ := okSrc_str h; exact (readItem_w _).trans (congrArg PyData.str (S_tlk x))
  | width => exact num rfl h
  | most => exact num rfl h
  | place => exact num rfl h
  | step => exact num rfl h
  | sgn => exact num rfl h
  | nums =>
    obtain ⟨ns, rfl, hl, k⟩ := nums_ints h
    show readItem 118 _ = _
    rw [readItem_v, itx_nums]
    exact readVal_nums (ne_nil_nums hl) (by omega) k
  | bound =>
    rcases okBd_cases h with rfl | ⟨x, rfl, s⟩
    · rfl
    · refine (readItem_o _ ?_).trans (congrArg PyData.str (S_tlk x))
      intro e
      have e' : tl x = [45] := e
      exact (sg_free s).2.1 (by rw [e']; exact List.mem_cons_self ..)
theorem tl_S (l : List Nat) : tl (S l) = l := rfl
theorem sg_A {m : Nat} {l : List Nat} : sg m (65 :: l) = false := by
  unfold sg
  rw [List.all_cons]
  have : alB 65 = false := by decide
  rw [this]
  simp
theorem srcL_A {l : List Nat} : srcL (65 :: l) = false := by
  unfold srcL
  split
  · rename_i a r e
    have e2 : a = 65 := (List.cons.inj e).1.symm
    subst e2
    rfl
  · rfl
theorem okK_str_A {k : Kd} {l : List Nat} : okK k (.str (S (65 :: l))) = false := by
  cases k with
  | name => exact sg_A
  | row => exact sg_A
  | src => exact srcL_A
  | bound => exact sg_A
  | _ => rfl
/-- an A ahead of a part's text -/
theorem near_A {k : Kd} {d : D} (h : okK k d = true) : okK k (readItem (lt k) (65 :: itx d)) = false := by
  have num : ∀ {k : Kd}, lt k = 110 → okK k (readItem (lt k) (65 :: itx d)) = false := by
    intro k hk
    rw [hk, readItem_n, read_A]
    exact okK_none (by rintro rfl; exact absurd hk (by decide))
  cases k with
  | name => show okK .name (readItem 119 _) = false; rw [readItem_w]; exact okK_str_A
  | row => show okK .row (readItem 119 _) = false; rw [readItem_w]; exact okK_str_A
  | src => show okK .src (readItem 119 _) = false; rw [readItem_w]; exact okK_str_A
  | bound => show okK .bound (readItem 111 _) = false; rw [readItem_o _ (by intro e; cases e)]; exact okK_str_A
  | width => exact num rfl
  | most => exact num rfl
  | place => exact num rfl
  | step => exact num rfl
  | sgn => exact num rfl
  | nums =>
    obtain ⟨ns, rfl, hl, _⟩ := nums_ints h
    show okK .nums (readItem 118 _) = false
    rw [readItem_v, itx_nums]
    cases ns with
    | nil => simp at hl
    | cons n r =>
      show okK .nums (readVal ([65] ++ TL.joinL [44] (intL n :: r.map intL))) = false
      rw [joinL_head, readVal_bad]
      · rfl
      · intro q hq
        rcases List.mem_cons.mp hq with e | e
        · subst e
          intro hm
          rcases List.mem_cons.mp hm with e | e
          · exact absurd e (by decide)
          · exact intL_free (by decide) n e
        · obtain ⟨m, _, rfl⟩ := List.mem_map.mp e
          exact intL_free (by decide) m
      · exact read_A
/-- a sign or a zero ahead of a number's text -/
theorem near_odd {k : Kd} {d : D} {s : List Nat} (hs : s ∈ odd3) (hk : lt k = 110 ∨ k = .nums) (h : okK k d = true) : okK k (readItem (lt k) (s ++ itx d)) = false := by
  rcases hk with hk | rfl
  · obtain ⟨i, rfl, _⟩ := okK_int hk h
    rw [hk, readItem_n]
    show okK k (optD (readNum (s ++ intL i))) = false
    rw [read_odd hs]
    exact okK_none (by rintro rfl; exact absurd hk (by decide))
  · obtain ⟨ns, rfl, hl, _⟩ := nums_ints h
    show okK .nums (readItem 118 _) = false
    rw [readItem_v, itx_nums]
    have f44 : 44 ∉ s := by
      have : s = [43] ∨ s = [48] ∨ s = [45, 45] := by simpa [odd3] using hs
      rcases this with rfl | rfl | rfl <;> decide
    cases ns with
    | nil => simp at hl
    | cons n r =>
      show okK .nums (readVal (s ++ TL.joinL [44] (intL n :: r.map intL))) = false
      rw [joinL_head, readVal_bad]
      · rfl
      · intro q hq
        rcases List.mem_cons.mp hq with e | e
        · subst e
          intro hm
          rcases List.mem_append.mp hm with e | e
          · exact f44 e
          · exact intL_free (by decide) n e
        · obtain ⟨m, _, rfl⟩ := List.mem_map.mp e
          exact intL_free (by decide) m
      · exact read_odd hs n

/-! ### parts -/
def allOk : List Kd → List D → Bool
  | [], [] => true
  | k :: ks, d :: ds => okK k d && allOk ks ds
  | _, _ => false
theorem badAux_ok : ∀ {ks : List Kd} {ds : List D} (i : Int), ds.length = ks.length → (allOk ks ds = true → badAux ks ds i = -1)
  | [], [], _, _, _ => rfl
  | k :: ks, d :: ds, i, hl, h => by
    have h' : (okK k d && allOk ks ds) = true := h
    rw [Bool.and_eq_true] at h'
    show (if okK k d = true then badAux ks ds (i + 1) else i) = -1
    rw [if_pos h'.1]
    exact badAux_ok (i + 1) (Nat.succ.inj hl) h'.2
theorem badAux_neg : ∀ {ks : List Kd} {ds : List D} (i : Int), 0 ≤ i → ds.length = ks.length → badAux ks ds i < 0 → allOk ks ds = true
  | [], [], _, _, _, _ => rfl
  | k :: ks, d :: ds, i, hi, hl, h => by
    have h' : (if okK k d = true then badAux ks ds (i + 1) else i) < 0 := h
    by_cases hk : okK k d = true
    · rw [if_pos hk] at h'
      show (okK k d && allOk ks ds) = true
      rw [hk, badAux_neg (i + 1) (by omega) (Nat.succ.inj hl) h']
      rfl
    · rw [if_neg hk] at h'
      omega
/-- the first part of another form -/
theorem badAux_at : ∀ {ks : List Kd} {ds : List D} (i : Int) (j : Nat) (k : Kd) (d : D), ks[j]? = some k → ds[j]? = some d → okK k d = false → (∀ m < j, ∀ k d, ks[m]? = some k → ds[m]? = some d → okK k d = true) → badAux ks ds i = i + j
  | [], _, _, j, _, _, h, _, _, _ => by simp at h
  | _ :: _, [], _, j, _, _, _, h, _, _ => by simp at h
  | k :: ks, d :: ds, i, 0, k', d', h1, h2, h3, _ => by
    have e1 : k = k' := Option.some.inj h1
    have e2 : d = d' := Option.some.inj h2
    subst e1 e2
    show (if okK k d = true then badAux ks ds (i + 1) else i) = _
    rw [h3, if_neg Bool.false_ne_true]
    simp
  | k :: ks, d :: ds, i, j + 1, k', d', h1, h2, h3, h4 => by
    show (if okK k d = true then badAux ks ds (i + 1) else i) = _
    rw [if_pos (h4 0 (Nat.succ_pos _) k d rfl rfl), badAux_at (ks := ks) (ds := ds) (i + 1) j k' d' h1 h2 h3 fun m hm k d a b => h4 (m + 1) (Nat.succ_lt_succ hm) k d a b]
    omega
theorem allOk_len : ∀ {ks : List Kd} {ds : List D}, allOk ks ds = true → ds.length = ks.length
  | [], [], _ => rfl
  | k :: ks, d :: ds, h => by
    have h' : (okK k d && allOk ks ds) = true := h
    rw [Bool.and_eq_true] at h'
    exact congrArg Nat.succ (allOk_len h'.2)
theorem allOk_at : ∀ {ks : List Kd} {ds : List D}, allOk ks ds = true → ∀ {m : Nat} {k : Kd} {d : D}, ks[m]? = some k → ds[m]? = some d → okK k d = true
  | [], [], _, m, _, _, h, _ => by simp at h
  | k :: ks, d :: ds, h, 0, k', d', h1, h2 => by
    have h' : (okK k d && allOk ks ds) = true := h
    rw [Bool.and_eq_true] at h'
    have e1 : k = k' := Option.some.inj h1
    have e2 : d = d' := Option.some.inj h2
    subst e1 e2
    exact h'.1
  | k :: ks, d :: ds, h, m + 1, k', d', h1, h2 => by
    have h' : (okK k d && allOk ks ds) = true := h
    rw [Bool.and_eq_true] at h'
    exact allOk_at h'.2 (m := m) h1 h2
/-- a store deed, by its word and parts -/
structure SDeed (w : Str) (ps : List D) (ks : List Kd) : Prop where
  word : kds w = some ks
  parts : allOk ks ps = true
  rise : ¬ (w = "clear" ∧ flat2 ps = true)
theorem SDeed.good {w : Str} {ps : List D} {ks : List Kd} (h : SDeed w ps ks) : badPs w ps = -1 := by
  unfold badPs
  rw [h.word]
  show (if ps.length = ks.length then _ else 0) = _
  have e := badAux_ok 1 (allOk_len h.parts) h.parts
  rw [if_pos (allOk_len h.parts), e, if_neg (by decide), if_neg h.rise]
theorem readAll_itx : ∀ {ks : List Kd} {ps : List D}, allOk ks ps = true → readAll ks (ps.map itx) = ps
  | [], [], _ => rfl
  | k :: ks, d :: ds, h => by
    have h' : (okK k d && allOk ks ds) = true := h
    rw [Bool.and_eq_true] at h'
    show readItem (lt k) (itx d) :: readAll ks (ds.map itx) = d :: ds
    rw [read_itx h'.1, readAll_itx h'.2]
/-- the words of a deed's line -/
def lineWs (w : Str) (ps : List D) : List (List Nat) := tl w :: ps.map itx
theorem readWords_some {h : List Nat} {t : List (List Nat)} {ks : List Kd} (hk : kds (S h) = some ks) :
    readWords (h :: t) = if t.length = ks.length then (if badPs (S h) (readAll ks t) < 0 then some (PyData.tuple (PyData.str (S h) :: readAll ks t)) else none) else none := by
  simp only [readWords, hk]
theorem readWords_none {h : List Nat} {t : List (List Nat)} (hk : kds (S h) = none) : readWords (h :: t) = none := by
  simp only [readWords, hk]
theorem read_line {w : Str} {ps : List D} {ks : List Kd} (h : SDeed w ps ks) : readWords (lineWs w ps) = some (.tuple (.str w :: ps)) := by
  unfold lineWs
  rw [readWords_some (ks := ks) (by rw [S_tlk]; exact h.word), S_tlk]
  rw [List.length_map, if_pos (allOk_len h.parts), readAll_itx h.parts, h.good, if_pos (by decide)]
theorem readAll_len (ks : List Kd) (ws : List (List Nat)) : (readAll ks ws).length = min ks.length ws.length := List.length_zipWith
theorem readAll_get {ks : List Kd} {ws : List (List Nat)} {m : Nat} {k : Kd} {l : List Nat} (h1 : ks[m]? = some k) (h2 : ws[m]? = some l) : (readAll ks ws)[m]? = some (readItem (lt k) l) := by
  unfold readAll
  rw [List.getElem?_zipWith, h1, h2]
/-- one bad part: refused -/
theorem words_bad {h : List Nat} {t : List (List Nat)} {ks : List Kd} (hk : kds (S h) = some ks) (j : Nat) {k : Kd} {l : List Nat} (h1 : ks[j]? = some k) (h2 : t[j]? = some l) (hb : okK k (readItem (lt k) l) = false) : readWords (h :: t) = none := by
  rw [readWords_some hk]
  by_cases hl : t.length = ks.length
  · rw [if_pos hl, if_neg]
    intro hneg
    have hlen : (readAll ks t).length = ks.length := by rw [readAll_len, hl, Nat.min_self]
    unfold badPs at hneg
    rw [hk] at hneg
    have hneg' : (if (readAll ks t).length = ks.length then (if 0 ≤ badAux ks (readAll ks t) 1 then badAux ks (readAll ks t) 1 else if S h = "clear" ∧ flat2 (readAll ks t) = true then 3 else -1) else 0) < 0 := hneg
    rw [if_pos hlen] at hneg'
    by_cases hz : 0 ≤ badAux ks (readAll ks t) 1
    · rw [if_pos hz] at hneg'
      omega
    · have ok := badAux_neg 1 (by decide) hlen (by omega)
      have := allOk_at ok h1 (readAll_get h1 h2)
      rw [hb] at this
      exact Bool.false_ne_true this
  · rw [if_neg hl]
theorem words_len {h : List Nat} {t : List (List Nat)} {ks : List Kd} (hk : kds (S h) = some ks) (hl : t.length ≠ ks.length) : readWords (h :: t) = none := by
  rw [readWords_some hk, if_neg hl]
theorem kds_empty : kds (S []) = none := by decide +kernel
theorem words_empty {t : List (List Nat)} : readWords ([] :: t) = none := readWords_none kds_empty
end K75
set_option maxHeartbeats 2000000
/-! rules that the layer lacks, 1: walks over a text and a tuple while an exception is handled -/
namespace RW7
open PySem PySem.Spec PyProof.Rows HotX
section
variable {prog : Program} {w : World} {A : Around} {E : Value → Shared → Prop} {s : Shared}
/-- StopIteration, made and raised while another exception is handled -/
theorem stop_hot {α : Type} {x1 : Addr} {Q : α → Shared → Prop} (hot : HotAt A x1 s.heap)
    (hE : ∀ (h' : Heap) (e : Addr) (oe : Obj), (∀ b o, s.heap.get? b = some o → h'.get? b = some o) → h'.get? e = some oe → oe.cls = .type "StopIteration" → E (.ref e) { s with heap := h' }) :
    wpAny (model prog w) A (do let e ← newExc (.type "StopIteration") []; raiseNew e : Sem α) Q E s := by
  obtain ⟨hh, o1, vs1, h1, d1, c1⟩ := hot
  refine wpAny_bind ?_
  simp only [newExc, newTuple]
  refine wpAny_bind (wpAny_newObj_type ?_ (by size_fits))
  refine wpAny_bind (m := firstArgMember _ _) (wpAny_of_eq (a := Value.none) (by first | rfl | (simp only [firstArgMember]; rfl)) ?_)
  refine wpAny_newObj_type ?_ (by size_fits)
  refine raiseNew_hot ⟨hh, o1, vs1, Heap.get?_push_of_some _ (Heap.get?_push_of_some _ h1), d1, c1⟩ (Nat.ne_of_lt (Heap.lt_size (Heap.get?_push_of_some _ h1))) (Heap.get?_push_size _ rfl) rfl (by first | (simp; done) | (simp; omega) | (simp only [Array.size_append]; simp; omega)) ?_
  refine hE _ _ _ (fun b o e => ?_) (Heap.get?_update_self _ (Heap.get?_push_size _ rfl) rfl) rfl
  rw [Heap.get?_update_other _ _ (Nat.ne_of_gt (Heap.lt_size (Heap.get?_push_of_some _ e)))]
  exact Heap.get?_push_of_some _ (Heap.get?_push_of_some _ e)
theorem tuple_end_hot {it t x1 : Addr} {i : Nat} {items : Array Value} {Q : Option Value → Shared → Prop} (hot : HotAt A x1 s.heap) (ne : x1 ≠ it)
    (hit : s.heap.IsTupleIter it t i) (ht : s.heap.IsTuple t items) (hx : items[i]? = none)
    (hQ : ∀ h', (∀ b o, b ≠ it → s.heap.get? b = some o → h'.get? b = some o) → Q none { s with heap := h' }) : wpAny (model prog w) A (pyNext (.ref it)) Q E s := by
  obtain ⟨o, ho, hc, hd⟩ := id hit
  obtain ⟨ol, hol, _, nl, hdl⟩ := ht
  obtain ⟨hh, o1, vs1, h1, d1, c1⟩ := hot
  unfold pyNext
  refine wpAny_bind (wpAny_attempt (wpAny_callSpecial?_slot (name := Str.ofString "__next__") hit.typeIs F.slot_tuple_iterator_next (wpAny_call_entry F.slot_tuple_iterator_next hit.typeIs F.entry_tuple_iterator_next ?_ (F.args_tuple_iterator_next_1 _))))
  show wpAny _ _ (field (.ref it) 0 >>= _) _ _ s
  refine wpAny_bind (wpAny_field ho hd (x := .ref t) rfl ?_)
  show wpAny _ _ (if (Value.ref t == Value.none) = true then _ else _) _ _ s
  rw [if_neg (by show ¬ ((Value.ref t == Value.none) = true); simp)]
  show wpAny _ _ (field (.ref it) 1 >>= _) _ _ s
  refine wpAny_bind (wpAny_field ho hd (x := .int i 0) rfl ?_)
  show wpAny _ _ (seqItems? (.ref t) >>= _) _ _ s
  refine wpAny_bind (wpAny_seqItems hol hdl ?_)
  simp only [Int.toNat_natCast, hx]
  refine wpAny_bind (wpAny_rule (wpAny_bind (wpAny_setField ho hd (by simp) ?_)))
  have old : ∀ b u, b ≠ it → s.heap.get? b = some u → (s.heap.update it (Obj.mapFields (·.setIfInBounds 0 .none))).get? b = some u := fun b u hb e => by rw [Heap.get?_update_other _ _ (Ne.symm hb)]; exact e
  refine stop_hot ⟨hh, o1, vs1, old _ _ ne h1, d1, c1⟩ fun h' e oe k he hc' => ?_
  refine wpAny_bind (wpAny_isInstance (T := "StopIteration") (b := true) ⟨_, he, hc'⟩ isSubtype_stop ?_)
  exact wpAny_pure (hQ _ fun b u hb q => k b u (old b u hb q))
theorem ascii_end_hot {it x1 : Addr} {x : Str} {t : Tok} {i : Nat} {Q : Option Value → Shared → Prop} (hot : HotAt A x1 s.heap) (ne : x1 ≠ it)
    (hit : s.heap.IsStrIter it "str_ascii_iterator" x t i) (hx : x.cps[i]? = none)
    (hQ : ∀ h', (∀ b o, b ≠ it → s.heap.get? b = some o → h'.get? b = some o) → Q none { s with heap := h' }) : wpAny (model prog w) A (pyNext (.ref it)) Q E s := by
  obtain ⟨o, ho, hc, hd⟩ := id hit
  obtain ⟨hh, o1, vs1, h1, d1, c1⟩ := hot
  unfold pyNext
  refine wpAny_bind (wpAny_attempt (wpAny_callSpecial?_slot (name := Str.ofString "__next__") hit.typeIs F.slot_str_ascii_iterator_next (wpAny_call_entry F.slot_str_ascii_iterator_next hit.typeIs F.entry_str_ascii_iterator_next ?_ (F.args_str_ascii_iterator_next_1 _))))
  show wpAny _ _ (field (.ref it) 0 >>= _) _ _ s
  refine wpAny_bind (wpAny_field ho hd (x := .str x t) rfl ?_)
  show wpAny _ _ (field (.ref it) 1 >>= _) _ _ s
  refine wpAny_bind (wpAny_field ho hd (x := .int i 0) rfl ?_)
  simp only [Int.toNat_natCast, hx]
  refine wpAny_bind (wpAny_rule (wpAny_bind (wpAny_setField ho hd (by simp) (wpAny_bind (wpAny_letGo ?_)))))
  refine stop_hot ⟨hh, o1, vs1, ?_, d1, c1⟩ fun h' e oe k he hc' => ?_
  · rw [Heap.get?_update_other _ _ (Ne.symm ne)]
    exact h1
  refine wpAny_bind (wpAny_isInstance (T := "StopIteration") (b := true) ⟨_, he, hc'⟩ isSubtype_stop ?_)
  refine wpAny_pure (hQ _ fun b u hb q => k b u ?_)
  rw [Heap.get?_update_other _ _ (Ne.symm hb)]
  exact q
theorem wide_end_hot {it x1 : Addr} {x : Str} {t : Tok} {i : Nat} {Q : Option Value → Shared → Prop} (hot : HotAt A x1 s.heap) (ne : x1 ≠ it)
    (hit : s.heap.IsStrIter it "str_iterator" x t i) (hx : x.cps[i]? = none)
    (hQ : ∀ h', (∀ b o, b ≠ it → s.heap.get? b = some o → h'.get? b = some o) → Q none { s with heap := h' }) : wpAny (model prog w) A (pyNext (.ref it)) Q E s := by
  obtain ⟨o, ho, hc, hd⟩ := id hit
  obtain ⟨hh, o1, vs1, h1, d1, c1⟩ := hot
  unfold pyNext
  refine wpAny_bind (wpAny_attempt (wpAny_callSpecial?_slot (name := Str.ofString "__next__") hit.typeIs F.slot_str_iterator_next (wpAny_call_entry F.slot_str_iterator_next hit.typeIs F.entry_str_iterator_next ?_ (F.args_str_iterator_next_1 _))))
  show wpAny _ _ (field (.ref it) 0 >>= _) _ _ s
  refine wpAny_bind (wpAny_field ho hd (x := .str x t) rfl ?_)
  show wpAny _ _ (field (.ref it) 1 >>= _) _ _ s
  refine wpAny_bind (wpAny_field ho hd (x := .int i 0) rfl ?_)
  simp only [Int.toNat_natCast, hx]
  refine wpAny_bind (wpAny_rule (wpAny_bind (wpAny_setField ho hd (by simp) (wpAny_bind (wpAny_letGo ?_)))))
  refine stop_hot ⟨hh, o1, vs1, ?_, d1, c1⟩ fun h' e oe k he hc' => ?_
  · rw [Heap.get?_update_other _ _ (Ne.symm ne)]
    exact h1
  refine wpAny_bind (wpAny_isInstance (T := "StopIteration") (b := true) ⟨_, he, hc'⟩ isSubtype_stop ?_)
  refine wpAny_pure (hQ _ fun b u hb q => k b u ?_)
  rw [Heap.get?_update_other _ _ (Ne.symm hb)]
  exact q
end
end RW7
namespace L2H
open PySem PySem.Spec PyProof.Rows L2 HotX RW7
theorem hotNe {X : Cx} {pins : List (Addr × Obj)} {σ : St} {H H' : Hp} {s : Shared} {it : Addr} (c : HotC X) (I : Inv X pins σ H s) (f : FpOk X pins H' it) : ∃ x1, HotAt X.A x1 s.heap ∧ x1 ≠ it := by
  obtain ⟨p, ⟨hh, v1, e1, c1⟩, hp⟩ := c
  exact ⟨p.1, ⟨hh, p.2, v1, (I.pin p (List.mem_append_left _ hp)).1, e1, c1⟩, f.2.2.2.2.2 p (List.mem_append_left _ hp)⟩
theorem turn_tupH {P : Program} {w : World} {K : PySem.W.Frag} {tg : Expr} (a it : Addr) : TurnH P w K tg (Itt K a) [it] it (fun i h => h.IsTupleIter it a i) where
  mem := List.mem_singleton.mpr rfl
  obj := fun i h st b hb => by
    obtain rfl : b = it := List.mem_singleton.mp hb
    obtain ⟨o, e, c, d⟩ := st
    exact ⟨o, e, fun v z => by rw [d] at z; cases z⟩
  keep := fun i h h' st k => st.at fun o e => k it (List.mem_singleton.mpr rfl) o e
  item := by
    intro X hP hw hK hc i pins s σ H E I hf st hg
    subst hP hw hK
    obtain ⟨xs, x, hq, hx⟩ := hg
    obtain ⟨its, rv, p, hz⟩ := I.tuple hq
    obtain ⟨u, hu, ru⟩ := rv.get hx
    obtain ⟨g0, g1, g2, g3, g4, g5⟩ := hf it (List.mem_singleton.mpr rfl)
    refine wpAny_pyNext_tuple_item st (show s.heap.IsTuple a its.toArray from p) (x := u) (by rw [List.getElem?_toArray]; exact hu) fun h' st' sb => ?_
    have J := I.turned (t' := s.toks) (h' := h') (fun b o hb e => (sb.2 b hb).trans e) g0 g1 g3 g4 g5
    obtain ⟨o, e, c, d⟩ := id st'
    exact ⟨u, rfl, go_of (s := { s with heap := h' }) e c d (by decide) ⟨x, H, J, ru, ⟨rfl, fun ys hy => by rw [I.tuple_inj hy hq]; exact hx⟩, st', fun b hb => (hf b hb).1⟩⟩
  done := by
    intro X hP hw hK hc i pins s σ H E I hf st hg
    subst hP hw hK
    obtain ⟨xs, hq, hx⟩ := hg
    obtain ⟨its, rv, p, hz⟩ := I.tuple hq
    have F := hf it (List.mem_singleton.mpr rfl)
    obtain ⟨x1, hot, ne⟩ := hotNe hc I F
    obtain ⟨g0, g1, g2, g3, g4, g5⟩ := F
    have hl := rv.length
    refine tuple_end_hot hot ne st (show s.heap.IsTuple a its.toArray from p) ?_ fun h' eb => ⟨rfl, I.turned (t' := s.toks) (fun b o hb e => eb b o hb e) g0 g1 g3 g4 g5⟩
    rw [List.getElem?_toArray]
    exact List.getElem?_eq_none (by omega)
  self := fun _ _ _ _ _ st h => wpAny_pyIter_tupleiter st h
theorem turn_strH {P : Program} {w : World} {K : PySem.W.Frag} {tg : Expr} (it : Addr) (x : Str) (t : Tok) (ty : String) (hty : ty = "str_ascii_iterator" ∨ ty = "str_iterator") :
    TurnH P w K tg (Its x) [it] it (fun i h => h.IsStrIter it ty x t i) where
  mem := List.mem_singleton.mpr rfl
  obj := fun i h st b hb => by
    obtain rfl : b = it := List.mem_singleton.mp hb
    obtain ⟨o, e, c, d⟩ := st
    exact ⟨o, e, fun v z => by rw [d] at z; cases z⟩
  keep := fun i h h' st k => let ⟨o, ho, r⟩ := st; ⟨o, k it (List.mem_singleton.mpr rfl) o ho, r⟩
  item := by
    intro X hP hw hK hc i pins s σ H E I hf st hg
    subst hP hw hK
    obtain ⟨g0, g1, g2, g3, g4, g5⟩ := hf it (List.mem_singleton.mpr rfl)
    have hg' : i < x.cps.size := hg
    have hx : x.cps[i]? = some x.cps[i] := Array.getElem?_eq_getElem hg'
    have fin : ∀ (h' : Heap), h'.IsStrIter it ty x t (i + 1) → Heap.SameBut it s.heap h' → ["enumerate", "zip", "dict_itemiterator", "dict_reverseitemiterator", "odict_iterator", "itertools.zip_longest", "itertools.pairwise"].contains ty = false →
        ∃ u, some (Value.str ⟨#[x.cps[i]]⟩ s.toks) = some u ∧ wpAny (model X.prog X.w) X.A (letOwnedTupleGo tg (.ref it) u) (fun _ s2 => ∃ y H', Inv X pins σ H' s2 ∧ RelV y u ∧ (Its x).yld i H y H' ∧ s2.heap.IsStrIter it ty x t (i + 1) ∧ ∀ b ∈ [it], H' b = none) E { s with heap := h', toks := s.toks + 1 } := by
      intro h' st' sb no
      have J := I.turned (t' := s.toks + 1) (h' := h') (fun b o hb e => (sb.2 b hb).trans e) g0 g1 g3 g4 g5
      obtain ⟨o, e, c, d⟩ := id st'
      exact ⟨_, rfl, go_of (s := { s with heap := h', toks := s.toks + 1 }) e c d no ⟨.str ⟨#[x.cps[i]]⟩, H, J, ⟨s.toks, rfl⟩, ⟨rfl, x.cps[i], hx, rfl⟩, st', fun b hb => (hf b hb).1⟩⟩
    rcases hty with e | e
    · subst e
      exact wpAny_pyNext_ascii_item st hx fun h' st' sb => fin h' st' sb (by decide)
    · subst e
      exact wpAny_pyNext_wide_item st hx fun h' st' sb => fin h' st' sb (by decide)
  done := by
    intro X hP hw hK hc i pins s σ H E I hf st hg
    subst hP hw hK
    have F := hf it (List.mem_singleton.mpr rfl)
    obtain ⟨x1, hot, ne⟩ := hotNe hc I F
    obtain ⟨g0, g1, g2, g3, g4, g5⟩ := F
    have hx : x.cps[i]? = none := Array.getElem?_eq_none hg
    rcases hty with e | e
    · subst e
      exact ascii_end_hot hot ne st hx fun h' eb => ⟨rfl, I.turned (t' := s.toks) (fun b o hb e => eb b o hb e) g0 g1 g3 g4 g5⟩
    · subst e
      exact wide_end_hot hot ne st hx fun h' eb => ⟨rfl, I.turned (t' := s.toks) (fun b o hb e => eb b o hb e) g0 g1 g3 g4 g5⟩
  self := fun A i s Q E st h => by
    rcases hty with e | e
    · subst e; exact wpAny_pyIter_striter_ascii st h
    · subst e; exact wpAny_pyIter_striter_wide st h
section
variable {X : Cx} {tg : Expr}
theorem pi_oneH {pins : List (Addr × Obj)} {σ : St} {H : Hp} {s : Shared} {R : It → Hp → Prop} {J : It} {tn : Nat → Heap → Prop} {tk : Nat} (I : Inv X pins σ H s) (o : Obj) (T : TurnH X.prog X.w X.K tg J [s.heap.objs.size] s.heap.objs.size tn)
    (st : tn 0 (s.heap.push o)) (q : R J H) : PIEH X pins σ tg R (.ref s.heap.objs.size) { s with heap := s.heap.push o, toks := tk } :=
  ⟨s.heap.objs.size, [s.heap.objs.size], tn, J, H, rfl, I.kept fun b ob e => Heap.get?_push_of_some _ e, T, st, fun b hb => by
    obtain rfl : b = s.heap.objs.size := List.mem_singleton.mp hb
    exact I.fpOk (Nat.le_refl _) (I.hok.fresh (Nat.le_refl _)), q⟩
theorem pi_tupH {l : Expr} {tl : TE} (hl : PE X l tl) : PIH X tg l (iTup X.K tl) := by
  refine ⟨fun pins s σ H R I h => thn (hl.run pins s σ H _ I h) fun v s1 ⟨x, H1, I1, r1, a, ex, ⟨xs, hq⟩, q⟩ => ?_⟩
  subst ex
  cases r1
  obtain ⟨its, rv, p, hz⟩ := I1.tuple hq
  exact wpAny_pyIter_tuple (show s1.heap.IsTuple a its.toArray from p) (pi_oneH (tk := s1.toks) I1 _ (turn_tupH a _) ⟨_, Heap.get?_push_size _ rfl, rfl, rfl⟩ q)
theorem pi_strH {e : Expr} {te : TE} (he : PE X e te) : PIH X tg e (iStr te) := by
  refine ⟨fun pins s σ H R I h => thn (he.run pins s σ H _ I h) fun v s1 ⟨y, H1, I1, r1, x, ex, q⟩ => ?_⟩
  subst ex
  obtain ⟨t, rfl⟩ := r1
  cases ha : x.cps.all (· < 128)
  · exact wpAny_pyIter_wide ha (pi_oneH (tk := s1.toks) I1 _ (turn_strH _ x t "str_iterator" (.inr rfl)) ⟨_, Heap.get?_push_size _ rfl, rfl, rfl⟩ q)
  · exact wpAny_pyIter_ascii ha (pi_oneH (tk := s1.toks) I1 _ (turn_strH _ x t "str_ascii_iterator" (.inl rfl)) ⟨_, Heap.get?_push_size _ rfl, rfl, rfl⟩ q)
end
end L2H
set_option maxHeartbeats 2000000
/-! k75: the text by places, promises -/
namespace K75
open PySem PySem.Spec PyProof.Rows L2 L2H
def top (i : Nat) : Stmt := PySem.Challenge.pw_anycorner_k75_names_and_store_deeds.main.body.getD i (.Pass ⟨0, 0, 0, 0⟩)

/-! ### data in the heap -/
theorem Same.sqT {K : PySem.W.Frag} {H H' : Hp} {a : Addr} {xs : List V} (e : Same H H') (h : SqT K H a xs) : SqT K H' a xs := by
  rcases h with (h | ⟨o, h⟩) | h
  · exact .inl (.inl (e _ _ h))
  · exact .inl (.inr ⟨o, e _ _ h⟩)
  · exact .inr h
mutual
theorem dp_same {K : PySem.W.Frag} {H H' : Hp} (e : Same H H') : ∀ {v : V} {d : PyData}, Dp K H v d → Dp K H' v d
  | _, _, .non => .non
  | _, _, .bl b => .bl b
  | _, _, .int i => .int i
  | _, _, .str x => .str x
  | _, _, .lst h a => .lst (e.seq h) (dpAll_same e a)
  | _, _, .tup h a => .tup (Same.sqT e h) (dpAll_same e a)
theorem dpAll_same {K : PySem.W.Frag} {H H' : Hp} (e : Same H H') : ∀ {vs : List V} {ds : List PyData}, DpAll K H vs ds → DpAll K H' vs ds
  | _, _, .nil => .nil
  | _, _, .cons a b => .cons (dp_same e a) (dpAll_same e b)
end
theorem same_upd {H : Hp} {p : Addr} {o : HO} (h : H p = none) : Same H (upd H p o) := fun b u e => by rw [upd_ne (ne_of_none e h)]; exact e
/-- a def of data: values in, one out; what was tracked stays -/
def spD (K : PySem.W.Frag) (ok : List PyData → Prop) (g : List PyData → PyData) : Sp := fun vs H Q _ => ∃ ds, DpAll K H vs ds ∧ ok ds ∧ ∀ H' v, Same H H' → Dp K H' v (g ds) → Q v H'
theorem dpAll_len {K : PySem.W.Frag} {H : Hp} : ∀ {vs : List V} {ds : List PyData}, DpAll K H vs ds → vs.length = ds.length
  | _, _, .nil => rfl
  | _, _, .cons _ b => congrArg Nat.succ (dpAll_len b)
theorem dpAll1 {K : PySem.W.Frag} {H : Hp} {vs : List V} {d : PyData} (h : DpAll K H vs [d]) : ∃ v, vs = [v] ∧ Dp K H v d := by
  cases h with
  | cons a b => cases b; exact ⟨_, rfl, a⟩
theorem dpAll2 {K : PySem.W.Frag} {H : Hp} {vs : List V} {d e : PyData} (h : DpAll K H vs [d, e]) : ∃ v w, vs = [v, w] ∧ Dp K H v d ∧ Dp K H w e := by
  cases h with
  | cons a b =>
    obtain ⟨w, rfl, q⟩ := dpAll1 b
    exact ⟨_, w, rfl, a, q⟩
/-- a value's class -/
def tyD : PyData → Value
  | .none => .type "NoneType"
  | .bool _ => .type "bool"
  | .int _ => .type "int"
  | .str _ => .type "str"
  | .list _ => .type "list"
  | .tuple _ => .type "tuple"
  | .dict _ => .type "dict"
theorem tyX_of {K : PySem.W.Frag} {H : Hp} {v : V} {d : PyData} (h : Dp K H v d) : TyX K H v (tyD d) := by
  cases h with
  | non => exact .base .non
  | bl b => exact .base (.bl b)
  | int i => exact .base (.int i)
  | str x => exact .base (.str x)
  | lst s _ =>
    rcases s with (s | ⟨o, s⟩) | ⟨o, its, n, s, c, _⟩
    · exact .base (.lst s)
    · exact .base (.frz s)
    · exact .kList s c
  | tup s _ =>
    rcases s with (s | ⟨o, s⟩) | ⟨o, its, n, s, c, _⟩
    · exact .base (.tup s)
    · exact .fTuple s
    · exact .kTuple s c
def isI : PyData → Bool
  | .int _ => true
  | .bool _ => true
  | _ => false
def isB : PyData → Bool
  | .bool _ => true
  | _ => false
def isS : PyData → Bool
  | .str _ => true
  | _ => false
def isT : PyData → Bool
  | .tuple _ => true
  | _ => false
theorem kitI {K : PySem.W.Frag} (d : PyData) : PySem.W.kitOne K (tyD d) (.type "int") = some (isI d) := by
  cases d <;> first | exact kit_ty (r := true) (by decide +kernel) | exact kit_ty (r := false) (by decide +kernel)
theorem kitB' {K : PySem.W.Frag} (d : PyData) : PySem.W.kitOne K (tyD d) (.type "bool") = some (isB d) := by
  cases d <;> first | exact kit_ty (r := true) (by decide +kernel) | exact kit_ty (r := false) (by decide +kernel)
theorem kitS {K : PySem.W.Frag} (d : PyData) : PySem.W.kitOne K (tyD d) (.type "str") = some (isS d) := by
  cases d <;> first | exact kit_ty (r := true) (by decide +kernel) | exact kit_ty (r := false) (by decide +kernel)
theorem kitT {K : PySem.W.Frag} (d : PyData) : PySem.W.kitOne K (tyD d) (.type "tuple") = some (isT d) := by
  cases d <;> first | exact kit_ty (r := true) (by decide +kernel) | exact kit_ty (r := false) (by decide +kernel)

/-! ### a def of the text, as the top leaves it; what it promises, where nothing is handled and within an except suite -/
def At (K : PySem.W.Frag) (mg : Str → Option Value) (x q : Str) (st : Stmt) (ps : List Str) : Prop := ∃ f fd, Fun K q q st f fd ∧ mg x = some (.ref f) ∧ Binds K fd ps []
section
variable (P : Program) (w : World) (K : PySem.W.Frag) (mg : Str → Option Value) (base : Heap) (CX : CXT)
def Def (k : Nat) (x : Str) (ps : List Str) (sp : Sp) : Prop := ∃ f fd, mg x = some (.ref f) ∧ PySem.W.keepIn K (.ref f) = true ∧ Binds K fd ps [] ∧ FnOk P w K mg base CX k f fd ps sp
def DefH (k : Nat) (x : Str) (ps : List Str) (sp : Sp) : Prop := ∃ f fd, mg x = some (.ref f) ∧ PySem.W.keepIn K (.ref f) = true ∧ Binds K fd ps [] ∧ FnH P w K mg base CX k f fd ps sp
end
/-- a call of such a def -/
def tDef (sp : Sp) (t : TA) : TE := fun σ H Q => t σ H fun vs H1 => sp vs H1 Q E0
section
variable {X : Cx} {CX : CXT} {k : Nat} {x : Str} {ps : List Str} {sp : Sp} {E : XK} {p pos : Pos} {e : Expr} {es : List Expr} {t : TA}
theorem pe_def (O : Def X.prog X.w X.K X.mg X.base CX0 k x ps sp) (hr : Room k X.A) (ha : PA X (e :: es) t) (hg : Gl X x := by rfl) (hdb : (x == ("__debug__" : Str)) = false := by decide)
    (he : starEach (e :: es) X.env = (false, eval e X.env) :: starEach es X.env := by rfl) (hpl : (backTo pos (starEach es X.env)).any (·.1) = false := by rfl) : PE X (.Call (.Name x p) (e :: es) [] pos) (tDef sp t) := by
  obtain ⟨f, fd, m, kp, b, F⟩ := O
  refine ⟨fun pins s σ H Q I h => (pe_call F hr hg m kp b .nil pass0 ha hdb he hpl).run pins s σ H Q I ?_⟩
  have q : (fun (vs : List V) (H1 : Hp) => sp (vs ++ []) H1 Q E0) = fun vs H1 => sp vs H1 Q E0 := by
    funext vs H1
    rw [List.append_nil]
  show t σ H fun vs H1 => sp (vs ++ []) H1 Q E0
  rw [q]
  exact h
theorem pass0H {σ : L2.St} : PassesAt CX0 X σ E0 := fun _ _ _ _ _ _ h => h.elim
theorem pe_defH (O : DefH X.prog X.w X.K X.mg X.base CX0 k x ps sp) (hr : RoomH k X.A) (hc : HotC X) (ha : PA X (e :: es) t) (hg : Gl X x := by rfl) (hdb : (x == ("__debug__" : Str)) = false := by decide)
    (he : starEach (e :: es) X.env = (false, eval e X.env) :: starEach es X.env := by rfl) (hpl : (backTo pos (starEach es X.env)).any (·.1) = false := by rfl) : PE X (.Call (.Name x p) (e :: es) [] pos) (tDef sp t) := by
  obtain ⟨f, fd, m, kp, b, F⟩ := O
  exact ⟨fun pins s σ H Q I h => (pe_callH (E := fun _ => E0) F hr hc hg m kp b (fun _ => pass0H) ha hdb he hpl).run pins s σ H Q I h⟩
end
section
variable {P : Program} {w : World} {K : PySem.W.Frag} {mg : Str → Option Value} {base : Heap}
theorem okH {x qual : Str} {st : Stmt} {f : Addr} {fd : FuncData} {N ps : List Str} {k : Nat} {sp : Sp} (F : Fun K x qual st f fd) (S : FnScope N ps (defScope st)) (len : ∀ vs H Q E, sp vs H Q E → vs.length = ps.length)
    (hbody : ∀ (cdv : Value) (A : Around) (outer : List Env) (s : Shared) (H : Hp) (vs : List V) (Q : VK) (E : XK) (p : Addr × Obj), RoomH k (A.deeper (envOfC qual (defScope st) s.heap.objs.size f cdv)) → HotC (cxH CX0 P w K mg base N qual (defScope st) f cdv A outer s H E p).nox → sp vs H Q E →
      ∃ t, PSs (cxH CX0 P w K mg base N qual (defScope st) f cdv A outer s H E p).nox (defBody st) t ∧ t { nx := fun _ H' => Q .non H', rt := Q } (start N vs) H) : FnH P w K mg base CX0 (k + 1) f fd ps sp := by
  obtain ⟨oc, od, kV, doc, pm, an, cdv, ct, osl, rfl, lk, hcd⟩ := F.ex
  refine fn_ofH lk hcd S len fun A outer s H vs Q E p hot hr hsp => ?_
  obtain ⟨t, h, q⟩ := hbody cdv A outer s H vs Q E p hr ⟨p, ⟨hot.1, hot.2⟩, List.mem_singleton.mpr rfl⟩ hsp
  exact ⟨t, h.nox, q⟩
theorem spD_len {ok : List PyData → Prop} {g : List PyData → PyData} {n : Nat} (h : ∀ ds, ok ds → ds.length = n) : ∀ vs H Q E, spD K ok g vs H Q E → vs.length = n := fun vs H Q E ⟨ds, a, o, _⟩ => by
  rw [dpAll_len a]
  exact h ds o
end
/-- the built-ins that are meant -/
structure Bi (mg : Str → Option Value) : Prop where
  isinstance : mg "isinstance" = none
  int : mg "int" = none
  str : mg "str" = none
  bool : mg "bool" = none
  tuple : mg "tuple" = none
  list : mg "list" = none
  len : mg "len" = none
  range : mg "range" = none
  sorted : mg "sorted" = none
  min : mg "min" = none
  zip : mg "zip" = none
  ValueError : mg "ValueError" = none
/-- a walk over a text's signs, by an invariant -/
theorem for_str {x : Str} {g : TG} {tb : TS} {D : Ends} {σ : L2.St} {H : Hp} (Pv : Nat → L2.St → Hp → Prop) (h0 : Pv 0 σ H)
    (hs : ∀ i c σ H, (tl x)[i]? = some c → Pv i σ H → g (.str ⟨#[c]⟩) σ H fun σ2 H2 => tb { D with nx := Pv (i + 1), ct := Pv (i + 1), bk := D.nx } σ2 H2) (hd : ∀ σ H, Pv (tl x).length σ H → D.nx σ H) :
    ∃ W : Nat → Nat → L2.St → Hp → Prop, (∃ m, W 0 m σ H) ∧ ∀ i m σ H, W i m σ H →
      ((Its x).stop i H ∧ D.nx σ H) ∨ ((Its x).go i H ∧ ∃ N : L2.St → Hp → Prop, (∀ σ' H', N σ' H' → ∃ m', m' < m ∧ W (i + 1) m' σ' H') ∧ ∀ v H', (Its x).yld i H v H' → g v σ H' fun σ2 H2 => tb { D with nx := N, ct := N, bk := D.nx } σ2 H2) := by
  refine ⟨fun i m σ H => m + i = x.cps.size ∧ Pv i σ H, ⟨x.cps.size, rfl, h0⟩, fun i m σ H ⟨e, q⟩ => ?_⟩
  have hl : (tl x).length = x.cps.size := Array.length_toList
  by_cases hi : i < x.cps.size
  · refine .inr ⟨hi, Pv (i + 1), fun σ' H' q' => ⟨m - 1, by omega, by omega, q'⟩, ?_⟩
    rintro v H' ⟨rfl, c, hc, rfl⟩
    exact hs i c σ H' (by rw [← hc]; exact Array.getElem?_toList) q
  · have hi' : i = (tl x).length := by omega
    exact .inl ⟨Nat.le_of_not_lt hi, hd σ H (by rw [← hi']; exact q)⟩
theorem take_all {α : Type} {p : α → Bool} {l : List α} {i : Nat} {c : α} (h : (l.take i).all p = true) (hc : l[i]? = some c) (pc : p c = true) : (l.take (i + 1)).all p = true := by
  rw [List.take_add_one, hc, List.all_append, h]
  show (true && (p c && true)) = true
  rw [pc]
  rfl
theorem all_bad {α : Type} {p : α → Bool} {l : List α} {i : Nat} {c : α} (hc : l[i]? = some c) (pc : p c = false) : l.all p = false := by
  cases h : l.all p with
  | false => rfl
  | true =>
    have := List.all_eq_true.mp h c (List.mem_of_getElem? hc)
    rw [pc] at this
    exact absurd this Bool.false_ne_true
/-! ### what the top has left -/
def fname : Kd → Str
  | .name => "is_name" | .row => "is_rowname" | .width => "is_width" | .most => "is_most" | .nums => "is_any_numbers"
  | .place => "is_place" | .step => "is_step" | .src => "is_source" | .sgn => "is_sign" | .bound => "is_bound"
/-- the table of forms, at D -/
structure Forms (w : World) (K : PySem.W.Frag) (mg : Str → Option Value) (D : Addr) : Prop where
  kd : ∃ es n, KDict K w D es n
  yes : ∀ x ks, (x, ks) ∈ words12 → ∃ (t : Addr) (fs : List Addr), PySem.W.nsIn K D x = some (some (.ref t)) ∧ (∀ H, SqT K H t (fs.map V.ref)) ∧ fs.length = ks.length ∧ ∀ (i : Nat) k f, ks[i]? = some k → fs[i]? = some f → mg (fname k) = some (.ref f)
  no : PySem.W.nsIn K D "mak" = some none
/-- the table of items, at D -/
structure Items (w : World) (K : PySem.W.Frag) (mg : Str → Option Value) (D : Addr) : Prop where
  kd : ∃ es n, KDict K w D es n
  yes : ∀ x ks, (x, ks) ∈ words12 → ∃ t, PySem.W.nsIn K D x = some (some (.str (SX.S (ks.map lt)) t))
  no : PySem.W.nsIn K D "" = some none
structure Txt (w : World) (K : PySem.W.Frag) (mg : Str → Option Value) : Prop where
  b : Bi mg
  c_LIMIT : ∃ t, mg "LIMIT" = some (.int 1000000000000 t)
  c_NAME_SIGNS : ∃ t, mg "NAME_SIGNS" = some (.str "abcdefghijklmnopqrstuvwxyz0123456789" t)
  c_MOST_NAME : ∃ t, mg "MOST_NAME" = some (.int 6 t)
  c_MOST_ROWNAME : ∃ t, mg "MOST_ROWNAME" = some (.int 12 t)
  c_MOST_WIDTH : ∃ t, mg "MOST_WIDTH" = some (.int 2 t)
  c_LARGEST : ∃ t, mg "LARGEST" = some (.int 1000000000 t)
  c_MOST_OF_TABLE : ∃ t, mg "MOST_OF_TABLE" = some (.int 400 t)
  c_MOST_FIGURES : ∃ t, mg "MOST_FIGURES" = some (.int 13 t)
  c_FIGURES : ∃ t, mg "FIGURES" = some (.str "0123456789" t)
  a6 : At K mg "is_whole" "is_whole" (top 6) ["thing"]
  a13 : At K mg "has_name_signs" "has_name_signs" (top 13) ["thing", "most"]
  a14 : At K mg "is_name" "is_name" (top 14) ["thing"]
  a15 : At K mg "is_rowname" "is_rowname" (top 15) ["thing"]
  a16 : At K mg "is_source" "is_source" (top 16) ["thing"]
  a17 : At K mg "is_width_names" "is_width" (top 17) ["thing"]
  a19 : At K mg "is_numbers" "is_numbers" (top 19) ["thing", "width"]
  a22 : At K mg "is_width" "is_width" (top 22) ["thing"]
  a24 : At K mg "is_most" "is_most" (top 24) ["thing"]
  a25 : At K mg "is_any_numbers" "is_any_numbers" (top 25) ["thing"]
  a26 : At K mg "is_place" "is_place" (top 26) ["thing"]
  a27 : At K mg "is_step" "is_step" (top 27) ["thing"]
  a28 : At K mg "is_sign" "is_sign" (top 28) ["thing"]
  a29 : At K mg "is_bound" "is_bound" (top 29) ["thing"]
  a31 : At K mg "first_bad" "first_bad" (top 31) ["thing"]
  a33 : At K mg "is_storedeed" "is_storedeed" (top 33) ["thing"]
  a37 : At K mg "is_figures" "is_figures" (top 37) ["text"]
  a38 : At K mg "read_count" "read_count" (top 38) ["text", "most"]
  a39 : At K mg "read_number" "read_number" (top 39) ["text"]
  a40 : At K mg "value_text" "value_text" (top 40) ["value"]
  a41 : At K mg "read_value" "read_value" (top 41) ["text"]
  a44 : At K mg "item_text" "item_text" (top 44) ["item"]
  a45 : At K mg "storedeed_text" "storedeed_text" (top 45) ["deed"]
  a46 : At K mg "read_item" "read_item" (top 46) ["kind", "word"]
  forms : ∃ D, mg "FORMS" = some (.ref D) ∧ Forms w K mg D
  items : ∃ D, mg "ITEMS" = some (.ref D) ∧ Items w K mg D
section
variable {X : Cx} {x : Str} {pos : Pos}
theorem pe_constI {n : Int} (h : ∃ t, X.mg x = some (.int n t)) (hg : Gl X x := by rfl) (hd : (x == ("__debug__" : Str)) = false := by decide) : PE X (.Name x pos) (tC (.int n)) := by
  obtain ⟨t, e⟩ := h
  exact pe_glob hg e ⟨_, rfl⟩ hd
theorem pe_constS {n : Str} (h : ∃ t, X.mg x = some (.str n t)) (hg : Gl X x := by rfl) (hd : (x == ("__debug__" : Str)) = false := by decide) : PE X (.Name x pos) (tC (.str n)) := by
  obtain ⟨t, e⟩ := h
  exact pe_glob hg e ⟨_, rfl⟩ hd
end
end K75
set_option maxHeartbeats 2000000
/-! k75: the judges of names -/
namespace K75
open PySem PySem.Spec PyProof.Rows L2 L2H
/-- sizes within the line -/
def okT : PyData → Prop
  | .str x => x.length ≤ 1000
  | _ => True
theorem S36 : ∀ c : Nat, decide (c ∈ (("abcdefghijklmnopqrstuvwxyz0123456789" : Str)).cps.toList) = alB c := by
  have e : (("abcdefghijklmnopqrstuvwxyz0123456789" : Str)).cps.toList = [97, 98, 99, 100, 101, 102, 103, 104, 105, 106, 107, 108, 109, 110, 111, 112, 113, 114, 115, 116, 117, 118, 119, 120, 121, 122, 48, 49, 50, 51, 52, 53, 54, 55, 56, 57] := by decide +kernel
  intro c
  rw [e]
  have h : c ∈ [97, 98, 99, 100, 101, 102, 103, 104, 105, 106, 107, 108, 109, 110, 111, 112, 113, 114, 115, 116, 117, 118, 119, 120, 121, 122, 48, 49, 50, 51, 52, 53, 54, 55, 56, 57] ↔ alB c = true := by
    unfold alB
    simp only [List.mem_cons, List.not_mem_nil, or_false, Bool.or_eq_true, Bool.and_eq_true, decide_eq_true_eq]
    omega
  rw [Bool.eq_iff_iff, decide_eq_true_eq]
  exact h
section
variable {P : Program} {w : World} {K : PySem.W.Frag} {mg : Str → Option Value} {base : Heap}
/-- a judge of one value -/
def spJ (K : PySem.W.Frag) (p : PyData → Bool) : Sp := fun vs H Q _ => ∃ v d, vs = [v] ∧ Dp K H v d ∧ okT d ∧ ∀ H', Same H H' → Q (.bl (p d)) H'
theorem spJ_len {p : PyData → Bool} : ∀ vs H Q E, spJ K p vs H Q E → vs.length = 1 := fun _ _ _ _ ⟨_, _, e, _⟩ => by rw [e]; rfl
theorem q_and {Q : V → Hp → Prop} {H : Hp} {a b : Bool} (h : Q (.bl (a && b)) H) (ha : a = true) : Q (.bl b) H := by rw [ha] at h; exact h
theorem q_no {Q : V → Hp → Prop} {H : Hp} {a b : Bool} (h : Q (.bl (a && b)) H) (ha : ¬ a = true) : Q (.bl false) H := by
  cases a with
  | false => exact h
  | true => exact absurd rfl ha
theorem q_or {Q : V → Hp → Prop} {H : Hp} {a b : Bool} (h : Q (.bl (a || b)) H) (ha : ¬ a = true) : Q (.bl b) H := by
  cases a with
  | false => exact h
  | true => exact absurd rfl ha
theorem q_yes {Q : V → Hp → Prop} {H : Hp} {a b : Bool} (h : Q (.bl (a || b)) H) (ha : a = true) : Q (.bl true) H := by rw [ha] at h; exact h
def isWh : PyData → Bool
  | .int _ => true
  | _ => false
/-- is_whole -/
def spW (K : PySem.W.Frag) (p : PyData → Bool) : Sp := fun vs H Q _ => ∃ v d, vs = [v] ∧ Dp K H v d ∧ ∀ H', Same H H' → Q (.bl (p d)) H'
abbrev ns_is_whole : List Str := ["thing"]
theorem sc6 : FnScope ["thing"] ["thing"] (defScope (top 6)) := ⟨rfl, rfl, rfl, by decide +kernel, rfl, by decide +kernel, by decide +kernel⟩
def sp_is_whole (K : PySem.W.Frag) : Sp := spW K isWh
theorem d_is_whole (T : Txt w K mg) : Def P w K mg base CX0 1 "is_whole" ["thing"] (sp_is_whole K) := by
  obtain ⟨f, fd, F, m, b⟩ := T.a6
  refine ⟨f, fd, m, F.kp, b, F.ok sc6 (fun vs H Q E h => ?_) (fun cdv A outer s H vs Q E hr h => ?_)⟩
  · obtain ⟨v, d, rfl, _⟩ := h; rfl
  · have nd := sc6.nd
    have hu := hr.units
    have hu1 : (A.deeper (envOfC "is_whole" (defScope (top 6)) s.heap.objs.size f cdv)).units + 1 < cLine := by omega
    obtain ⟨v, d, rfl, hv, q⟩ := h
    refine ⟨_, (pss_one (ps_ret (pe_and (pe_callB call_isi (by rfl) T.b.isinstance (by decide +kernel) (pa_cons (pv 0) (pa_cons (pe_bltn (v := .ty "int") (by rfl) T.b.int (by decide +kernel) rfl) pa_nil))) (pe_one (pe_not (pe_callB call_isi (by rfl) T.b.isinstance (by decide +kernel) (pa_cons (pv 0) (pa_cons (pe_bltn (v := .ty "bool") (by rfl) T.b.bool (by decide +kernel) rfl) pa_nil)))))))), ?_⟩
    refine ⟨_, rfl, _, _, _, _, _, rfl, .ty _, tyX_of hv, kitI d, _, rfl, ?_⟩
    refine ite2 (fun h1 => ?_) (fun h1 => ?_)
    · refine ⟨_, rfl, _, _, _, _, _, rfl, .ty _, tyX_of hv, kitB' d, _, rfl, ?_⟩
      have q2 := q _ (Same.refl _)
      cases d <;> first | exact q2 | exact absurd h1 Bool.false_ne_true
    · have q2 := q _ (Same.refl _)
      cases d <;> first | exact q2 | exact absurd rfl h1
theorem h_is_whole (T : Txt w K mg) : DefH P w K mg base CX0 1 "is_whole" ["thing"] (sp_is_whole K) := by
  obtain ⟨f, fd, F, m, b⟩ := T.a6
  refine ⟨f, fd, m, F.kp, b, okH F sc6 (fun vs H Q E h => ?_) (fun cdv A outer s H vs Q E p hr hc h => ?_)⟩
  · obtain ⟨v, d, rfl, _⟩ := h; rfl
  · have nd := sc6.nd
    have hu : (A.deeper (envOfC "is_whole" (defScope (top 6)) s.heap.objs.size f cdv)).units + 64 < cLine := by have := hr.un; omega
    have hu1 : (A.deeper (envOfC "is_whole" (defScope (top 6)) s.heap.objs.size f cdv)).units + 1 < cLine := by omega
    obtain ⟨v, d, rfl, hv, q⟩ := h
    refine ⟨_, (pss_one (ps_ret (pe_and (pe_callB call_isi (by rfl) T.b.isinstance (by decide +kernel) (pa_cons (pv 0) (pa_cons (pe_bltn (v := .ty "int") (by rfl) T.b.int (by decide +kernel) rfl) pa_nil))) (pe_one (pe_not (pe_callB call_isi (by rfl) T.b.isinstance (by decide +kernel) (pa_cons (pv 0) (pa_cons (pe_bltn (v := .ty "bool") (by rfl) T.b.bool (by decide +kernel) rfl) pa_nil)))))))), ?_⟩
    refine ⟨_, rfl, _, _, _, _, _, rfl, .ty _, tyX_of hv, kitI d, _, rfl, ?_⟩
    refine ite2 (fun h1 => ?_) (fun h1 => ?_)
    · refine ⟨_, rfl, _, _, _, _, _, rfl, .ty _, tyX_of hv, kitB' d, _, rfl, ?_⟩
      have q2 := q _ (Same.refl _)
      cases d <;> first | exact q2 | exact absurd h1 Bool.false_ne_true
    · have q2 := q _ (Same.refl _)
      cases d <;> first | exact q2 | exact absurd rfl h1
/-- a text of 1 to m signs of names -/
def mSigns (m : Nat) (d : PyData) : Bool := okS m d
abbrev ns_has_name_signs : List Str := ["thing", "most", "sign"]
theorem sc13 : FnScope ["thing", "most", "sign"] ["thing", "most"] (defScope (top 13)) := ⟨rfl, rfl, rfl, by decide +kernel, rfl, by decide +kernel, by decide +kernel⟩
def sp_has_name_signs (K : PySem.W.Frag) : Sp := fun vs H Q _ => ∃ v d m, vs = [v, .int ((m : Nat) : Int)] ∧ Dp K H v d ∧ okT d ∧ ∀ H', Same H H' → Q (.bl (okS m d)) H'
theorem d_has_name_signs (T : Txt w K mg) : Def P w K mg base CX0 1 "has_name_signs" ["thing", "most"] (sp_has_name_signs K) := by
  obtain ⟨f, fd, F, m, b⟩ := T.a13
  refine ⟨f, fd, m, F.kp, b, F.ok sc13 (fun vs H Q E h => ?_) (fun cdv A outer s H vs Q E hr h => ?_)⟩
  · obtain ⟨v, d, m, rfl, _⟩ := h; rfl
  · have nd := sc13.nd
    have hu := hr.units
    have hu1 : (A.deeper (envOfC "has_name_signs" (defScope (top 13)) s.heap.objs.size f cdv)).units + 1 < cLine := by omega
    obtain ⟨v, d, m, rfl, hv, ok, q⟩ := h
    refine ⟨_, (pss_cons (ps_if (PW.pt (pw_or (pt_not (pt_val (pe_callB call_isi (by rfl) T.b.isinstance (by decide +kernel) (pa_cons (pv 0) (pa_cons (pe_bltn (v := .ty "str") (by rfl) T.b.str (by decide +kernel) rfl) pa_nil))))) (pw_or1 (pt_not (pt_chain op_le op_le pe_int (pe_callB call_len (by rfl) T.b.len (by decide +kernel) (pa_cons (pv 0) pa_nil)) (pv 1)))))) (pss_one (ps_ret pe_bl)) pss_nil)
      (pss_cons (ps_for PassesOwn.never rfl (pi_str (pv 0)) (pg_name (i := 2) nd rfl (Or.inl rfl)) (pss_one (ps_if (pt_cmpR op_notIn_sign (pv 2) (pe_constS T.c_NAME_SIGNS) rfl) (pss_one (ps_ret pe_bl)) pss_nil)))
      (pss_one (ps_ret pe_bl)))), ?_⟩
    refine ⟨_, rfl, _, _, _, _, _, rfl, .ty _, tyX_of hv, kitS d, _, rfl, ?_⟩
    cases hd : isS d with
    | false =>
      refine iteT ?_
      have e : okS m d = false := by cases d <;> first | rfl | exact absurd hd Bool.noConfusion
      have q2 := q H (Same.refl _)
      rw [e] at q2
      exact q2
    | true =>
      refine iteF ?_
      cases hv <;> try (exact absurd hd Bool.noConfusion)
      rename_i x
      have hx : x.length ≤ 1000 := ok
      have hlen : x.length = (tl x).length := Array.length_toList.symm
      refine ⟨_, rfl, _, _, rfl, ⟨by show x.length ≤ 16777216; omega, rfl⟩, _, _, rfl, rfl, _, rfl, ?_⟩
      have bad : ¬ (1 ≤ x.length ∧ x.length ≤ m) → okS m (.str x) = false := fun h => by
        show (decide (1 ≤ (tl x).length) && decide ((tl x).length ≤ m) && (tl x).all alB) = false
        cases h3 : (decide (1 ≤ (tl x).length) && decide ((tl x).length ≤ m)) with
        | false => rfl
        | true =>
          rw [Bool.and_eq_true, decide_eq_true_eq, decide_eq_true_eq] at h3
          exact absurd (by omega) h
      refine ite2 (fun h1 => ?_) (fun h1 => ?_)
      · rw [decide_eq_true_eq] at h1
        refine ⟨_, rfl, _, _, rfl, rfl, _, rfl, ?_⟩
        refine ite2 (fun h2 => ?_) (fun h2 => ?_)
        · rw [Bool.not_eq_true', decide_eq_false_iff_not] at h2
          have q2 := q H (Same.refl _)
          rw [bad (by omega)] at q2
          exact q2
        · rw [Bool.not_eq_true', decide_eq_false_iff_not, Decidable.not_not] at h2
          have yes : okS m (.str x) = (tl x).all alB := by
            show (decide (1 ≤ (tl x).length) && decide ((tl x).length ≤ m) && (tl x).all alB) = (tl x).all alB
            rw [decide_eq_true (by omega), decide_eq_true (by omega)]
            rfl
          refine ⟨_, rfl, x, rfl, for_str (fun i σ H' => (∃ u, σ = [some (.str x), some (.int m), u]) ∧ Same H H' ∧ ((tl x).take i).all alB = true) ⟨⟨none, rfl⟩, Same.refl _, rfl⟩ ?_ ?_⟩
          · rintro i c σ H1 hcx ⟨⟨u, rfl⟩, s1, ha⟩
            refine ⟨_, rfl, c, _, rfl, rfl, _, rfl, ?_⟩
            refine ite2 (fun h3 => ?_) (fun h3 => ?_)
            · rw [S36, Bool.not_eq_true'] at h3
              have q2 := q H1 s1
              rw [yes, all_bad hcx h3] at q2
              exact q2
            · rw [S36, Bool.not_eq_true', Bool.not_eq_false] at h3
              exact ⟨⟨_, rfl⟩, s1, take_all ha hcx h3⟩
          · rintro σ H1 ⟨⟨u, rfl⟩, s1, ha⟩
            rw [List.take_length] at ha
            have q2 := q H1 s1
            rw [yes, ha] at q2
            exact q2
      · rw [decide_eq_true_eq] at h1
        refine ⟨_, rfl, iteT ?_⟩
        have q2 := q H (Same.refl _)
        rw [bad (by omega)] at q2
        exact q2
theorem h_has_name_signs (T : Txt w K mg) : DefH P w K mg base CX0 1 "has_name_signs" ["thing", "most"] (sp_has_name_signs K) := by
  obtain ⟨f, fd, F, m, b⟩ := T.a13
  refine ⟨f, fd, m, F.kp, b, okH F sc13 (fun vs H Q E h => ?_) (fun cdv A outer s H vs Q E p hr hc h => ?_)⟩
  · obtain ⟨v, d, m, rfl, _⟩ := h; rfl
  · have nd := sc13.nd
    have hu : (A.deeper (envOfC "has_name_signs" (defScope (top 13)) s.heap.objs.size f cdv)).units + 64 < cLine := by have := hr.un; omega
    have hu1 : (A.deeper (envOfC "has_name_signs" (defScope (top 13)) s.heap.objs.size f cdv)).units + 1 < cLine := by omega
    obtain ⟨v, d, m, rfl, hv, ok, q⟩ := h
    refine ⟨_, (pss_cons (ps_if (PW.pt (pw_or (pt_not (pt_val (pe_callB call_isi (by rfl) T.b.isinstance (by decide +kernel) (pa_cons (pv 0) (pa_cons (pe_bltn (v := .ty "str") (by rfl) T.b.str (by decide +kernel) rfl) pa_nil))))) (pw_or1 (pt_not (pt_chain op_le op_le pe_int (pe_callB call_len (by rfl) T.b.len (by decide +kernel) (pa_cons (pv 0) pa_nil)) (pv 1)))))) (pss_one (ps_ret pe_bl)) pss_nil)
      (pss_cons (ps_forH PassesOwn.never hc (pi_strH (pv 0)) (pg_name (i := 2) nd rfl (Or.inl rfl)) (pss_one (ps_if (pt_cmpR op_notIn_sign (pv 2) (pe_constS T.c_NAME_SIGNS) rfl) (pss_one (ps_ret pe_bl)) pss_nil)))
      (pss_one (ps_ret pe_bl)))), ?_⟩
    refine ⟨_, rfl, _, _, _, _, _, rfl, .ty _, tyX_of hv, kitS d, _, rfl, ?_⟩
    cases hd : isS d with
    | false =>
      refine iteT ?_
      have e : okS m d = false := by cases d <;> first | rfl | exact absurd hd Bool.noConfusion
      have q2 := q H (Same.refl _)
      rw [e] at q2
      exact q2
    | true =>
      refine iteF ?_
      cases hv <;> try (exact absurd hd Bool.noConfusion)
      rename_i x
      have hx : x.length ≤ 1000 := ok
      have hlen : x.length = (tl x).length := Array.length_toList.symm
      refine ⟨_, rfl, _, _, rfl, ⟨by show x.length ≤ 16777216; omega, rfl⟩, _, _, rfl, rfl, _, rfl, ?_⟩
      have bad : ¬ (1 ≤ x.length ∧ x.length ≤ m) → okS m (.str x) = false := fun h => by
        show (decide (1 ≤ (tl x).length) && decide ((tl x).length ≤ m) && (tl x).all alB) = false
        cases h3 : (decide (1 ≤ (tl x).length) && decide ((tl x).length ≤ m)) with
        | false => rfl
        | true =>
          rw [Bool.and_eq_true, decide_eq_true_eq, decide_eq_true_eq] at h3
          exact absurd (by omega) h
      refine ite2 (fun h1 => ?_) (fun h1 => ?_)
      · rw [decide_eq_true_eq] at h1
        refine ⟨_, rfl, _, _, rfl, rfl, _, rfl, ?_⟩
        refine ite2 (fun h2 => ?_) (fun h2 => ?_)
        · rw [Bool.not_eq_true', decide_eq_false_iff_not] at h2
          have q2 := q H (Same.refl _)
          rw [bad (by omega)] at q2
          exact q2
        · rw [Bool.not_eq_true', decide_eq_false_iff_not, Decidable.not_not] at h2
          have yes : okS m (.str x) = (tl x).all alB := by
            show (decide (1 ≤ (tl x).length) && decide ((tl x).length ≤ m) && (tl x).all alB) = (tl x).all alB
            rw [decide_eq_true (by omega), decide_eq_true (by omega)]
            rfl
          refine ⟨_, rfl, x, rfl, for_str (fun i σ H' => (∃ u, σ = [some (.str x), some (.int m), u]) ∧ Same H H' ∧ ((tl x).take i).all alB = true) ⟨⟨none, rfl⟩, Same.refl _, rfl⟩ ?_ ?_⟩
          · rintro i c σ H1 hcx ⟨⟨u, rfl⟩, s1, ha⟩
            refine ⟨_, rfl, c, _, rfl, rfl, _, rfl, ?_⟩
            refine ite2 (fun h3 => ?_) (fun h3 => ?_)
            · rw [S36, Bool.not_eq_true'] at h3
              have q2 := q H1 s1
              rw [yes, all_bad hcx h3] at q2
              exact q2
            · rw [S36, Bool.not_eq_true', Bool.not_eq_false] at h3
              exact ⟨⟨_, rfl⟩, s1, take_all ha hcx h3⟩
          · rintro σ H1 ⟨⟨u, rfl⟩, s1, ha⟩
            rw [List.take_length] at ha
            have q2 := q H1 s1
            rw [yes, ha] at q2
            exact q2
      · rw [decide_eq_true_eq] at h1
        refine ⟨_, rfl, iteT ?_⟩
        have q2 := q H (Same.refl _)
        rw [bad (by omega)] at q2
        exact q2
abbrev ns_is_name : List Str := ["thing"]
theorem sc14 : FnScope ["thing"] ["thing"] (defScope (top 14)) := ⟨rfl, rfl, rfl, by decide +kernel, rfl, by decide +kernel, by decide +kernel⟩
def sp_is_name (K : PySem.W.Frag) : Sp := spJ K (okS 6)
theorem d_is_name (T : Txt w K mg) : Def P w K mg base CX0 2 "is_name" ["thing"] (sp_is_name K) := by
  obtain ⟨f, fd, F, m, b⟩ := T.a14
  refine ⟨f, fd, m, F.kp, b, F.ok sc14 (fun vs H Q E h => ?_) (fun cdv A outer s H vs Q E hr h => ?_)⟩
  · exact spJ_len vs H Q E h
  · have nd := sc14.nd
    have hu := hr.units
    have hu1 : (A.deeper (envOfC "is_name" (defScope (top 14)) s.heap.objs.size f cdv)).units + 1 < cLine := by omega
    obtain ⟨v, d, rfl, hv, ok, q⟩ := h
    refine ⟨_, (pss_one (ps_ret (pe_def (d_has_name_signs T) (hr.mono (by decide)) (pa_cons (pv 0) (pa_cons (pe_constI T.c_MOST_NAME) pa_nil))))), ?_⟩
    exact ⟨_, rfl, v, d, 6, rfl, hv, ok, q⟩
theorem h_is_name (T : Txt w K mg) : DefH P w K mg base CX0 2 "is_name" ["thing"] (sp_is_name K) := by
  obtain ⟨f, fd, F, m, b⟩ := T.a14
  refine ⟨f, fd, m, F.kp, b, okH F sc14 (fun vs H Q E h => ?_) (fun cdv A outer s H vs Q E p hr hc h => ?_)⟩
  · exact spJ_len vs H Q E h
  · have nd := sc14.nd
    have hu : (A.deeper (envOfC "is_name" (defScope (top 14)) s.heap.objs.size f cdv)).units + 64 < cLine := by have := hr.un; omega
    have hu1 : (A.deeper (envOfC "is_name" (defScope (top 14)) s.heap.objs.size f cdv)).units + 1 < cLine := by omega
    obtain ⟨v, d, rfl, hv, ok, q⟩ := h
    refine ⟨_, (pss_one (ps_ret (pe_defH (h_has_name_signs T) (hr.mono (by decide)) hc (pa_cons (pv 0) (pa_cons (pe_constI T.c_MOST_NAME) pa_nil))))), ?_⟩
    exact ⟨_, rfl, v, d, 6, rfl, hv, ok, q⟩
abbrev ns_is_rowname : List Str := ["thing"]
theorem sc15 : FnScope ["thing"] ["thing"] (defScope (top 15)) := ⟨rfl, rfl, rfl, by decide +kernel, rfl, by decide +kernel, by decide +kernel⟩
def sp_is_rowname (K : PySem.W.Frag) : Sp := spJ K (okS 12)
theorem d_is_rowname (T : Txt w K mg) : Def P w K mg base CX0 2 "is_rowname" ["thing"] (sp_is_rowname K) := by
  obtain ⟨f, fd, F, m, b⟩ := T.a15
  refine ⟨f, fd, m, F.kp, b, F.ok sc15 (fun vs H Q E h => ?_) (fun cdv A outer s H vs Q E hr h => ?_)⟩
  · exact spJ_len vs H Q E h
  · have nd := sc15.nd
    have hu := hr.units
    have hu1 : (A.deeper (envOfC "is_rowname" (defScope (top 15)) s.heap.objs.size f cdv)).units + 1 < cLine := by omega
    obtain ⟨v, d, rfl, hv, ok, q⟩ := h
    refine ⟨_, (pss_one (ps_ret (pe_def (d_has_name_signs T) (hr.mono (by decide)) (pa_cons (pv 0) (pa_cons (pe_constI T.c_MOST_ROWNAME) pa_nil))))), ?_⟩
    exact ⟨_, rfl, v, d, 12, rfl, hv, ok, q⟩
theorem h_is_rowname (T : Txt w K mg) : DefH P w K mg base CX0 2 "is_rowname" ["thing"] (sp_is_rowname K) := by
  obtain ⟨f, fd, F, m, b⟩ := T.a15
  refine ⟨f, fd, m, F.kp, b, okH F sc15 (fun vs H Q E h => ?_) (fun cdv A outer s H vs Q E p hr hc h => ?_)⟩
  · exact spJ_len vs H Q E h
  · have nd := sc15.nd
    have hu : (A.deeper (envOfC "is_rowname" (defScope (top 15)) s.heap.objs.size f cdv)).units + 64 < cLine := by have := hr.un; omega
    have hu1 : (A.deeper (envOfC "is_rowname" (defScope (top 15)) s.heap.objs.size f cdv)).units + 1 < cLine := by omega
    obtain ⟨v, d, rfl, hv, ok, q⟩ := h
    refine ⟨_, (pss_one (ps_ret (pe_defH (h_has_name_signs T) (hr.mono (by decide)) hc (pa_cons (pv 0) (pa_cons (pe_constI T.c_MOST_ROWNAME) pa_nil))))), ?_⟩
    exact ⟨_, rfl, v, d, 12, rfl, hv, ok, q⟩
abbrev ns_is_width_names : List Str := ["thing"]
theorem sc17 : FnScope ["thing"] ["thing"] (defScope (top 17)) := ⟨rfl, rfl, rfl, by decide +kernel, rfl, by decide +kernel, by decide +kernel⟩
def sp_is_width_names (K : PySem.W.Frag) : Sp := spJ K (okI 1 2)
theorem d_is_width_names (T : Txt w K mg) : Def P w K mg base CX0 2 "is_width_names" ["thing"] (sp_is_width_names K) := by
  obtain ⟨f, fd, F, m, b⟩ := T.a17
  refine ⟨f, fd, m, F.kp, b, F.ok sc17 (fun vs H Q E h => ?_) (fun cdv A outer s H vs Q E hr h => ?_)⟩
  · exact spJ_len vs H Q E h
  · have nd := sc17.nd
    have hu := hr.units
    have hu1 : (A.deeper (envOfC "is_width" (defScope (top 17)) s.heap.objs.size f cdv)).units + 1 < cLine := by omega
    obtain ⟨v, d, rfl, hv, ok, q⟩ := h
    refine ⟨_, (pss_one (ps_ret (pe_and (pe_def (d_is_whole T) (hr.mono (by decide)) (pa_cons (pv 0) pa_nil)) (pe_one (pe_chain op_le op_le pe_int (pv 0) (pe_constI T.c_MOST_WIDTH)))))), ?_⟩
    refine ⟨_, rfl, v, d, rfl, hv, fun H1 s1 => ⟨_, rfl, ?_⟩⟩
    cases hv with
    | int i => exact iteT ⟨_, rfl, _, _, rfl, rfl, _, rfl, ite2 (fun h1 => ⟨_, _, rfl, rfl, q_and (q H1 s1) h1⟩) (fun h1 => q_no (q H1 s1) h1)⟩
    | _ => exact iteF (q H1 s1)
theorem h_is_width_names (T : Txt w K mg) : DefH P w K mg base CX0 2 "is_width_names" ["thing"] (sp_is_width_names K) := by
  obtain ⟨f, fd, F, m, b⟩ := T.a17
  refine ⟨f, fd, m, F.kp, b, okH F sc17 (fun vs H Q E h => ?_) (fun cdv A outer s H vs Q E p hr hc h => ?_)⟩
  · exact spJ_len vs H Q E h
  · have nd := sc17.nd
    have hu : (A.deeper (envOfC "is_width" (defScope (top 17)) s.heap.objs.size f cdv)).units + 64 < cLine := by have := hr.un; omega
    have hu1 : (A.deeper (envOfC "is_width" (defScope (top 17)) s.heap.objs.size f cdv)).units + 1 < cLine := by omega
    obtain ⟨v, d, rfl, hv, ok, q⟩ := h
    refine ⟨_, (pss_one (ps_ret (pe_and (pe_defH (h_is_whole T) (hr.mono (by decide)) hc (pa_cons (pv 0) pa_nil)) (pe_one (pe_chain op_le op_le pe_int (pv 0) (pe_constI T.c_MOST_WIDTH)))))), ?_⟩
    refine ⟨_, rfl, v, d, rfl, hv, fun H1 s1 => ⟨_, rfl, ?_⟩⟩
    cases hv with
    | int i => exact iteT ⟨_, rfl, _, _, rfl, rfl, _, rfl, ite2 (fun h1 => ⟨_, _, rfl, rfl, q_and (q H1 s1) h1⟩) (fun h1 => q_no (q H1 s1) h1)⟩
    | _ => exact iteF (q H1 s1)
abbrev ns_is_width : List Str := ["thing"]
theorem sc22 : FnScope ["thing"] ["thing"] (defScope (top 22)) := ⟨rfl, rfl, rfl, by decide +kernel, rfl, by decide +kernel, by decide +kernel⟩
def sp_is_width (K : PySem.W.Frag) : Sp := spJ K (okI 1 2)
theorem d_is_width (T : Txt w K mg) : Def P w K mg base CX0 2 "is_width" ["thing"] (sp_is_width K) := by
  obtain ⟨f, fd, F, m, b⟩ := T.a22
  refine ⟨f, fd, m, F.kp, b, F.ok sc22 (fun vs H Q E h => ?_) (fun cdv A outer s H vs Q E hr h => ?_)⟩
  · exact spJ_len vs H Q E h
  · have nd := sc22.nd
    have hu := hr.units
    have hu1 : (A.deeper (envOfC "is_width" (defScope (top 22)) s.heap.objs.size f cdv)).units + 1 < cLine := by omega
    obtain ⟨v, d, rfl, hv, ok, q⟩ := h
    refine ⟨_, (pss_one (ps_ret (pe_and (pe_def (d_is_whole T) (hr.mono (by decide)) (pa_cons (pv 0) pa_nil)) (pe_one (pe_chain op_le op_le pe_int (pv 0) pe_int))))), ?_⟩
    refine ⟨_, rfl, v, d, rfl, hv, fun H1 s1 => ⟨_, rfl, ?_⟩⟩
    cases hv with
    | int i => exact iteT ⟨_, rfl, _, _, rfl, rfl, _, rfl, ite2 (fun h1 => ⟨_, _, rfl, rfl, q_and (q H1 s1) h1⟩) (fun h1 => q_no (q H1 s1) h1)⟩
    | _ => exact iteF (q H1 s1)
theorem h_is_width (T : Txt w K mg) : DefH P w K mg base CX0 2 "is_width" ["thing"] (sp_is_width K) := by
  obtain ⟨f, fd, F, m, b⟩ := T.a22
  refine ⟨f, fd, m, F.kp, b, okH F sc22 (fun vs H Q E h => ?_) (fun cdv A outer s H vs Q E p hr hc h => ?_)⟩
  · exact spJ_len vs H Q E h
  · have nd := sc22.nd
    have hu : (A.deeper (envOfC "is_width" (defScope (top 22)) s.heap.objs.size f cdv)).units + 64 < cLine := by have := hr.un; omega
    have hu1 : (A.deeper (envOfC "is_width" (defScope (top 22)) s.heap.objs.size f cdv)).units + 1 < cLine := by omega
    obtain ⟨v, d, rfl, hv, ok, q⟩ := h
    refine ⟨_, (pss_one (ps_ret (pe_and (pe_defH (h_is_whole T) (hr.mono (by decide)) hc (pa_cons (pv 0) pa_nil)) (pe_one (pe_chain op_le op_le pe_int (pv 0) pe_int))))), ?_⟩
    refine ⟨_, rfl, v, d, rfl, hv, fun H1 s1 => ⟨_, rfl, ?_⟩⟩
    cases hv with
    | int i => exact iteT ⟨_, rfl, _, _, rfl, rfl, _, rfl, ite2 (fun h1 => ⟨_, _, rfl, rfl, q_and (q H1 s1) h1⟩) (fun h1 => q_no (q H1 s1) h1)⟩
    | _ => exact iteF (q H1 s1)
abbrev ns_is_most : List Str := ["thing"]
theorem sc24 : FnScope ["thing"] ["thing"] (defScope (top 24)) := ⟨rfl, rfl, rfl, by decide +kernel, rfl, by decide +kernel, by decide +kernel⟩
def sp_is_most (K : PySem.W.Frag) : Sp := spJ K (okI 0 400)
theorem d_is_most (T : Txt w K mg) : Def P w K mg base CX0 2 "is_most" ["thing"] (sp_is_most K) := by
  obtain ⟨f, fd, F, m, b⟩ := T.a24
  refine ⟨f, fd, m, F.kp, b, F.ok sc24 (fun vs H Q E h => ?_) (fun cdv A outer s H vs Q E hr h => ?_)⟩
  · exact spJ_len vs H Q E h
  · have nd := sc24.nd
    have hu := hr.units
    have hu1 : (A.deeper (envOfC "is_most" (defScope (top 24)) s.heap.objs.size f cdv)).units + 1 < cLine := by omega
    obtain ⟨v, d, rfl, hv, ok, q⟩ := h
    refine ⟨_, (pss_one (ps_ret (pe_and (pe_def (d_is_whole T) (hr.mono (by decide)) (pa_cons (pv 0) pa_nil)) (pe_one (pe_chain op_le op_le pe_int (pv 0) (pe_constI T.c_MOST_OF_TABLE)))))), ?_⟩
    refine ⟨_, rfl, v, d, rfl, hv, fun H1 s1 => ⟨_, rfl, ?_⟩⟩
    cases hv with
    | int i => exact iteT ⟨_, rfl, _, _, rfl, rfl, _, rfl, ite2 (fun h1 => ⟨_, _, rfl, rfl, q_and (q H1 s1) h1⟩) (fun h1 => q_no (q H1 s1) h1)⟩
    | _ => exact iteF (q H1 s1)
theorem h_is_most (T : Txt w K mg) : DefH P w K mg base CX0 2 "is_most" ["thing"] (sp_is_most K) := by
  obtain ⟨f, fd, F, m, b⟩ := T.a24
  refine ⟨f, fd, m, F.kp, b, okH F sc24 (fun vs H Q E h => ?_) (fun cdv A outer s H vs Q E p hr hc h => ?_)⟩
  · exact spJ_len vs H Q E h
  · have nd := sc24.nd
    have hu : (A.deeper (envOfC "is_most" (defScope (top 24)) s.heap.objs.size f cdv)).units + 64 < cLine := by have := hr.un; omega
    have hu1 : (A.deeper (envOfC "is_most" (defScope (top 24)) s.heap.objs.size f cdv)).units + 1 < cLine := by omega
    obtain ⟨v, d, rfl, hv, ok, q⟩ := h
    refine ⟨_, (pss_one (ps_ret (pe_and (pe_defH (h_is_whole T) (hr.mono (by decide)) hc (pa_cons (pv 0) pa_nil)) (pe_one (pe_chain op_le op_le pe_int (pv 0) (pe_constI T.c_MOST_OF_TABLE)))))), ?_⟩
    refine ⟨_, rfl, v, d, rfl, hv, fun H1 s1 => ⟨_, rfl, ?_⟩⟩
    cases hv with
    | int i => exact iteT ⟨_, rfl, _, _, rfl, rfl, _, rfl, ite2 (fun h1 => ⟨_, _, rfl, rfl, q_and (q H1 s1) h1⟩) (fun h1 => q_no (q H1 s1) h1)⟩
    | _ => exact iteF (q H1 s1)
abbrev ns_is_place : List Str := ["thing"]
theorem sc26 : FnScope ["thing"] ["thing"] (defScope (top 26)) := ⟨rfl, rfl, rfl, by decide +kernel, rfl, by decide +kernel, by decide +kernel⟩
def sp_is_place (K : PySem.W.Frag) : Sp := spJ K (okI 0 1)
theorem d_is_place (T : Txt w K mg) : Def P w K mg base CX0 2 "is_place" ["thing"] (sp_is_place K) := by
  obtain ⟨f, fd, F, m, b⟩ := T.a26
  refine ⟨f, fd, m, F.kp, b, F.ok sc26 (fun vs H Q E h => ?_) (fun cdv A outer s H vs Q E hr h => ?_)⟩
  · exact spJ_len vs H Q E h
  · have nd := sc26.nd
    have hu := hr.units
    have hu1 : (A.deeper (envOfC "is_place" (defScope (top 26)) s.heap.objs.size f cdv)).units + 1 < cLine := by omega
    obtain ⟨v, d, rfl, hv, ok, q⟩ := h
    refine ⟨_, (pss_one (ps_ret (pe_and (pe_def (d_is_whole T) (hr.mono (by decide)) (pa_cons (pv 0) pa_nil)) (pe_one (pe_chain op_le op_le pe_int (pv 0) pe_int))))), ?_⟩
    refine ⟨_, rfl, v, d, rfl, hv, fun H1 s1 => ⟨_, rfl, ?_⟩⟩
    cases hv with
    | int i => exact iteT ⟨_, rfl, _, _, rfl, rfl, _, rfl, ite2 (fun h1 => ⟨_, _, rfl, rfl, q_and (q H1 s1) h1⟩) (fun h1 => q_no (q H1 s1) h1)⟩
    | _ => exact iteF (q H1 s1)
theorem h_is_place (T : Txt w K mg) : DefH P w K mg base CX0 2 "is_place" ["thing"] (sp_is_place K) := by
  obtain ⟨f, fd, F, m, b⟩ := T.a26
  refine ⟨f, fd, m, F.kp, b, okH F sc26 (fun vs H Q E h => ?_) (fun cdv A outer s H vs Q E p hr hc h => ?_)⟩
  · exact spJ_len vs H Q E h
  · have nd := sc26.nd
    have hu : (A.deeper (envOfC "is_place" (defScope (top 26)) s.heap.objs.size f cdv)).units + 64 < cLine := by have := hr.un; omega
    have hu1 : (A.deeper (envOfC "is_place" (defScope (top 26)) s.heap.objs.size f cdv)).units + 1 < cLine := by omega
    obtain ⟨v, d, rfl, hv, ok, q⟩ := h
    refine ⟨_, (pss_one (ps_ret (pe_and (pe_defH (h_is_whole T) (hr.mono (by decide)) hc (pa_cons (pv 0) pa_nil)) (pe_one (pe_chain op_le op_le pe_int (pv 0) pe_int))))), ?_⟩
    refine ⟨_, rfl, v, d, rfl, hv, fun H1 s1 => ⟨_, rfl, ?_⟩⟩
    cases hv with
    | int i => exact iteT ⟨_, rfl, _, _, rfl, rfl, _, rfl, ite2 (fun h1 => ⟨_, _, rfl, rfl, q_and (q H1 s1) h1⟩) (fun h1 => q_no (q H1 s1) h1)⟩
    | _ => exact iteF (q H1 s1)
abbrev ns_is_step : List Str := ["thing"]
theorem sc27 : FnScope ["thing"] ["thing"] (defScope (top 27)) := ⟨rfl, rfl, rfl, by decide +kernel, rfl, by decide +kernel, by decide +kernel⟩
def sp_is_step (K : PySem.W.Frag) : Sp := spJ K (okI (-2000000000) 2000000000)
theorem d_is_step (T : Txt w K mg) : Def P w K mg base CX0 2 "is_step" ["thing"] (sp_is_step K) := by
  obtain ⟨f, fd, F, m, b⟩ := T.a27
  refine ⟨f, fd, m, F.kp, b, F.ok sc27 (fun vs H Q E h => ?_) (fun cdv A outer s H vs Q E hr h => ?_)⟩
  · exact spJ_len vs H Q E h
  · have nd := sc27.nd
    have hu := hr.units
    have hu1 : (A.deeper (envOfC "is_step" (defScope (top 27)) s.heap.objs.size f cdv)).units + 1 < cLine := by omega
    obtain ⟨v, d, rfl, hv, ok, q⟩ := h
    refine ⟨_, (pss_one (ps_ret (pe_and (pe_def (d_is_whole T) (hr.mono (by decide)) (pa_cons (pv 0) pa_nil)) (pe_one (pe_chain op_le op_le (pe_op op_mul (pe_un un_neg pe_int) (pe_constI T.c_LARGEST)) (pv 0) (pe_op op_mul pe_int (pe_constI T.c_LARGEST))))))), ?_⟩
    refine ⟨_, rfl, v, d, rfl, hv, fun H1 s1 => ⟨_, rfl, ?_⟩⟩
    cases hv with
    | int i => exact iteT ⟨_, rfl, _, _, rfl, rfl, .inl ⟨by decide, by decide⟩, _, rfl, _, _, rfl, rfl, _, rfl, ite2 (fun h1 => ⟨_, _, rfl, rfl, .inl ⟨by decide, by decide⟩, _, _, rfl, rfl, q_and (q H1 s1) h1⟩) (fun h1 => q_no (q H1 s1) h1)⟩
    | _ => exact iteF (q H1 s1)
theorem h_is_step (T : Txt w K mg) : DefH P w K mg base CX0 2 "is_step" ["thing"] (sp_is_step K) := by
  obtain ⟨f, fd, F, m, b⟩ := T.a27
  refine ⟨f, fd, m, F.kp, b, okH F sc27 (fun vs H Q E h => ?_) (fun cdv A outer s H vs Q E p hr hc h => ?_)⟩
  · exact spJ_len vs H Q E h
  · have nd := sc27.nd
    have hu : (A.deeper (envOfC "is_step" (defScope (top 27)) s.heap.objs.size f cdv)).units + 64 < cLine := by have := hr.un; omega
    have hu1 : (A.deeper (envOfC "is_step" (defScope (top 27)) s.heap.objs.size f cdv)).units + 1 < cLine := by omega
    obtain ⟨v, d, rfl, hv, ok, q⟩ := h
    refine ⟨_, (pss_one (ps_ret (pe_and (pe_defH (h_is_whole T) (hr.mono (by decide)) hc (pa_cons (pv 0) pa_nil)) (pe_one (pe_chain op_le op_le (pe_op op_mul (pe_un un_neg pe_int) (pe_constI T.c_LARGEST)) (pv 0) (pe_op op_mul pe_int (pe_constI T.c_LARGEST))))))), ?_⟩
    refine ⟨_, rfl, v, d, rfl, hv, fun H1 s1 => ⟨_, rfl, ?_⟩⟩
    cases hv with
    | int i => exact iteT ⟨_, rfl, _, _, rfl, rfl, .inl ⟨by decide, by decide⟩, _, rfl, _, _, rfl, rfl, _, rfl, ite2 (fun h1 => ⟨_, _, rfl, rfl, .inl ⟨by decide, by decide⟩, _, _, rfl, rfl, q_and (q H1 s1) h1⟩) (fun h1 => q_no (q H1 s1) h1)⟩
    | _ => exact iteF (q H1 s1)
abbrev ns_is_sign : List Str := ["thing"]
theorem sc28 : FnScope ["thing"] ["thing"] (defScope (top 28)) := ⟨rfl, rfl, rfl, by decide +kernel, rfl, by decide +kernel, by decide +kernel⟩
def sp_is_sign (K : PySem.W.Frag) : Sp := spJ K okSgn
theorem d_is_sign (T : Txt w K mg) : Def P w K mg base CX0 2 "is_sign" ["thing"] (sp_is_sign K) := by
  obtain ⟨f, fd, F, m, b⟩ := T.a28
  refine ⟨f, fd, m, F.kp, b, F.ok sc28 (fun vs H Q E h => ?_) (fun cdv A outer s H vs Q E hr h => ?_)⟩
  · exact spJ_len vs H Q E h
  · have nd := sc28.nd
    have hu := hr.units
    have hu1 : (A.deeper (envOfC "is_sign" (defScope (top 28)) s.heap.objs.size f cdv)).units + 1 < cLine := by omega
    obtain ⟨v, d, rfl, hv, ok, q⟩ := h
    refine ⟨_, (pss_one (ps_ret (pe_and (pe_def (d_is_whole T) (hr.mono (by decide)) (pa_cons (pv 0) pa_nil)) (pe_one (pe_or (pe_cmpR op_eq (pv 0) pe_int (nomark _)) (pe_one (pe_cmpR op_eq (pv 0) (pe_un un_neg pe_int) (nomark _)))))))), ?_⟩
    refine ⟨_, rfl, v, d, rfl, hv, fun H1 s1 => ⟨_, rfl, ?_⟩⟩
    cases hv with
    | int i =>
      have e1 : ∀ j : Int, decide (V.int i = V.int j) = decide (i = j) := fun j => by
        by_cases e : i = j
        · rw [e]; simp
        · rw [decide_eq_false e]; exact decide_eq_false fun z => e (V.int.inj z)
      have q2 := q H1 s1
      have q3 : Q (.bl (decide (i = 1) || decide (i = -1))) H1 := q2
      rw [← e1, ← e1] at q3
      exact iteT ⟨_, rfl, rfl, _, rfl, ite2 (fun h1 => q_yes q3 h1) (fun h1 => ⟨_, rfl, _, rfl, rfl, q_or q3 h1⟩)⟩
    | _ => exact iteF (q H1 s1)
theorem h_is_sign (T : Txt w K mg) : DefH P w K mg base CX0 2 "is_sign" ["thing"] (sp_is_sign K) := by
  obtain ⟨f, fd, F, m, b⟩ := T.a28
  refine ⟨f, fd, m, F.kp, b, okH F sc28 (fun vs H Q E h => ?_) (fun cdv A outer s H vs Q E p hr hc h => ?_)⟩
  · exact spJ_len vs H Q E h
  · have nd := sc28.nd
    have hu : (A.deeper (envOfC "is_sign" (defScope (top 28)) s.heap.objs.size f cdv)).units + 64 < cLine := by have := hr.un; omega
    have hu1 : (A.deeper (envOfC "is_sign" (defScope (top 28)) s.heap.objs.size f cdv)).units + 1 < cLine := by omega
    obtain ⟨v, d, rfl, hv, ok, q⟩ := h
    refine ⟨_, (pss_one (ps_ret (pe_and (pe_defH (h_is_whole T) (hr.mono (by decide)) hc (pa_cons (pv 0) pa_nil)) (pe_one (pe_or (pe_cmpR op_eq (pv 0) pe_int (nomark _)) (pe_one (pe_cmpR op_eq (pv 0) (pe_un un_neg pe_int) (nomark _)))))))), ?_⟩
    refine ⟨_, rfl, v, d, rfl, hv, fun H1 s1 => ⟨_, rfl, ?_⟩⟩
    cases hv with
    | int i =>
      have e1 : ∀ j : Int, decide (V.int i = V.int j) = decide (i = j) := fun j => by
        by_cases e : i = j
        · rw [e]; simp
        · rw [decide_eq_false e]; exact decide_eq_false fun z => e (V.int.inj z)
      have q2 := q H1 s1
      have q3 : Q (.bl (decide (i = 1) || decide (i = -1))) H1 := q2
      rw [← e1, ← e1] at q3
      exact iteT ⟨_, rfl, rfl, _, rfl, ite2 (fun h1 => q_yes q3 h1) (fun h1 => ⟨_, rfl, _, rfl, rfl, q_or q3 h1⟩)⟩
    | _ => exact iteF (q H1 s1)
abbrev ns_is_bound : List Str := ["thing"]
theorem sc29 : FnScope ["thing"] ["thing"] (defScope (top 29)) := ⟨rfl, rfl, rfl, by decide +kernel, rfl, by decide +kernel, by decide +kernel⟩
def sp_is_bound (K : PySem.W.Frag) : Sp := spJ K okBd
theorem d_is_bound (T : Txt w K mg) : Def P w K mg base CX0 3 "is_bound" ["thing"] (sp_is_bound K) := by
  obtain ⟨f, fd, F, m, b⟩ := T.a29
  refine ⟨f, fd, m, F.kp, b, F.ok sc29 (fun vs H Q E h => ?_) (fun cdv A outer s H vs Q E hr h => ?_)⟩
  · exact spJ_len vs H Q E h
  · have nd := sc29.nd
    have hu := hr.units
    have hu1 : (A.deeper (envOfC "is_bound" (defScope (top 29)) s.heap.objs.size f cdv)).units + 1 < cLine := by omega
    obtain ⟨v, d, rfl, hv, ok, q⟩ := h
    refine ⟨_, (pss_one (ps_ret (pe_or (pe_cmpR op_isN (pv 0) pe_non (nomark _)) (pe_one (pe_def (d_is_rowname T) (hr.mono (by decide)) (pa_cons (pv 0) pa_nil)))))), ?_⟩
    refine ⟨_, rfl, rfl, _, rfl, ?_⟩
    cases hv with
    | non => exact iteT (q H (Same.refl _))
    | bl b => exact iteF ⟨_, rfl, _, _, rfl, .bl b, ok, q⟩
    | int b => exact iteF ⟨_, rfl, _, _, rfl, .int b, ok, q⟩
    | str b => exact iteF ⟨_, rfl, _, _, rfl, .str b, ok, q⟩
    | lst a b => exact iteF ⟨_, rfl, _, _, rfl, .lst a b, ok, q⟩
    | tup a b => exact iteF ⟨_, rfl, _, _, rfl, .tup a b, ok, q⟩
theorem h_is_bound (T : Txt w K mg) : DefH P w K mg base CX0 3 "is_bound" ["thing"] (sp_is_bound K) := by
  obtain ⟨f, fd, F, m, b⟩ := T.a29
  refine ⟨f, fd, m, F.kp, b, okH F sc29 (fun vs H Q E h => ?_) (fun cdv A outer s H vs Q E p hr hc h => ?_)⟩
  · exact spJ_len vs H Q E h
  · have nd := sc29.nd
    have hu : (A.deeper (envOfC "is_bound" (defScope (top 29)) s.heap.objs.size f cdv)).units + 64 < cLine := by have := hr.un; omega
    have hu1 : (A.deeper (envOfC "is_bound" (defScope (top 29)) s.heap.objs.size f cdv)).units + 1 < cLine := by omega
    obtain ⟨v, d, rfl, hv, ok, q⟩ := h
    refine ⟨_, (pss_one (ps_ret (pe_or (pe_cmpR op_isN (pv 0) pe_non (nomark _)) (pe_one (pe_defH (h_is_rowname T) (hr.mono (by decide)) hc (pa_cons (pv 0) pa_nil)))))), ?_⟩
    refine ⟨_, rfl, rfl, _, rfl, ?_⟩
    cases hv with
    | non => exact iteT (q H (Same.refl _))
    | bl b => exact iteF ⟨_, rfl, _, _, rfl, .bl b, ok, q⟩
    | int b => exact iteF ⟨_, rfl, _, _, rfl, .int b, ok, q⟩
    | str b => exact iteF ⟨_, rfl, _, _, rfl, .str b, ok, q⟩
    | lst a b => exact iteF ⟨_, rfl, _, _, rfl, .lst a b, ok, q⟩
    | tup a b => exact iteF ⟨_, rfl, _, _, rfl, .tup a b, ok, q⟩
end
end K75
set_option maxHeartbeats 2000000
/-! k75: sources, numbers of rows -/
namespace K75
open PySem PySem.Spec PyProof.Rows L2 L2H
theorem flat2s (x : Str) : inV (.str x) [.str "t.", .str "s."] = (x == "t." || x == "s.") := by
  show (("t." : Str) == x || (("s." : Str) == x || false)) = _
  rw [Bool.or_false, Bool.beq_comm, Bool.beq_comm (a := ("s." : Str))]
theorem src_eq (x : Str) : okSrc (.str x) = (inV (.str (Txt.slice x none (some 2))) [.str "t.", .str "s."] && okS 6 (.str (Txt.slice x (some 2) none))) := by
  have hx : x = SX.S (tl x) := (SX.S_tl x).symm
  have e1 : Txt.slice x none (some 2) = SX.S ((tl x).take 2) := by
    have := SX.slice_to (a := tl x) (i := 2) (by decide)
    rw [← hx] at this
    exact this
  have e2 : Txt.slice x (some 2) none = SX.S ((tl x).drop 2) := by
    have := SX.slice_from (a := tl x) (i := 2) (by decide)
    rw [← hx] at this
    exact this
  have t1 : ("t." : Str) = SX.S [116, 46] := by decide +kernel
  have t2 : ("s." : Str) = SX.S [115, 46] := by decide +kernel
  rw [flat2s, e1, e2, t1, t2, SX.S_beq, SX.S_beq]
  show srcL (tl x) = (((tl x).take 2 == [116, 46] || (tl x).take 2 == [115, 46]) && sg 6 ((tl x).drop 2))
  unfold srcL
  split
  · rename_i a r e0
    rw [e0]
    show ((a == 116 || a == 115) && sg 6 r) = ((([a, 46] : List Nat) == [116, 46] || ([a, 46] : List Nat) == [115, 46]) && sg 6 r)
    have e : ∀ b : Nat, (([a, 46] : List Nat) == [b, 46]) = (a == b) := fun b => by simp
    rw [e, e]
  · rename_i h
    match tl x, h with
    | [], _ => rfl
    | [a], _ => simp
    | a :: b :: r, h =>
      have hb : b ≠ 46 := fun e => h a r (by rw [e])
      have e : ∀ c : Nat, (([a, b] : List Nat) == [c, 46]) = false := fun c => by simp [hb]
      show false = ((([a, b] : List Nat) == [116, 46] || ([a, b] : List Nat) == [115, 46]) && _)
      rw [e, e]
      rfl
section
variable {P : Program} {w : World} {K : PySem.W.Frag} {mg : Str → Option Value} {base : Heap}
abbrev ns_is_source : List Str := ["thing"]
theorem sc16 : FnScope ["thing"] ["thing"] (defScope (top 16)) := ⟨rfl, rfl, rfl, by decide +kernel, rfl, by decide +kernel, by decide +kernel⟩
def sp_is_source (K : PySem.W.Frag) : Sp := spJ K okSrc
theorem d_is_source (T : Txt w K mg) : Def P w K mg base CX0 3 "is_source" ["thing"] (sp_is_source K) := by
  obtain ⟨f, fd, F, m, b⟩ := T.a16
  refine ⟨f, fd, m, F.kp, b, F.ok sc16 (fun vs H Q E h => ?_) (fun cdv A outer s H vs Q E hr h => ?_)⟩
  · exact spJ_len vs H Q E h
  · have nd := sc16.nd
    have hu := hr.units
    have hu1 : (A.deeper (envOfC "is_source" (defScope (top 16)) s.heap.objs.size f cdv)).units + 1 < cLine := by omega
    obtain ⟨v, d, rfl, hv, ok, q⟩ := h
    refine ⟨_, (pss_one (ps_ret (pe_and (pe_callB call_isi (by rfl) T.b.isinstance (by decide +kernel) (pa_cons (pv 0) (pa_cons (pe_bltn (v := .ty "str") (by rfl) T.b.str (by decide +kernel) rfl) pa_nil))) (pe_and (pe_cmpR op_in_seq (pe_slice C8.sl_txt (pv 0) po_none (po_some pe_int)) (pe_tup (pa_cons pe_str (pa_cons pe_str pa_nil))) rfl) (pe_one (pe_def (d_is_name T) (hr.mono (by decide)) (pa_cons (pe_slice C8.sl_txt (pv 0) (po_some pe_int) po_none) pa_nil))))))), ?_⟩
    refine ⟨_, rfl, _, _, _, _, _, rfl, .ty _, tyX_of hv, kitS d, _, rfl, ?_⟩
    cases hv with
    | str x =>
      have hx : x.length ≤ 1000 := ok
      refine iteT ⟨_, rfl, _, rfl, _, rfl, (by show x.length ≤ 16777216; omega), (by show 2 ≤ 16777216; decide), fun p hp => ⟨p, _, rfl, .inr (.of upd_same), rfl, rfl, _, rfl, ?_⟩⟩
      have q1 : ∀ H', Same H H' → Q (.bl (inV (.str (Txt.slice x none (some 2))) [.str "t.", .str "s."] && okS 6 (.str (Txt.slice x (some 2) none)))) H' := fun H' s1 => by
        rw [← src_eq]
        exact q H' s1
      have sl : (Txt.slice x (some 2) none).length ≤ 1000 := by
        have hx : x = SX.S (tl x) := (SX.S_tl x).symm
        have e2 : Txt.slice x (some 2) none = SX.S ((tl x).drop 2) := by
          have := SX.slice_from (a := tl x) (i := 2) (by decide)
          rw [← hx] at this
          exact this
        rw [e2, SX.S_len, List.length_drop]
        have hlen : x.length = (tl x).length := Array.length_toList.symm
        omega
      refine ite2 (fun h1 => ?_) (fun h1 => ?_)
      · exact ⟨_, rfl, _, rfl, _, rfl, (by show x.length ≤ 16777216; omega), _, _, rfl, .str _, sl, fun H1 s1 => q_and (q1 H1 ((same_upd hp).trans s1)) h1⟩
      · exact q_no (q1 _ (same_upd hp)) h1
    | non => exact iteF (q H (Same.refl _))
    | bl b => exact iteF (q H (Same.refl _))
    | int b => exact iteF (q H (Same.refl _))
    | lst a b => exact iteF (q H (Same.refl _))
    | tup a b => exact iteF (q H (Same.refl _))
theorem h_is_source (T : Txt w K mg) : DefH P w K mg base CX0 3 "is_source" ["thing"] (sp_is_source K) := by
  obtain ⟨f, fd, F, m, b⟩ := T.a16
  refine ⟨f, fd, m, F.kp, b, okH F sc16 (fun vs H Q E h => ?_) (fun cdv A outer s H vs Q E p hr hc h => ?_)⟩
  · exact spJ_len vs H Q E h
  · have nd := sc16.nd
    have hu : (A.deeper (envOfC "is_source" (defScope (top 16)) s.heap.objs.size f cdv)).units + 64 < cLine := by have := hr.un; omega
    have hu1 : (A.deeper (envOfC "is_source" (defScope (top 16)) s.heap.objs.size f cdv)).units + 1 < cLine := by omega
    obtain ⟨v, d, rfl, hv, ok, q⟩ := h
    refine ⟨_, (pss_one (ps_ret (pe_and (pe_callB call_isi (by rfl) T.b.isinstance (by decide +kernel) (pa_cons (pv 0) (pa_cons (pe_bltn (v := .ty "str") (by rfl) T.b.str (by decide +kernel) rfl) pa_nil))) (pe_and (pe_cmpR op_in_seq (pe_slice C8.sl_txt (pv 0) po_none (po_some pe_int)) (pe_tup (pa_cons pe_str (pa_cons pe_str pa_nil))) rfl) (pe_one (pe_defH (h_is_name T) (hr.mono (by decide)) hc (pa_cons (pe_slice C8.sl_txt (pv 0) (po_some pe_int) po_none) pa_nil))))))), ?_⟩
    refine ⟨_, rfl, _, _, _, _, _, rfl, .ty _, tyX_of hv, kitS d, _, rfl, ?_⟩
    cases hv with
    | str x =>
      have hx : x.length ≤ 1000 := ok
      refine iteT ⟨_, rfl, _, rfl, _, rfl, (by show x.length ≤ 16777216; omega), (by show 2 ≤ 16777216; decide), fun p hp => ⟨p, _, rfl, .inr (.of upd_same), rfl, rfl, _, rfl, ?_⟩⟩
      have q1 : ∀ H', Same H H' → Q (.bl (inV (.str (Txt.slice x none (some 2))) [.str "t.", .str "s."] && okS 6 (.str (Txt.slice x (some 2) none)))) H' := fun H' s1 => by
        rw [← src_eq]
        exact q H' s1
      have sl : (Txt.slice x (some 2) none).length ≤ 1000 := by
        have hx : x = SX.S (tl x) := (SX.S_tl x).symm
        have e2 : Txt.slice x (some 2) none = SX.S ((tl x).drop 2) := by
          have := SX.slice_from (a := tl x) (i := 2) (by decide)
          rw [← hx] at this
          exact this
        rw [e2, SX.S_len, List.length_drop]
        have hlen : x.length = (tl x).length := Array.length_toList.symm
        omega
      refine ite2 (fun h1 => ?_) (fun h1 => ?_)
      · exact ⟨_, rfl, _, rfl, _, rfl, (by show x.length ≤ 16777216; omega), _, _, rfl, .str _, sl, fun H1 s1 => q_and (q1 H1 ((same_upd hp).trans s1)) h1⟩
      · exact q_no (q1 _ (same_upd hp)) h1
    | non => exact iteF (q H (Same.refl _))
    | bl b => exact iteF (q H (Same.refl _))
    | int b => exact iteF (q H (Same.refl _))
    | lst a b => exact iteF (q H (Same.refl _))
    | tup a b => exact iteF (q H (Same.refl _))
abbrev ns_is_numbers : List Str := ["thing", "width", "number"]
theorem sc19 : FnScope ["thing", "width", "number"] ["thing", "width"] (defScope (top 19)) := ⟨rfl, rfl, rfl, by decide +kernel, rfl, by decide +kernel, by decide +kernel⟩
def sp_is_numbers (K : PySem.W.Frag) : Sp := fun vs H Q _ => ∃ v d n, vs = [v, .int ((n : Nat) : Int)] ∧ (n = 1 ∨ n = 2) ∧ Dp K H v d ∧ ∀ H', Same H H' → Q (.bl (okN n d)) H'
theorem d_is_numbers (T : Txt w K mg) : Def P w K mg base CX0 3 "is_numbers" ["thing", "width"] (sp_is_numbers K) := by
  obtain ⟨f, fd, F, m, b⟩ := T.a19
  refine ⟨f, fd, m, F.kp, b, F.ok sc19 (fun vs H Q E h => ?_) (fun cdv A outer s H vs Q E hr h => ?_)⟩
  · obtain ⟨v, d, m, rfl, _⟩ := h; rfl
  · have nd := sc19.nd
    have hu := hr.units
    have hu1 : (A.deeper (envOfC "is_numbers" (defScope (top 19)) s.heap.objs.size f cdv)).units + 1 < cLine := by omega
    obtain ⟨v, d, n, rfl, hn, hv, q⟩ := h
    refine ⟨_, (pss_cons (ps_if (pt_not (pt_val (pe_def (d_is_width_names T) (hr.mono (by decide)) (pa_cons (pv 1) pa_nil)))) (pss_one (ps_ret pe_bl)) pss_nil)
      (pss_cons (ps_if (PW.pt (pw_or (pt_not (pt_val (pe_callB call_isi (by rfl) T.b.isinstance (by decide +kernel) (pa_cons (pv 0) (pa_cons (pe_bltn (v := .ty "tuple") (by rfl) T.b.tuple (by decide +kernel) rfl) pa_nil))))) (pw_or1 (pt_cmpR op_ne (pe_callB call_len (by rfl) T.b.len (by decide +kernel) (pa_cons (pv 0) pa_nil)) (pv 1) (nomark _))))) (pss_one (ps_ret pe_bl)) pss_nil)
      (pss_cons (ps_for PassesOwn.never rfl (pi_tup (pv 0)) (pg_name (i := 2) nd rfl (Or.inl rfl)) (pss_one (ps_if (PW.pt (pw_or (pt_not (pt_val (pe_def (d_is_whole T) (hr.mono (by decide)) (pa_cons (pv 2) pa_nil)))) (pw_or1 (pt_not (pt_chain op_le op_le (pe_un un_neg (pe_constI T.c_LARGEST)) (pv 2) (pe_constI T.c_LARGEST)))))) (pss_one (ps_ret pe_bl)) pss_nil)))
      (pss_one (ps_ret pe_bl))))), ?_⟩
    refine ⟨_, rfl, _, _, rfl, .int _, trivial, fun H1 s1 => ⟨_, rfl, ?_⟩⟩
    have hw : okI 1 2 (.int ((n : Nat) : Int)) = true := by
      show (decide ((1 : Int) ≤ n) && decide ((n : Int) ≤ 2)) = true
      rw [decide_eq_true (by omega), decide_eq_true (by omega)]
      rfl
    rw [hw]
    refine iteF ?_
    have hv1 := dp_same s1 hv
    refine ⟨_, rfl, _, _, _, _, _, rfl, .ty _, tyX_of hv1, kitT d, _, rfl, ?_⟩
    cases hv1 with
    | non => exact iteT (q H1 s1)
    | bl b => exact iteT (q H1 s1)
    | int b => exact iteT (q H1 s1)
    | str b => exact iteT (q H1 s1)
    | lst a b => exact iteT (q H1 s1)
    | @tup a xs ds hs ha =>
      refine iteF ⟨_, rfl, _, xs.length, rfl, .inr ⟨xs, hs, rfl⟩, _, rfl, rfl, _, rfl, ?_⟩
      have hl : xs.length = ds.length := dpAll_len ha
      have en : okN n (.tuple ds) = (decide (ds.length = n) && ds.all (okI (-1000000000) 1000000000)) := rfl
      refine ite2 (fun h1 => ?_) (fun h1 => ?_)
      · have q2 := q H1 s1
        have h2 : ¬ ds.length = n := fun e => by
          rw [hl, e] at h1
          simp at h1
        rw [en, decide_eq_false h2] at q2
        exact q2
      · have h2 : ds.length = n := by
          by_cases e : ds.length = n
          · exact e
          · exfalso
            apply h1
            rw [Bool.not_eq_true', decide_eq_false_iff_not]
            intro z
            have z2 := V.int.inj z
            omega
        refine ⟨_, rfl, a, rfl, ⟨_, hs⟩, for_tup (xs := xs) (fun i σ H' => (∃ u, σ = [some (.ref a), some (.int n), u]) ∧ Same H1 H' ∧ (ds.take i).all (okI (-1000000000) 1000000000) = true) ⟨⟨none, rfl⟩, Same.refl _, rfl⟩ (fun i σ H' _ ⟨_, s2, _⟩ => Same.sqT s2 hs) ?_ ?_⟩
        · rintro i y σ H2 hy ⟨⟨u, rfl⟩, s2, hall⟩
          obtain ⟨e, hi, he⟩ : ∃ e, ds[i]? = some e ∧ Dp K H2 y e := by
            have : ∀ {xs : List V} {ds : List PyData}, DpAll K H1 xs ds → ∀ {i : Nat} {y : V}, xs[i]? = some y → ∃ e, ds[i]? = some e ∧ Dp K H1 y e := by
              intro xs
              induction xs with
              | nil => intro ds _ i y h; simp at h
              | cons x r ih =>
                intro ds hd i y h
                cases hd with
                | cons p q =>
                  cases i with
                  | zero => cases h; exact ⟨_, rfl, p⟩
                  | succ i => exact ih q (by simpa using h)
            obtain ⟨e, a1, a2⟩ := this ha hy
            exact ⟨e, a1, dp_same s2 a2⟩
          have no : okI (-1000000000) 1000000000 e = false → ∀ H', Same H2 H' → Q (.bl false) H' := fun hb H' s' => by
            have q2 := q H' (s1.trans (s2.trans s'))
            rw [en, all_bad hi hb, Bool.and_false] at q2
            exact q2
          refine ⟨_, rfl, y, e, rfl, he, fun H3 s3 => ⟨_, rfl, ?_⟩⟩
          cases he with
          | int z =>
            refine iteF ⟨_, rfl, _, rfl, _, _, rfl, rfl, _, rfl, ?_⟩
            refine ite2 (fun h3 => ?_) (fun h3 => ?_)
            · refine ⟨_, _, rfl, rfl, _, rfl, ?_⟩
              refine ite2 (fun h4 => ?_) (fun h4 => ?_)
              · rw [Bool.not_eq_true'] at h4
                refine no ?_ H3 s3
                show (decide _ && decide _) = false
                rw [h4, Bool.and_false]
              · rw [Bool.not_eq_true', Bool.not_eq_false] at h4
                refine ⟨⟨_, rfl⟩, s2.trans s3, take_all hall hi ?_⟩
                show (decide _ && decide _) = true
                rw [h4]
                have h3' : decide (-1000000000 ≤ z) = true := h3
                rw [h3']
                rfl
            · refine ⟨_, rfl, iteT (no ?_ H3 s3)⟩
              show (decide _ && decide _) = false
              have h3' : decide (-1000000000 ≤ z) = false := by
                cases hq : decide (-1000000000 ≤ z) with
                | false => rfl
                | true => exact absurd hq h3
              rw [h3', Bool.false_and]
          | non => exact iteT (no rfl H3 s3)
          | bl b => exact iteT (no rfl H3 s3)
          | str b => exact iteT (no rfl H3 s3)
          | lst a b => exact iteT (no rfl H3 s3)
          | tup a b => exact iteT (no rfl H3 s3)
        · rintro σ H2 ⟨⟨u, rfl⟩, s2, hall⟩
          rw [hl, List.take_length] at hall
          have q2 := q H2 (s1.trans s2)
          rw [en, hall, decide_eq_true h2] at q2
          exact q2
theorem h_is_numbers (T : Txt w K mg) : DefH P w K mg base CX0 3 "is_numbers" ["thing", "width"] (sp_is_numbers K) := by
  obtain ⟨f, fd, F, m, b⟩ := T.a19
  refine ⟨f, fd, m, F.kp, b, okH F sc19 (fun vs H Q E h => ?_) (fun cdv A outer s H vs Q E p hr hc h => ?_)⟩
  · obtain ⟨v, d, m, rfl, _⟩ := h; rfl
  · have nd := sc19.nd
    have hu : (A.deeper (envOfC "is_numbers" (defScope (top 19)) s.heap.objs.size f cdv)).units + 64 < cLine := by have := hr.un; omega
    have hu1 : (A.deeper (envOfC "is_numbers" (defScope (top 19)) s.heap.objs.size f cdv)).units + 1 < cLine := by omega
    obtain ⟨v, d, n, rfl, hn, hv, q⟩ := h
    refine ⟨_, (pss_cons (ps_if (pt_not (pt_val (pe_defH (h_is_width_names T) (hr.mono (by decide)) hc (pa_cons (pv 1) pa_nil)))) (pss_one (ps_ret pe_bl)) pss_nil)
      (pss_cons (ps_if (PW.pt (pw_or (pt_not (pt_val (pe_callB call_isi (by rfl) T.b.isinstance (by decide +kernel) (pa_cons (pv 0) (pa_cons (pe_bltn (v := .ty "tuple") (by rfl) T.b.tuple (by decide +kernel) rfl) pa_nil))))) (pw_or1 (pt_cmpR op_ne (pe_callB call_len (by rfl) T.b.len (by decide +kernel) (pa_cons (pv 0) pa_nil)) (pv 1) (nomark _))))) (pss_one (ps_ret pe_bl)) pss_nil)
      (pss_cons (ps_forH PassesOwn.never hc (pi_tupH (pv 0)) (pg_name (i := 2) nd rfl (Or.inl rfl)) (pss_one (ps_if (PW.pt (pw_or (pt_not (pt_val (pe_defH (h_is_whole T) (hr.mono (by decide)) hc (pa_cons (pv 2) pa_nil)))) (pw_or1 (pt_not (pt_chain op_le op_le (pe_un un_neg (pe_constI T.c_LARGEST)) (pv 2) (pe_constI T.c_LARGEST)))))) (pss_one (ps_ret pe_bl)) pss_nil)))
      (pss_one (ps_ret pe_bl))))), ?_⟩
    refine ⟨_, rfl, _, _, rfl, .int _, trivial, fun H1 s1 => ⟨_, rfl, ?_⟩⟩
    have hw : okI 1 2 (.int ((n : Nat) : Int)) = true := by
      show (decide ((1 : Int) ≤ n) && decide ((n : Int) ≤ 2)) = true
      rw [decide_eq_true (by omega), decide_eq_true (by omega)]
      rfl
    rw [hw]
    refine iteF ?_
    have hv1 := dp_same s1 hv
    refine ⟨_, rfl, _, _, _, _, _, rfl, .ty _, tyX_of hv1, kitT d, _, rfl, ?_⟩
    cases hv1 with
    | non => exact iteT (q H1 s1)
    | bl b => exact iteT (q H1 s1)
    | int b => exact iteT (q H1 s1)
    | str b => exact iteT (q H1 s1)
    | lst a b => exact iteT (q H1 s1)
    | @tup a xs ds hs ha =>
      refine iteF ⟨_, rfl, _, xs.length, rfl, .inr ⟨xs, hs, rfl⟩, _, rfl, rfl, _, rfl, ?_⟩
      have hl : xs.length = ds.length := dpAll_len ha
      have en : okN n (.tuple ds) = (decide (ds.length = n) && ds.all (okI (-1000000000) 1000000000)) := rfl
      refine ite2 (fun h1 => ?_) (fun h1 => ?_)
      · have q2 := q H1 s1
        have h2 : ¬ ds.length = n := fun e => by
          rw [hl, e] at h1
          simp at h1
        rw [en, decide_eq_false h2] at q2
        exact q2
      · have h2 : ds.length = n := by
          by_cases e : ds.length = n
          · exact e
          · exfalso
            apply h1
            rw [Bool.not_eq_true', decide_eq_false_iff_not]
            intro z
            have z2 := V.int.inj z
            omega
        refine ⟨_, rfl, a, rfl, ⟨_, hs⟩, for_tup (xs := xs) (fun i σ H' => (∃ u, σ = [some (.ref a), some (.int n), u]) ∧ Same H1 H' ∧ (ds.take i).all (okI (-1000000000) 1000000000) = true) ⟨⟨none, rfl⟩, Same.refl _, rfl⟩ (fun i σ H' _ ⟨_, s2, _⟩ => Same.sqT s2 hs) ?_ ?_⟩
        · rintro i y σ H2 hy ⟨⟨u, rfl⟩, s2, hall⟩
          obtain ⟨e, hi, he⟩ : ∃ e, ds[i]? = some e ∧ Dp K H2 y e := by
            have : ∀ {xs : List V} {ds : List PyData}, DpAll K H1 xs ds → ∀ {i : Nat} {y : V}, xs[i]? = some y → ∃ e, ds[i]? = some e ∧ Dp K H1 y e := by
              intro xs
              induction xs with
              | nil => intro ds _ i y h; simp at h
              | cons x r ih =>
                intro ds hd i y h
                cases hd with
                | cons p q =>
                  cases i with
                  | zero => cases h; exact ⟨_, rfl, p⟩
                  | succ i => exact ih q (by simpa using h)
            obtain ⟨e, a1, a2⟩ := this ha hy
            exact ⟨e, a1, dp_same s2 a2⟩
          have no : okI (-1000000000) 1000000000 e = false → ∀ H', Same H2 H' → Q (.bl false) H' := fun hb H' s' => by
            have q2 := q H' (s1.trans (s2.trans s'))
            rw [en, all_bad hi hb, Bool.and_false] at q2
            exact q2
          refine ⟨_, rfl, y, e, rfl, he, fun H3 s3 => ⟨_, rfl, ?_⟩⟩
          cases he with
          | int z =>
            refine iteF ⟨_, rfl, _, rfl, _, _, rfl, rfl, _, rfl, ?_⟩
            refine ite2 (fun h3 => ?_) (fun h3 => ?_)
            · refine ⟨_, _, rfl, rfl, _, rfl, ?_⟩
              refine ite2 (fun h4 => ?_) (fun h4 => ?_)
              · rw [Bool.not_eq_true'] at h4
                refine no ?_ H3 s3
                show (decide _ && decide _) = false
                rw [h4, Bool.and_false]
              · rw [Bool.not_eq_true', Bool.not_eq_false] at h4
                refine ⟨⟨_, rfl⟩, s2.trans s3, take_all hall hi ?_⟩
                show (decide _ && decide _) = true
                rw [h4]
                have h3' : decide (-1000000000 ≤ z) = true := h3
                rw [h3']
                rfl
            · refine ⟨_, rfl, iteT (no ?_ H3 s3)⟩
              show (decide _ && decide _) = false
              have h3' : decide (-1000000000 ≤ z) = false := by
                cases hq : decide (-1000000000 ≤ z) with
                | false => rfl
                | true => exact absurd hq h3
              rw [h3', Bool.false_and]
          | non => exact iteT (no rfl H3 s3)
          | bl b => exact iteT (no rfl H3 s3)
          | str b => exact iteT (no rfl H3 s3)
          | lst a b => exact iteT (no rfl H3 s3)
          | tup a b => exact iteT (no rfl H3 s3)
        · rintro σ H2 ⟨⟨u, rfl⟩, s2, hall⟩
          rw [hl, List.take_length] at hall
          have q2 := q H2 (s1.trans s2)
          rw [en, hall, decide_eq_true h2] at q2
          exact q2
abbrev ns_is_any_numbers : List Str := ["thing"]
theorem sc25 : FnScope ["thing"] ["thing"] (defScope (top 25)) := ⟨rfl, rfl, rfl, by decide +kernel, rfl, by decide +kernel, by decide +kernel⟩
def sp_is_any_numbers (K : PySem.W.Frag) : Sp := spJ K (okK .nums)
theorem d_is_any_numbers (T : Txt w K mg) : Def P w K mg base CX0 4 "is_any_numbers" ["thing"] (sp_is_any_numbers K) := by
  obtain ⟨f, fd, F, m, b⟩ := T.a25
  refine ⟨f, fd, m, F.kp, b, F.ok sc25 (fun vs H Q E h => ?_) (fun cdv A outer s H vs Q E hr h => ?_)⟩
  · exact spJ_len vs H Q E h
  · have nd := sc25.nd
    have hu := hr.units
    have hu1 : (A.deeper (envOfC "is_any_numbers" (defScope (top 25)) s.heap.objs.size f cdv)).units + 1 < cLine := by omega
    obtain ⟨v, d, rfl, hv, ok, q⟩ := h
    refine ⟨_, (pss_one (ps_ret (pe_or (pe_def (d_is_numbers T) (hr.mono (by decide)) (pa_cons (pv 0) (pa_cons pe_int pa_nil))) (pe_one (pe_def (d_is_numbers T) (hr.mono (by decide)) (pa_cons (pv 0) (pa_cons pe_int pa_nil))))))), ?_⟩
    have q1 : ∀ H', Same H H' → Q (.bl (okN 1 d || okN 2 d)) H' := q
    refine ⟨_, rfl, v, d, 1, rfl, .inl rfl, hv, fun H1 s1 => ⟨_, rfl, ?_⟩⟩
    refine ite2 (fun h1 => q_yes (q1 H1 s1) h1) (fun h1 => ?_)
    exact ⟨_, rfl, v, d, 2, rfl, .inr rfl, dp_same s1 hv, fun H2 s2 => q_or (q1 H2 (s1.trans s2)) h1⟩
theorem h_is_any_numbers (T : Txt w K mg) : DefH P w K mg base CX0 4 "is_any_numbers" ["thing"] (sp_is_any_numbers K) := by
  obtain ⟨f, fd, F, m, b⟩ := T.a25
  refine ⟨f, fd, m, F.kp, b, okH F sc25 (fun vs H Q E h => ?_) (fun cdv A outer s H vs Q E p hr hc h => ?_)⟩
  · exact spJ_len vs H Q E h
  · have nd := sc25.nd
    have hu : (A.deeper (envOfC "is_any_numbers" (defScope (top 25)) s.heap.objs.size f cdv)).units + 64 < cLine := by have := hr.un; omega
    have hu1 : (A.deeper (envOfC "is_any_numbers" (defScope (top 25)) s.heap.objs.size f cdv)).units + 1 < cLine := by omega
    obtain ⟨v, d, rfl, hv, ok, q⟩ := h
    refine ⟨_, (pss_one (ps_ret (pe_or (pe_defH (h_is_numbers T) (hr.mono (by decide)) hc (pa_cons (pv 0) (pa_cons pe_int pa_nil))) (pe_one (pe_defH (h_is_numbers T) (hr.mono (by decide)) hc (pa_cons (pv 0) (pa_cons pe_int pa_nil))))))), ?_⟩
    have q1 : ∀ H', Same H H' → Q (.bl (okN 1 d || okN 2 d)) H' := q
    refine ⟨_, rfl, v, d, 1, rfl, .inl rfl, hv, fun H1 s1 => ⟨_, rfl, ?_⟩⟩
    refine ite2 (fun h1 => q_yes (q1 H1 s1) h1) (fun h1 => ?_)
    exact ⟨_, rfl, v, d, 2, rfl, .inr rfl, dp_same s1 hv, fun H2 s2 => q_or (q1 H2 (s1.trans s2)) h1⟩
end
end K75
set_option maxHeartbeats 2000000
/-! rules that the layer lacks, 2: a call of what a table holds -/
namespace K75
open PySem PySem.Spec PyProof.Rows L2 L2H
/-- a call of what an expression gives -/
def tCallV (R : Addr → Sp → Prop) (tc : TE) (t : TA) : TE := fun σ H Q => tc σ H fun x H1 => ∃ f sp, x = .ref f ∧ R f sp ∧ t σ H1 fun vs H2 => sp vs H2 Q E0
section
variable {X : Cx} {k : Nat} {R : Addr → Sp → Prop} {ea eb e : Expr} {es : List Expr} {p1 pos : Pos} {tc : TE} {t : TA}
theorem call_sub_eq {env : Env} {args : List Expr} : eval (.Call (.Subscript ea eb p1) args [] pos) env = (do callWith pos (← eval (.Subscript ea eb p1) env) [] (backTo pos (starEach args env)) (backToKw pos (keywordEach [] env))) := rfl
theorem pe_callV (hA : ∀ f sp, R f sp → ∃ fd ps, PySem.W.keepIn X.K (.ref f) = true ∧ Binds X.K fd ps [] ∧ FnOk X.prog X.w X.K X.mg X.base CX0 k f fd ps sp) (hr : Room k X.A) (hc : PE X (.Subscript ea eb p1) tc) (ha : PA X (e :: es) t)
    (he : starEach (e :: es) X.env = (false, eval e X.env) :: starEach es X.env := by rfl) (hpl : (backTo pos (starEach es X.env)).any (·.1) = false := by rfl) : PE X (.Call (.Subscript ea eb p1) (e :: es) [] pos) (tCallV R tc t) := by
  refine ⟨fun pins s σ H Q I h => ?_⟩
  rw [call_sub_eq]
  refine wpAny_bind (thn (hc.run pins s σ H _ I h) fun u s1 ⟨x, H1, I1, r1, f, sp, ex, hR, q⟩ => ?_)
  subst ex
  obtain rfl : u = Value.ref f := r1
  obtain ⟨fd, ps, kp, b, F⟩ := hA f sp hR
  refine PySem.W.callWith_K (h₀ := X.base) I1.ok.mod.kin kp (thn (ha.run pos pins s1 σ H1 _ I1 q) fun us s2 ⟨vs, H2, I2, r2, q2⟩ => ⟨I2.kIn, ?_⟩) he hpl
  refine run_fn (dvs := []) F hr b .nil pass0 I2 r2 ?_
  rw [List.append_nil]
  exact q2
theorem pe_callVH (hA : ∀ f sp, R f sp → ∃ fd ps, PySem.W.keepIn X.K (.ref f) = true ∧ Binds X.K fd ps [] ∧ FnH X.prog X.w X.K X.mg X.base CX0 k f fd ps sp) (hr : RoomH k X.A) (hc0 : HotC X) (hc : PE X (.Subscript ea eb p1) tc) (ha : PA X (e :: es) t)
    (he : starEach (e :: es) X.env = (false, eval e X.env) :: starEach es X.env := by rfl) (hpl : (backTo pos (starEach es X.env)).any (·.1) = false := by rfl) : PE X (.Call (.Subscript ea eb p1) (e :: es) [] pos) (tCallV R tc t) := by
  refine ⟨fun pins s σ H Q I h => ?_⟩
  rw [call_sub_eq]
  refine wpAny_bind (thn (hc.run pins s σ H _ I h) fun u s1 ⟨x, H1, I1, r1, f, sp, ex, hR, q⟩ => ?_)
  subst ex
  obtain rfl : u = Value.ref f := r1
  obtain ⟨fd, ps, kp, b, F⟩ := hA f sp hR
  refine PySem.W.callWith_K (h₀ := X.base) I1.ok.mod.kin kp (thn (ha.run pos pins s1 σ H1 _ I1 q) fun us s2 ⟨vs, H2, I2, r2, q2⟩ => ⟨I2.kIn, ?_⟩) he hpl
  exact run_fnH (E := fun _ => E0) F hr hc0 b pass0H I2 r2 q2
end
/-! ### the judges that the table holds -/
def RJ (K : PySem.W.Frag) (mg : Str → Option Value) (f : Addr) (sp : Sp) : Prop := ∃ kd, mg (fname kd) = some (.ref f) ∧ sp = spJ K (okK kd)
section
variable {P : Program} {w : World} {K : PySem.W.Frag} {mg : Str → Option Value} {base : Heap}
theorem def_at {k j : Nat} {x : Str} {ps : List Str} {sp : Sp} {f : Addr} (h : Def P w K mg base CX0 j x ps sp) (m : mg x = some (.ref f)) (hj : j ≤ k) : ∃ fd ps, PySem.W.keepIn K (.ref f) = true ∧ Binds K fd ps [] ∧ FnOk P w K mg base CX0 k f fd ps sp := by
  obtain ⟨f', fd, m', kp, b, F⟩ := h
  rw [m] at m'
  cases m'
  exact ⟨fd, ps, kp, b, F.mono hj⟩
theorem defH_at {k j : Nat} {x : Str} {ps : List Str} {sp : Sp} {f : Addr} (h : DefH P w K mg base CX0 j x ps sp) (m : mg x = some (.ref f)) (hj : j ≤ k) : ∃ fd ps, PySem.W.keepIn K (.ref f) = true ∧ Binds K fd ps [] ∧ FnH P w K mg base CX0 k f fd ps sp := by
  obtain ⟨f', fd, m', kp, b, F⟩ := h
  rw [m] at m'
  cases m'
  exact ⟨fd, ps, kp, b, F.len, fun A outer s H args us vs Q E p hr => F.run A outer s H args us vs Q E p (hr.mono hj)⟩
theorem held (T : Txt w K mg) : ∀ f sp, RJ K mg f sp → ∃ fd ps, PySem.W.keepIn K (.ref f) = true ∧ Binds K fd ps [] ∧ FnOk P w K mg base CX0 4 f fd ps sp := by
  rintro f sp ⟨kd, m, rfl⟩
  cases kd with
  | name => exact def_at (d_is_name T) m (by decide)
  | row => exact def_at (d_is_rowname T) m (by decide)
  | width => exact def_at (d_is_width T) m (by decide)
  | most => exact def_at (d_is_most T) m (by decide)
  | nums => exact def_at (d_is_any_numbers T) m (by decide)
  | place => exact def_at (d_is_place T) m (by decide)
  | step => exact def_at (d_is_step T) m (by decide)
  | src => exact def_at (d_is_source T) m (by decide)
  | sgn => exact def_at (d_is_sign T) m (by decide)
  | bound => exact def_at (d_is_bound T) m (by decide)
theorem heldH (T : Txt w K mg) : ∀ f sp, RJ K mg f sp → ∃ fd ps, PySem.W.keepIn K (.ref f) = true ∧ Binds K fd ps [] ∧ FnH P w K mg base CX0 4 f fd ps sp := by
  rintro f sp ⟨kd, m, rfl⟩
  cases kd with
  | name => exact defH_at (h_is_name T) m (by decide)
  | row => exact defH_at (h_is_rowname T) m (by decide)
  | width => exact defH_at (h_is_width T) m (by decide)
  | most => exact defH_at (h_is_most T) m (by decide)
  | nums => exact defH_at (h_is_any_numbers T) m (by decide)
  | place => exact defH_at (h_is_place T) m (by decide)
  | step => exact defH_at (h_is_step T) m (by decide)
  | src => exact defH_at (h_is_source T) m (by decide)
  | sgn => exact defH_at (h_is_sign T) m (by decide)
  | bound => exact defH_at (h_is_bound T) m (by decide)
end
end K75
set_option maxHeartbeats 2000000
/-! k75: the form of store deeds -/
namespace K75
open PySem PySem.Spec PyProof.Rows L2 L2H
def okF : PyData → Prop
  | .tuple ds => (∀ e ∈ ds, okT e) ∧ ∀ w ps, ds = .str w :: ps → kds w ≠ none ∨ w = "mak"
  | _ => True
theorem dpAll_get {K : PySem.W.Frag} {H : Hp} : ∀ {xs : List V} {ds : List PyData}, DpAll K H xs ds → ∀ {i : Nat} {d : PyData}, ds[i]? = some d → ∃ v, xs[i]? = some v ∧ Dp K H v d
  | _, _, .nil, i, d, h => by simp at h
  | _, _, .cons p q, 0, d, h => by cases h; exact ⟨_, rfl, p⟩
  | _, _, .cons p q, i + 1, d, h => by
    obtain ⟨v, a, b⟩ := dpAll_get q (i := i) (d := d) (by simpa using h)
    exact ⟨v, by simpa using a, b⟩
theorem kds_mem {w : Str} {ks : List Kd} (h : kds w = some ks) : (w, ks) ∈ words12 := by
  unfold kds at h
  have : ∀ {l : List (Str × List Kd)}, l.lookup w = some ks → (w, ks) ∈ l := by
    intro l
    induction l with
    | nil => intro h; cases h
    | cons p r ih =>
      obtain ⟨a, b⟩ := p
      intro h
      rw [List.lookup_cons] at h
      by_cases e : (w == a) = true
      · rw [e] at h
        have e1 := eq_of_beq e
        subst e1
        have e2 : b = ks := by simpa using h
        subst e2
        exact List.mem_cons_self ..
      · have e' : (w == a) = false := by simpa using e
        rw [e'] at h
        exact List.mem_cons_of_mem _ (ih h)
  exact this h
theorem word_mak : kds "mak" = none := by decide +kernel
theorem len12 (x : Str) (ks : List Kd) (h : (x, ks) ∈ words12) : ks.length ≤ 7 ∧ x.length ≤ 10 := by
  have e : words12.all (fun p => decide (p.2.length ≤ 7) && decide (p.1.length ≤ 10)) = true := by decide +kernel
  have q := List.all_eq_true.mp e _ h
  rw [Bool.and_eq_true, decide_eq_true_eq, decide_eq_true_eq] at q
  exact q
theorem clear3 : kds "clear" = some [.name, .bound, .bound] := by decide +kernel
theorem str_eq (a b : Str) : decide (V.str a = V.str b) = decide (a = b) := by
  by_cases e : a = b
  · rw [e]; simp
  · rw [decide_eq_false e]; exact decide_eq_false fun z => e (V.str.inj z)
theorem int_eq (a b : Int) : decide (V.int a = V.int b) = decide (a = b) := by
  by_cases e : a = b
  · rw [e]; simp
  · rw [decide_eq_false e]; exact decide_eq_false fun z => e (V.int.inj z)
section
variable {P : Program} {w : World} {K : PySem.W.Frag} {mg : Str → Option Value} {base : Heap}
theorem Forms.dct {D : Addr} (F : Forms w K mg D) {x : Str} {u : Value} {v : V} (h : PySem.W.nsIn K D x = some (some u)) (r : RelV v u) : KDct K w D x v := by
  obtain ⟨es, n, k⟩ := F.kd
  exact ⟨es, n, u, k.at_, k.lit, h, r⟩
abbrev ns_first_bad : List Str := ["thing", "forms", "index"]
theorem sc31 : FnScope ["thing", "forms", "index"] ["thing"] (defScope (top 31)) := ⟨rfl, rfl, rfl, by decide +kernel, rfl, by decide +kernel, by decide +kernel⟩
def sp_first_bad (K : PySem.W.Frag) : Sp := fun vs H Q _ => ∃ v d, vs = [v] ∧ Dp K H v d ∧ okF d ∧ ∀ H', Same H H' → Q (.int (firstBad d)) H'
theorem d_first_bad (T : Txt w K mg) : Def P w K mg base CX0 5 "first_bad" ["thing"] (sp_first_bad K) := by
  obtain ⟨f, fd, F, m, b⟩ := T.a31
  refine ⟨f, fd, m, F.kp, b, F.ok sc31 (fun vs H Q E h => ?_) (fun cdv A outer s H vs Q E hr h => ?_)⟩
  · obtain ⟨v, d, rfl, _⟩ := h; rfl
  · have nd := sc31.nd
    have hu := hr.units
    have hu1 : (A.deeper (envOfC "first_bad" (defScope (top 31)) s.heap.objs.size f cdv)).units + 1 < cLine := by omega
    obtain ⟨v, d, rfl, hv, ok, q⟩ := h
    obtain ⟨D, mD, FD⟩ := T.forms
    obtain ⟨es, nD, kD⟩ := FD.kd
    refine ⟨_, (pss_cons (ps_if (PW.pt (pw_or (pt_not (pt_val (pe_callB call_isi (by rfl) T.b.isinstance (by decide +kernel) (pa_cons (pv 0) (pa_cons (pe_bltn (v := .ty "tuple") (by rfl) T.b.tuple (by decide +kernel) rfl) pa_nil))))) (pw_or (pt_cmpR op_eq (pe_callB call_len (by rfl) T.b.len (by decide +kernel) (pa_cons (pv 0) pa_nil)) pe_int (nomark _)) (pw_or (pt_not (pt_val (pe_callB call_isi (by rfl) T.b.isinstance (by decide +kernel) (pa_cons (pe_ix ix_tup (pv 0) pe_int (fun _ _ => rfl)) (pa_cons (pe_bltn (v := .ty "str") (by rfl) T.b.str (by decide +kernel) rfl) pa_nil))))) (pw_or1 (pt_cmpR (op_notIn_kd kD) (pe_ix ix_tup (pv 0) pe_int (fun _ _ => rfl)) (pe_glob (v := .ref D) (by rfl) mD rfl) rfl)))))) (pss_one (ps_ret pe_int)) pss_nil)
      (pss_cons (ps_set (i := 1) nd rfl (Or.inl rfl) (pe_ix ix_kdict (pe_glob (v := .ref D) (by rfl) mD rfl) (pe_ix ix_tup (pv 0) pe_int (fun _ _ => rfl)) (fun _ _ => rfl)))
      (pss_cons (ps_if (pt_cmpR op_ne (pe_callB call_len (by rfl) T.b.len (by decide +kernel) (pa_cons (pv 0) pa_nil)) (pe_op op_add (pe_callB call_len (by rfl) T.b.len (by decide +kernel) (pa_cons (pv 1) pa_nil)) pe_int) (nomark _)) (pss_one (ps_ret pe_int)) pss_nil)
      (pss_cons (ps_for PassesOwn.never rfl (pi_range1 (by rfl) T.b.range (pa_cons (pe_callB call_len (by rfl) T.b.len (by decide +kernel) (pa_cons (pv 1) pa_nil)) pa_nil)) (pg_name (i := 2) nd rfl (Or.inl rfl)) (pss_one (ps_if (pt_not (pt_val (pe_callV (held T) (hr.mono (by decide)) (pe_ix ix_tup (pv 1) (pv 2) (fun _ _ => rfl)) (pa_cons (pe_ix ix_tup (pv 0) (pe_op op_add (pv 2) pe_int) (fun _ _ => rfl)) pa_nil)))) (pss_one (ps_ret (pe_op op_add (pv 2) pe_int))) pss_nil)))
      (pss_cons (ps_if (PW.pt (pw_and (pt_cmpR op_eq (pe_ix ix_tup (pv 0) pe_int (fun _ _ => rfl)) pe_str (nomark _)) (pw_and (pt_cmpR op_notN (pe_ix ix_tup (pv 0) pe_int (fun _ _ => rfl)) pe_non (nomark _)) (pw_and (pt_cmpR op_notN (pe_ix ix_tup (pv 0) pe_int (fun _ _ => rfl)) pe_non (nomark _)) (pw_and1 (pt_cmpR op_ge_str (pe_ix ix_tup (pv 0) pe_int (fun _ _ => rfl)) (pe_ix ix_tup (pv 0) pe_int (fun _ _ => rfl)) (nomark _))))))) (pss_one (ps_ret pe_int)) pss_nil)
      (pss_one (ps_ret (pe_un un_neg pe_int)))))))), ?_⟩
    refine ⟨_, rfl, _, _, _, _, _, rfl, .ty _, tyX_of hv, kitT d, _, rfl, ?_⟩
    cases hv with
    | non => exact iteT (q H (Same.refl _))
    | bl b => exact iteT (q H (Same.refl _))
    | int b => exact iteT (q H (Same.refl _))
    | str b => exact iteT (q H (Same.refl _))
    | lst a b => exact iteT (q H (Same.refl _))
    | @tup a xs ds hs ha =>
      refine iteF ⟨_, rfl, _, xs.length, rfl, .inr ⟨xs, hs, rfl⟩, rfl, _, rfl, ?_⟩
      cases ha with
      | nil => exact iteT (q H (Same.refl _))
      | @cons v0 vr d0 ps h0 hr0 =>
        rw [int_eq, decide_eq_false (by rw [List.length_cons]; omega)]
        refine iteF ⟨_, rfl, a, _, 0, v0, rfl, rfl, hs, at_of (j := 0) rfl rfl, _, _, _, _, _, rfl, .ty _, tyX_of h0, kitS d0, _, rfl, ?_⟩
        cases h0 with
        | non => exact iteT (q H (Same.refl _))
        | bl b => exact iteT (q H (Same.refl _))
        | int b => exact iteT (q H (Same.refl _))
        | lst a b => exact iteT (q H (Same.refl _))
        | tup a b => exact iteT (q H (Same.refl _))
        | str x =>
          refine iteF ⟨_, rfl, a, _, 0, .str x, rfl, rfl, hs, at_of (j := 0) rfl rfl, x, ?_⟩
          have q1 : ∀ H', Same H H' → Q (.int (badPs x ps)) H' := q
          have okW := ok.2 x ps rfl
          cases hk : kds x with
          | none =>
            have hm : x = "mak" := okW.resolve_left (fun z => z hk)
            refine ⟨none, rfl, rfl, (by rw [hm]; exact FD.no), _, rfl, iteT ?_⟩
            have q2 := q1 H (Same.refl _)
            unfold badPs at q2
            rw [hk] at q2
            exact q2
          | some ks =>
            obtain ⟨t, fs, ht, hfs, hfl, hfn⟩ := FD.yes x ks (kds_mem hk)
            have l12 := len12 x ks (kds_mem hk)
            refine ⟨some (.ref t), rfl, rfl, ht, _, rfl, iteF ?_⟩
            refine ⟨_, rfl, a, _, 0, .str x, rfl, rfl, hs, at_of (j := 0) rfl rfl, D, x, .ref t, rfl, rfl, FD.dct ht rfl, ?_⟩
            refine ⟨_, rfl, _, (V.str x :: vr).length, rfl, .inr ⟨_, hs, rfl⟩, _, rfl, _, (fs.map V.ref).length, rfl, .inr ⟨_, hfs _, rfl⟩, _, _, rfl, rfl, rfl, _, rfl, ?_⟩
            have hvl : vr.length = ps.length := dpAll_len hr0
            have hne : (!decide (V.int ((V.str x :: vr).length : Int) = V.int (((fs.map V.ref).length : Int) + 1))) = !decide (ps.length = ks.length) := by
              rw [int_eq, List.length_cons, List.length_map, hvl, hfl]
              by_cases e : ps.length = ks.length
              · rw [decide_eq_true e, decide_eq_true (by omega)]
              · rw [decide_eq_false e, decide_eq_false (by omega)]
            rw [hne]
            have qv : badPs x ps = if ps.length = ks.length then (if 0 ≤ badAux ks ps 1 then badAux ks ps 1 else if x = "clear" ∧ flat2 ps = true then 3 else -1) else 0 := by
              unfold badPs
              rw [hk]
            rw [qv] at q1
            by_cases hl : ps.length = ks.length
            · rw [decide_eq_true hl]
              rw [if_pos hl] at q1
              refine iteF ?_
              refine ⟨_, rfl, _, (fs.map V.ref).length, rfl, .inr ⟨_, hfs _, rfl⟩, (((fs.map V.ref).length : Nat) : Int), rfl, by omega, by rw [List.length_map, hfl]; omega, ?_⟩
              refine for_range (lo := 0) (fun i σ H' => (∃ u, σ = [some (.ref a), some (.ref t), u]) ∧ Same H H' ∧ ∀ m < i, ∀ k d, ks[m]? = some k → ps[m]? = some d → okK k d = true) ⟨⟨none, rfl⟩, Same.refl _, fun m hm => absurd hm (Nat.not_lt_zero _)⟩ ?_ ?_
              · rintro i σ H1 hi ⟨⟨u, rfl⟩, s1, hall⟩
                have hi' : i < ks.length := by
                  have : i < (fs.map V.ref).length := by simpa using hi
                  rw [List.length_map, hfl] at this
                  exact this
                obtain ⟨k0, hk0⟩ : ∃ k0, ks[i]? = some k0 := ⟨_, List.getElem?_eq_getElem hi'⟩
                obtain ⟨f0, hf0⟩ : ∃ f0, fs[i]? = some f0 := ⟨_, List.getElem?_eq_getElem (by rw [hfl]; exact hi')⟩
                obtain ⟨d0, hd0⟩ : ∃ d0, ps[i]? = some d0 := ⟨_, List.getElem?_eq_getElem (by rw [hl]; exact hi')⟩
                obtain ⟨v0, hv0, hd⟩ := dpAll_get hr0 hd0
                refine ⟨_, rfl, _, rfl, t, _, _, .ref f0, rfl, rfl, hfs _, at_of (j := i) (by simp) (by rw [List.getElem?_map, hf0]; rfl), f0, _, rfl, ⟨k0, hfn i k0 f0 hk0 hf0, rfl⟩, ?_⟩
                refine ⟨_, rfl, _, rfl, _, _, rfl, rfl, a, _, _, v0, rfl, rfl, Same.sqT s1 hs, at_of (j := i + 1) (by simp) (by simpa using hv0), v0, d0, rfl, dp_same s1 hd, ok.1 d0 (List.mem_cons_of_mem _ (List.mem_of_getElem? hd0)), fun H2 s2 => ⟨_, rfl, ?_⟩⟩
                cases hj : okK k0 d0 with
                | false =>
                  refine iteT ⟨_, rfl, _, _, rfl, rfl, ?_⟩
                  have e := badAux_at (ks := ks) (ds := ps) 1 i k0 d0 hk0 hd0 hj hall
                  have q2 := q1 H2 (s1.trans s2)
                  rw [e, if_pos (by omega)] at q2
                  have e2 : (1 : Int) + (i : Int) = 0 + (i : Int) + 1 := by omega
                  rw [e2] at q2
                  exact q2
                | true =>
                  refine iteF ⟨⟨_, rfl⟩, s1.trans s2, fun m hm k d h1 h2 => ?_⟩
                  by_cases e : m = i
                  · subst e
                    rw [hk0] at h1
                    rw [hd0] at h2
                    cases h1
                    cases h2
                    exact hj
                  · exact hall m (by omega) k d h1 h2
              · rintro σ H1 ⟨⟨u, rfl⟩, s1, hall⟩
                have hn : ¬ 0 ≤ badAux ks ps 1 := by
                  have hall' : allOk ks ps = true := by
                    have : ∀ {ks : List Kd} {ps : List PyData}, ps.length = ks.length → (∀ (m : Nat) k d, ks[m]? = some k → ps[m]? = some d → okK k d = true) → allOk ks ps = true := by
                      intro ks
                      induction ks with
                      | nil =>
                        intro ps hl _
                        cases ps with
                        | nil => rfl
                        | cons a b => cases hl
                      | cons k r ih =>
                        intro ps hl h
                        cases ps with
                        | nil => cases hl
                        | cons d ps =>
                          show (okK k d && allOk r ps) = true
                          rw [h 0 k d rfl rfl, ih (Nat.succ.inj hl) fun m k d a b => h (m + 1) k d a b]
                          rfl
                    refine this hl fun m k d h1 h2 => hall m ?_ k d h1 h2
                    have := (List.getElem?_eq_some_iff.mp h1).1
                    simpa [hfl] using this
                  rw [badAux_ok 1 hl hall']
                  decide
                rw [if_neg hn] at q1
                refine ⟨_, rfl, a, _, 0, .str x, rfl, rfl, Same.sqT s1 hs, at_of (j := 0) rfl rfl, rfl, _, rfl, ?_⟩
                rw [str_eq]
                by_cases hx : x = "clear"
                · rw [decide_eq_true hx]
                  rw [hx, clear3] at hk
                  cases hk
                  obtain ⟨d1, d2, d3, rfl⟩ : ∃ d1 d2 d3, ps = [d1, d2, d3] := by
                    match ps, hl with
                    | [d1, d2, d3], _ => exact ⟨d1, d2, d3, rfl⟩
                  obtain ⟨v1, r1, rfl, hv1, ha1⟩ : ∃ v1 r1, vr = v1 :: r1 ∧ Dp K H v1 d1 ∧ DpAll K H r1 [d2, d3] := by
                    cases hr0 with
                    | cons p q => exact ⟨_, _, rfl, p, q⟩
                  obtain ⟨v2, v3, rfl, hv2, hv3⟩ := dpAll2 ha1
                  have k2 := hall 1 (by simp [hfl]) .bound d2 rfl rfl
                  have k3 := hall 2 (by simp [hfl]) .bound d3 rfl rfl
                  refine iteT ⟨_, rfl, a, _, 2, v2, rfl, rfl, Same.sqT s1 hs, at_of (j := 2) rfl rfl, rfl, _, rfl, ?_⟩
                  have fin : ∀ b, flat2 [d1, d2, d3] = b → Q (.int (if b = true then 3 else -1)) H1 := fun b hb => by
                    have q2 := q1 H1 s1
                    rw [hb] at q2
                    have e : (if x = "clear" ∧ b = true then (3 : Int) else -1) = if b = true then 3 else -1 := by
                      cases b <;> simp [hx]
                    rw [e] at q2
                    exact q2
                  rcases okBd_cases k2 with rfl | ⟨y2, rfl, _⟩
                  · cases hv2
                    exact iteF ⟨1, rfl, fin false rfl⟩
                  · cases hv2
                    refine iteT ⟨_, rfl, a, _, 3, v3, rfl, rfl, Same.sqT s1 hs, at_of (j := 3) rfl rfl, rfl, _, rfl, ?_⟩
                    rcases okBd_cases k3 with rfl | ⟨y3, rfl, _⟩
                    · cases hv3
                      exact iteF ⟨1, rfl, fin false rfl⟩
                    · cases hv3
                      refine iteT ⟨_, rfl, a, _, 2, .str y2, rfl, rfl, Same.sqT s1 hs, at_of (j := 2) rfl rfl, _, rfl, a, _, 3, .str y3, rfl, rfl, Same.sqT s1 hs, at_of (j := 3) rfl rfl, y2, y3, rfl, rfl, _, rfl, ?_⟩
                      refine ite2 (fun h1 => ?_) (fun h1 => ?_)
                      · exact fin true h1
                      · refine ⟨1, rfl, fin false ?_⟩
                        have : (!decide (tl y2 < tl y3)) = false := by
                          cases hq : (!decide (tl y2 < tl y3)) with
                          | false => rfl
                          | true => exact absurd hq h1
                        exact this
                · rw [decide_eq_false hx]
                  refine iteF ⟨1, rfl, ?_⟩
                  have q2 := q1 H1 s1
                  rw [if_neg (fun z => hx z.1)] at q2
                  exact q2
            · rw [decide_eq_false hl]
              rw [if_neg hl] at q1
              exact iteT (q1 H (Same.refl _))
theorem h_first_bad (T : Txt w K mg) : DefH P w K mg base CX0 5 "first_bad" ["thing"] (sp_first_bad K) := by
  obtain ⟨f, fd, F, m, b⟩ := T.a31
  refine ⟨f, fd, m, F.kp, b, okH F sc31 (fun vs H Q E h => ?_) (fun cdv A outer s H vs Q E p hr hc h => ?_)⟩
  · obtain ⟨v, d, rfl, _⟩ := h; rfl
  · have nd := sc31.nd
    have hu : (A.deeper (envOfC "first_bad" (defScope (top 31)) s.heap.objs.size f cdv)).units + 64 < cLine := by have := hr.un; omega
    have hu1 : (A.deeper (envOfC "first_bad" (defScope (top 31)) s.heap.objs.size f cdv)).units + 1 < cLine := by omega
    obtain ⟨v, d, rfl, hv, ok, q⟩ := h
    obtain ⟨D, mD, FD⟩ := T.forms
    obtain ⟨es, nD, kD⟩ := FD.kd
    refine ⟨_, (pss_cons (ps_if (PW.pt (pw_or (pt_not (pt_val (pe_callB call_isi (by rfl) T.b.isinstance (by decide +kernel) (pa_cons (pv 0) (pa_cons (pe_bltn (v := .ty "tuple") (by rfl) T.b.tuple (by decide +kernel) rfl) pa_nil))))) (pw_or (pt_cmpR op_eq (pe_callB call_len (by rfl) T.b.len (by decide +kernel) (pa_cons (pv 0) pa_nil)) pe_int (nomark _)) (pw_or (pt_not (pt_val (pe_callB call_isi (by rfl) T.b.isinstance (by decide +kernel) (pa_cons (pe_ix ix_tup (pv 0) pe_int (fun _ _ => rfl)) (pa_cons (pe_bltn (v := .ty "str") (by rfl) T.b.str (by decide +kernel) rfl) pa_nil))))) (pw_or1 (pt_cmpR (op_notIn_kd kD) (pe_ix ix_tup (pv 0) pe_int (fun _ _ => rfl)) (pe_glob (v := .ref D) (by rfl) mD rfl) rfl)))))) (pss_one (ps_ret pe_int)) pss_nil)
      (pss_cons (ps_set (i := 1) nd rfl (Or.inl rfl) (pe_ix ix_kdict (pe_glob (v := .ref D) (by rfl) mD rfl) (pe_ix ix_tup (pv 0) pe_int (fun _ _ => rfl)) (fun _ _ => rfl)))
      (pss_cons (ps_if (pt_cmpR op_ne (pe_callB call_len (by rfl) T.b.len (by decide +kernel) (pa_cons (pv 0) pa_nil)) (pe_op op_add (pe_callB call_len (by rfl) T.b.len (by decide +kernel) (pa_cons (pv 1) pa_nil)) pe_int) (nomark _)) (pss_one (ps_ret pe_int)) pss_nil)
      (pss_cons (ps_forH PassesOwn.never hc (pi_range1H (by rfl) T.b.range (pa_cons (pe_callB call_len (by rfl) T.b.len (by decide +kernel) (pa_cons (pv 1) pa_nil)) pa_nil)) (pg_name (i := 2) nd rfl (Or.inl rfl)) (pss_one (ps_if (pt_not (pt_val (pe_callVH (heldH T) (hr.mono (by decide)) hc (pe_ix ix_tup (pv 1) (pv 2) (fun _ _ => rfl)) (pa_cons (pe_ix ix_tup (pv 0) (pe_op op_add (pv 2) pe_int) (fun _ _ => rfl)) pa_nil)))) (pss_one (ps_ret (pe_op op_add (pv 2) pe_int))) pss_nil)))
      (pss_cons (ps_if (PW.pt (pw_and (pt_cmpR op_eq (pe_ix ix_tup (pv 0) pe_int (fun _ _ => rfl)) pe_str (nomark _)) (pw_and (pt_cmpR op_notN (pe_ix ix_tup (pv 0) pe_int (fun _ _ => rfl)) pe_non (nomark _)) (pw_and (pt_cmpR op_notN (pe_ix ix_tup (pv 0) pe_int (fun _ _ => rfl)) pe_non (nomark _)) (pw_and1 (pt_cmpR op_ge_str (pe_ix ix_tup (pv 0) pe_int (fun _ _ => rfl)) (pe_ix ix_tup (pv 0) pe_int (fun _ _ => rfl)) (nomark _))))))) (pss_one (ps_ret pe_int)) pss_nil)
      (pss_one (ps_ret (pe_un un_neg pe_int)))))))), ?_⟩
    refine ⟨_, rfl, _, _, _, _, _, rfl, .ty _, tyX_of hv, kitT d, _, rfl, ?_⟩
    cases hv with
    | non => exact iteT (q H (Same.refl _))
    | bl b => exact iteT (q H (Same.refl _))
    | int b => exact iteT (q H (Same.refl _))
    | str b => exact iteT (q H (Same.refl _))
    | lst a b => exact iteT (q H (Same.refl _))
    | @tup a xs ds hs ha =>
      refine iteF ⟨_, rfl, _, xs.length, rfl, .inr ⟨xs, hs, rfl⟩, rfl, _, rfl, ?_⟩
      cases ha with
      | nil => exact iteT (q H (Same.refl _))
      | @cons v0 vr d0 ps h0 hr0 =>
        rw [int_eq, decide_eq_false (by rw [List.length_cons]; omega)]
        refine iteF ⟨_, rfl, a, _, 0, v0, rfl, rfl, hs, at_of (j := 0) rfl rfl, _, _, _, _, _, rfl, .ty _, tyX_of h0, kitS d0, _, rfl, ?_⟩
        cases h0 with
        | non => exact iteT (q H (Same.refl _))
        | bl b => exact iteT (q H (Same.refl _))
        | int b => exact iteT (q H (Same.refl _))
        | lst a b => exact iteT (q H (Same.refl _))
        | tup a b => exact iteT (q H (Same.refl _))
        | str x =>
          refine iteF ⟨_, rfl, a, _, 0, .str x, rfl, rfl, hs, at_of (j := 0) rfl rfl, x, ?_⟩
          have q1 : ∀ H', Same H H' → Q (.int (badPs x ps)) H' := q
          have okW := ok.2 x ps rfl
          cases hk : kds x with
          | none =>
            have hm : x = "mak" := okW.resolve_left (fun z => z hk)
            refine ⟨none, rfl, rfl, (by rw [hm]; exact FD.no), _, rfl, iteT ?_⟩
            have q2 := q1 H (Same.refl _)
            unfold badPs at q2
            rw [hk] at q2
            exact q2
          | some ks =>
            obtain ⟨t, fs, ht, hfs, hfl, hfn⟩ := FD.yes x ks (kds_mem hk)
            have l12 := len12 x ks (kds_mem hk)
            refine ⟨some (.ref t), rfl, rfl, ht, _, rfl, iteF ?_⟩
            refine ⟨_, rfl, a, _, 0, .str x, rfl, rfl, hs, at_of (j := 0) rfl rfl, D, x, .ref t, rfl, rfl, FD.dct ht rfl, ?_⟩
            refine ⟨_, rfl, _, (V.str x :: vr).length, rfl, .inr ⟨_, hs, rfl⟩, _, rfl, _, (fs.map V.ref).length, rfl, .inr ⟨_, hfs _, rfl⟩, _, _, rfl, rfl, rfl, _, rfl, ?_⟩
            have hvl : vr.length = ps.length := dpAll_len hr0
            have hne : (!decide (V.int ((V.str x :: vr).length : Int) = V.int (((fs.map V.ref).length : Int) + 1))) = !decide (ps.length = ks.length) := by
              rw [int_eq, List.length_cons, List.length_map, hvl, hfl]
              by_cases e : ps.length = ks.length
              · rw [decide_eq_true e, decide_eq_true (by omega)]
              · rw [decide_eq_false e, decide_eq_false (by omega)]
            rw [hne]
            have qv : badPs x ps = if ps.length = ks.length then (if 0 ≤ badAux ks ps 1 then badAux ks ps 1 else if x = "clear" ∧ flat2 ps = true then 3 else -1) else 0 := by
              unfold badPs
              rw [hk]
            rw [qv] at q1
            by_cases hl : ps.length = ks.length
            · rw [decide_eq_true hl]
              rw [if_pos hl] at q1
              refine iteF ?_
              refine ⟨_, rfl, _, (fs.map V.ref).length, rfl, .inr ⟨_, hfs _, rfl⟩, (((fs.map V.ref).length : Nat) : Int), rfl, by omega, by rw [List.length_map, hfl]; omega, ?_⟩
              refine for_range (lo := 0) (fun i σ H' => (∃ u, σ = [some (.ref a), some (.ref t), u]) ∧ Same H H' ∧ ∀ m < i, ∀ k d, ks[m]? = some k → ps[m]? = some d → okK k d = true) ⟨⟨none, rfl⟩, Same.refl _, fun m hm => absurd hm (Nat.not_lt_zero _)⟩ ?_ ?_
              · rintro i σ H1 hi ⟨⟨u, rfl⟩, s1, hall⟩
                have hi' : i < ks.length := by
                  have : i < (fs.map V.ref).length := by simpa using hi
                  rw [List.length_map, hfl] at this
                  exact this
                obtain ⟨k0, hk0⟩ : ∃ k0, ks[i]? = some k0 := ⟨_, List.getElem?_eq_getElem hi'⟩
                obtain ⟨f0, hf0⟩ : ∃ f0, fs[i]? = some f0 := ⟨_, List.getElem?_eq_getElem (by rw [hfl]; exact hi')⟩
                obtain ⟨d0, hd0⟩ : ∃ d0, ps[i]? = some d0 := ⟨_, List.getElem?_eq_getElem (by rw [hl]; exact hi')⟩
                obtain ⟨v0, hv0, hd⟩ := dpAll_get hr0 hd0
                refine ⟨_, rfl, _, rfl, t, _, _, .ref f0, rfl, rfl, hfs _, at_of (j := i) (by simp) (by rw [List.getElem?_map, hf0]; rfl), f0, _, rfl, ⟨k0, hfn i k0 f0 hk0 hf0, rfl⟩, ?_⟩
                refine ⟨_, rfl, _, rfl, _, _, rfl, rfl, a, _, _, v0, rfl, rfl, Same.sqT s1 hs, at_of (j := i + 1) (by simp) (by simpa using hv0), v0, d0, rfl, dp_same s1 hd, ok.1 d0 (List.mem_cons_of_mem _ (List.mem_of_getElem? hd0)), fun H2 s2 => ⟨_, rfl, ?_⟩⟩
                cases hj : okK k0 d0 with
                | false =>
                  refine iteT ⟨_, rfl, _, _, rfl, rfl, ?_⟩
                  have e := badAux_at (ks := ks) (ds := ps) 1 i k0 d0 hk0 hd0 hj hall
                  have q2 := q1 H2 (s1.trans s2)
                  rw [e, if_pos (by omega)] at q2
                  have e2 : (1 : Int) + (i : Int) = 0 + (i : Int) + 1 := by omega
                  rw [e2] at q2
                  exact q2
                | true =>
                  refine iteF ⟨⟨_, rfl⟩, s1.trans s2, fun m hm k d h1 h2 => ?_⟩
                  by_cases e : m = i
                  · subst e
                    rw [hk0] at h1
                    rw [hd0] at h2
                    cases h1
                    cases h2
                    exact hj
                  · exact hall m (by omega) k d h1 h2
              · rintro σ H1 ⟨⟨u, rfl⟩, s1, hall⟩
                have hn : ¬ 0 ≤ badAux ks ps 1 := by
                  have hall' : allOk ks ps = true := by
                    have : ∀ {ks : List Kd} {ps : List PyData}, ps.length = ks.length → (∀ (m : Nat) k d, ks[m]? = some k → ps[m]? = some d → okK k d = true) → allOk ks ps = true := by
                      intro ks
                      induction ks with
                      | nil =>
                        intro ps hl _
                        cases ps with
                        | nil => rfl
                        | cons a b => cases hl
                      | cons k r ih =>
                        intro ps hl h
                        cases ps with
                        | nil => cases hl
                        | cons d ps =>
                          show (okK k d && allOk r ps) = true
                          rw [h 0 k d rfl rfl, ih (Nat.succ.inj hl) fun m k d a b => h (m + 1) k d a b]
                          rfl
                    refine this hl fun m k d h1 h2 => hall m ?_ k d h1 h2
                    have := (List.getElem?_eq_some_iff.mp h1).1
                    simpa [hfl] using this
                  rw [badAux_ok 1 hl hall']
                  decide
                rw [if_neg hn] at q1
                refine ⟨_, rfl, a, _, 0, .str x, rfl, rfl, Same.sqT s1 hs, at_of (j := 0) rfl rfl, rfl, _, rfl, ?_⟩
                rw [str_eq]
                by_cases hx : x = "clear"
                · rw [decide_eq_true hx]
                  rw [hx, clear3] at hk
                  cases hk
                  obtain ⟨d1, d2, d3, rfl⟩ : ∃ d1 d2 d3, ps = [d1, d2, d3] := by
                    match ps, hl with
                    | [d1, d2, d3], _ => exact ⟨d1, d2, d3, rfl⟩
                  obtain ⟨v1, r1, rfl, hv1, ha1⟩ : ∃ v1 r1, vr = v1 :: r1 ∧ Dp K H v1 d1 ∧ DpAll K H r1 [d2, d3] := by
                    cases hr0 with
                    | cons p q => exact ⟨_, _, rfl, p, q⟩
                  obtain ⟨v2, v3, rfl, hv2, hv3⟩ := dpAll2 ha1
                  have k2 := hall 1 (by simp [hfl]) .bound d2 rfl rfl
                  have k3 := hall 2 (by simp [hfl]) .bound d3 rfl rfl
                  refine iteT ⟨_, rfl, a, _, 2, v2, rfl, rfl, Same.sqT s1 hs, at_of (j := 2) rfl rfl, rfl, _, rfl, ?_⟩
                  have fin : ∀ b, flat2 [d1, d2, d3] = b → Q (.int (if b = true then 3 else -1)) H1 := fun b hb => by
                    have q2 := q1 H1 s1
                    rw [hb] at q2
                    have e : (if x = "clear" ∧ b = true then (3 : Int) else -1) = if b = true then 3 else -1 := by
                      cases b <;> simp [hx]
                    rw [e] at q2
                    exact q2
                  rcases okBd_cases k2 with rfl | ⟨y2, rfl, _⟩
                  · cases hv2
                    exact iteF ⟨1, rfl, fin false rfl⟩
                  · cases hv2
                    refine iteT ⟨_, rfl, a, _, 3, v3, rfl, rfl, Same.sqT s1 hs, at_of (j := 3) rfl rfl, rfl, _, rfl, ?_⟩
                    rcases okBd_cases k3 with rfl | ⟨y3, rfl, _⟩
                    · cases hv3
                      exact iteF ⟨1, rfl, fin false rfl⟩
                    · cases hv3
                      refine iteT ⟨_, rfl, a, _, 2, .str y2, rfl, rfl, Same.sqT s1 hs, at_of (j := 2) rfl rfl, _, rfl, a, _, 3, .str y3, rfl, rfl, Same.sqT s1 hs, at_of (j := 3) rfl rfl, y2, y3, rfl, rfl, _, rfl, ?_⟩
                      refine ite2 (fun h1 => ?_) (fun h1 => ?_)
                      · exact fin true h1
                      · refine ⟨1, rfl, fin false ?_⟩
                        have : (!decide (tl y2 < tl y3)) = false := by
                          cases hq : (!decide (tl y2 < tl y3)) with
                          | false => rfl
                          | true => exact absurd hq h1
                        exact this
                · rw [decide_eq_false hx]
                  refine iteF ⟨1, rfl, ?_⟩
                  have q2 := q1 H1 s1
                  rw [if_neg (fun z => hx z.1)] at q2
                  exact q2
            · rw [decide_eq_false hl]
              rw [if_neg hl] at q1
              exact iteT (q1 H (Same.refl _))
abbrev ns_is_storedeed : List Str := ["thing"]
theorem sc33 : FnScope ["thing"] ["thing"] (defScope (top 33)) := ⟨rfl, rfl, rfl, by decide +kernel, rfl, by decide +kernel, by decide +kernel⟩
def sp_is_storedeed (K : PySem.W.Frag) : Sp := fun vs H Q _ => ∃ v d, vs = [v] ∧ Dp K H v d ∧ okF d ∧ ∀ H', Same H H' → Q (.bl (decide (firstBad d < 0))) H'
theorem d_is_storedeed (T : Txt w K mg) : Def P w K mg base CX0 6 "is_storedeed" ["thing"] (sp_is_storedeed K) := by
  obtain ⟨f, fd, F, m, b⟩ := T.a33
  refine ⟨f, fd, m, F.kp, b, F.ok sc33 (fun vs H Q E h => ?_) (fun cdv A outer s H vs Q E hr h => ?_)⟩
  · obtain ⟨v, d, rfl, _⟩ := h; rfl
  · have nd := sc33.nd
    have hu := hr.units
    have hu1 : (A.deeper (envOfC "is_storedeed" (defScope (top 33)) s.heap.objs.size f cdv)).units + 1 < cLine := by omega
    obtain ⟨v, d, rfl, hv, ok, q⟩ := h
    refine ⟨_, (pss_one (ps_ret (pe_cmpR op_lt (pe_def (d_first_bad T) (hr.mono (by decide)) (pa_cons (pv 0) pa_nil)) pe_int (nomark _)))), ?_⟩
    exact ⟨_, rfl, v, d, rfl, hv, ok, fun H1 s1 => ⟨_, _, rfl, rfl, q H1 s1⟩⟩
theorem h_is_storedeed (T : Txt w K mg) : DefH P w K mg base CX0 6 "is_storedeed" ["thing"] (sp_is_storedeed K) := by
  obtain ⟨f, fd, F, m, b⟩ := T.a33
  refine ⟨f, fd, m, F.kp, b, okH F sc33 (fun vs H Q E h => ?_) (fun cdv A outer s H vs Q E p hr hc h => ?_)⟩
  · obtain ⟨v, d, rfl, _⟩ := h; rfl
  · have nd := sc33.nd
    have hu : (A.deeper (envOfC "is_storedeed" (defScope (top 33)) s.heap.objs.size f cdv)).units + 64 < cLine := by have := hr.un; omega
    have hu1 : (A.deeper (envOfC "is_storedeed" (defScope (top 33)) s.heap.objs.size f cdv)).units + 1 < cLine := by omega
    obtain ⟨v, d, rfl, hv, ok, q⟩ := h
    refine ⟨_, (pss_one (ps_ret (pe_cmpR op_lt (pe_defH (h_first_bad T) (hr.mono (by decide)) hc (pa_cons (pv 0) pa_nil)) pe_int (nomark _)))), ?_⟩
    exact ⟨_, rfl, v, d, rfl, hv, ok, fun H1 s1 => ⟨_, _, rfl, rfl, q H1 s1⟩⟩
end
end K75
set_option maxHeartbeats 2000000
/-! rules that the layer lacks, 3: the errors of the program: made, raised, told by their field what. Turned from skel/42 (one more base, the context told) -/
namespace PySem
namespace WhatX
open PySem.W PySem.Calls PyProof.Rows PySem.HandSPX
/-! ### the text of __init__ -/
def iA (p1 p2 : Pos) : Arguments := { posonlyargs := [], args := [{ arg := "self", annotation := none, pos := p1 }, { arg := "what", annotation := none, pos := p2 }], vararg := none, kwonlyargs := [], kw_defaults := [], kwarg := none, defaults := [] }
def iB (q1 q2 q3 q4 : Pos) : List Stmt := [.Assign [.Attribute (.Name "self" q1) "what" q2] (.Name "what" q3) q4]
def iS : Scope := { kind := .function, names := [(PySem.Str.ofString "self", .local), (PySem.Str.ofString "what", .local)], isGenerator := false, isCoroutine := false, more := [] }
/-- what the written part says of an error's class x, at C, and of the __init__ that it has from Refused, at fI -/
structure ErrTxt (K : Frag) (mg : Str → Option Value) (x : Str) (C fI : Addr) : Prop where
  gC : mg x = some (.ref C)
  cls : ∃ nm q N bs bm sn sub ab col dd k0 k1 k2 k3 k5, K.lookup C = some (excClassObj nm q C N bs bm true sn sub ab col dd k0 k1 k2 k3 k5 "ValueError.__new__") ∧ refsVE bm = true
  sa : findIn K (.ref C) "__setattr__" = some (some (.builtin "object.__setattr__"))
  ga : findIn K (.ref C) "__getattribute__" = some (some (.builtin "BaseException.__getattribute__"))
  gg : findIn K (.ref C) "__getattr__" = some none
  noN : findIn K (.ref C) "what" = some none
  iC : findIn K (.ref C) "__init__" = some (some (.ref fI))
  tC : typeIn K (.ref fI) = some (.type "function")
  kC : keepIn K (.ref C) = true
  exC : subIn K (.ref C) (.type "BaseException") = some true
  tyC : typeIn K (.ref C) = some (.type "type")
  hdC : hasDictIn K C = true
  te : exmOne K (.ref C) (.ref C) = some true
  fn : ∃ (oc : Value) (od : Option Addr) (doc pm : Value) (an : Option Addr) (cdv ct : Value) (osl : Array (Option Value)) (p1 p2 q1 q2 q3 q4 : Pos),
    K.lookup fI = some ⟨oc, od, .func (fnOf "__init__" "Refused.__init__" (iA p1 p2) (iB q1 q2 q3 q4) iS .none .none doc pm an cdv ct), osl⟩ ∧ codeIn K cdv "Refused.__init__" = true
theorem size1 (v : Value) : [v].length ≤ sizeLine := by
  rw [sizeLine_eq]
  exact (by decide : 1 ≤ 16777216)
theorem ldN {M : Model} {s : Shared} {name : Str} {scope : Scope} {L a : Addr} {cd : Value} {m : Str → Option Value} {x : Str} {pos : Pos} {v : Value} {Q : Value → Shared → Prop} {A : Around} {E : Value → Shared → Prop} (hn : s.heap.Ns L m) (hv : m x = some v) (h : Q v s)
    (hk : scope.kind = .function := by rfl) (hl : (envOfC name scope L a cd).kindOf x = some .local := by rfl) (hd : (x == ("__debug__" : Str)) = false := by decide) :
    wpAny M A (eval (.Name x pos) (envOfC name scope L a cd)) Q E s := wpAny_Name (wpAny_loadName_local hk hl hn hv h) hd
/-- a made error -/
structure Made (h h' : Heap) (e C d : Addr) (v : Value) : Prop where
  keep : ∀ b o, h.get? b = some o → h'.get? b = some o
  new : h.objs.size ≤ e
  obj : ∃ t1, h'.get? e = some { cls := .ref C, dict := some d, data := .fields #[.ref t1, .none, .none, .none, .bool false, .none] }
  dbig : h.objs.size ≤ d
  dne : d ≠ e
  ns : h'.Ns1 d (fun y => if y = "what" then some v else none)
section
variable {prog : Program} {w : World} {A : Around} {E : Value → Shared → Prop} {R : Result → Shared → Prop} {s : Shared} {K : Frag} {mg : Str → Option Value} {x : Str} {C fI : Addr}
theorem init_what (T : ErrTxt K mg x C fI) {e t0 : Addr} {v : Value} (X : K.In s.heap) (hlim : s.heap.NoLimit) (hx : s.heap.get? e = some (excO C t0)) (hnx : K.lookup e = none) (hroom : A.depth < recursionLimit)
    (hq : ∀ h' tk dx, (∀ b o, b ≠ e → s.heap.get? b = some o → h'.get? b = some o) → h'.get? e = some { cls := .ref C, dict := some dx, data := .fields #[.ref t0, .none, .none, .none, .bool false, .none] } → s.heap.objs.size ≤ dx → dx ≠ e → h'.Ns1 dx (fun y => if y = "what" then some v else none) →
      R (.ok (.ret .none)) { s with heap := h', toks := tk }) :
    codeAny (model prog w) A (.call (.ref fI) ⟨[.ref e, v], []⟩) R s := by
  obtain ⟨oc, od, doc, pm, an, cdv, ct, osl, p1, p2, q1, q2, q3, q4, ho, hcd⟩ := T.fn
  obtain ⟨nm, q, N, bs, bm, sn, sub, ab, col, dd, k0, k1, k2, k3, k5, hC, hbm⟩ := T.cls
  have hcl : clsIn K C = some { name := nm, bases := bs, mro := .ref C :: bm, ns := N, qualname := q, hasDict := true, slotNames := sn, subclasses := sub, abstract := ab, collection := col, hasDel := false } := by unfold clsIn; rw [hC] <;> rfl
  refine Att.call_fn (binds := [("self", .ref e), ("what", v)]) X hlim ho hcd hroom (BindsTo.of_eq (by first | rfl | with_unfolding_all rfl)) (by first | rfl | decide | with_unfolding_all rfl) (fun s₁ IC => ?_) rfl rfl rfl
  obtain ⟨h₁, tk₁, rfl⟩ := IC.toInCall.same
  have k : ∀ b o, s.heap.get? b = some o → h₁.get? b = some o := IC.toInCall.keep
  have hn := IC.toInCall.ns
  have X₁ : K.In h₁ := X.keeps k
  have hx₁ := k _ _ hx
  show wpAny _ _ (execs _ _) _ _ _
  refine wpAny_execs_cons (plainObj_wpAny_Assign_Attribute ?_)
  refine ldN (v := v) hn (by first | rfl | with_unfolding_all rfl | kernel_rfl) (ldN (v := .ref e) hn (by first | rfl | with_unfolding_all rfl | kernel_rfl) ?_)
  refine set_plain X₁ (ox := excO C t0) (od := none) ⟨hx₁, rfl, rfl, trivial⟩ T.sa ?_
  refine exc_osa X₁ hx₁ hcl (show refsVE (.ref C :: bm) = true from hbm) rfl T.noN (fun h₃ tk₃ dx k₃ dn dne hx₃ hn₃ => ?_)
  show wpAny _ _ (execs _ _) _ _ _
  have z : s.heap.objs.size < h₁.objs.size := hn.lt
  exact wpAny_execs_nil (hq h₃ tk₃ dx (fun b o hb e => k₃ b o hb (k b o e)) hx₃ (Nat.le_of_lt (Nat.lt_of_lt_of_le z dn)) dne hn₃)
theorem made_what (T : ErrTxt K mg x C fI) {v : Value} (X : K.In s.heap) (hlim : s.heap.NoLimit) (hroom : A.depth + 1 < recursionLimit)
    (hq : ∀ h' tk e d, Made s.heap h' e C d v → R (.ok (.ret (.ref e))) { s with heap := h', toks := tk }) :
    codeAny (model prog w) A (.call (.ref C) ⟨[v], []⟩) R s := by
  obtain ⟨nm, q, N, bs, bm, sn, sub, ab, col, dd, k0, k1, k2, k3, k5, hC, hbm⟩ := T.cls
  obtain ⟨hp, g, dr, tk, os⟩ := s
  have k : ∀ b o, hp.get? b = some o → ((hp.push (kdv_tup [v])).push (excO C hp.objs.size)).get? b = some o := fun b o e => Heap.get?_push_of_some _ (Heap.get?_push_of_some _ e)
  have hget : ((hp.push (kdv_tup [v])).push (excO C hp.objs.size)).get? (hp.objs.size + 1) = some (excO C hp.objs.size) := by heap_get
  have hnx : K.lookup (hp.objs.size + 1) = none := by
    cases e : K.lookup (hp.objs.size + 1) with
    | none => rfl
    | some o => exact absurd (Nat.lt_of_succ_lt (Heap.lt_size (X _ _ e))) (Nat.lt_irrefl _)
  refine call_own F.excBase_ValueError (fun X => refsVE_contains X bm hbm) (X _ _ hC) (looks_findIn X T.iC) (fun self => bind_fn X self T.tC) (size1 v) ?_
  refine init_what (s := ⟨(hp.push (kdv_tup [v])).push (excO C hp.objs.size), g, dr, tk, os⟩) T (X.keeps k) (hlim.keeps k) hget hnx (show A.depth + 1 < recursionLimit from hroom) fun h' tk' dx k' hx dn dne hns => ?_
  have old : ∀ b o, hp.get? b = some o → h'.get? b = some o := fun b o e => k' b o (Nat.ne_of_lt (Nat.lt_succ_of_lt (Heap.lt_size e))) (k b o e)
  have z : hp.objs.size + 1 + 1 ≤ dx := by
    first
      | (simpa only [Heap.size_push] using dn)
      | exact dn
      | (have q := dn; rw [Heap.size_push, Heap.size_push] at q; exact q)
  exact ⟨rfl, hq h' tk' (hp.objs.size + 1) dx ⟨old, Nat.le_succ _, ⟨_, hx⟩, Nat.le_trans (Nat.le_trans (Nat.le_succ _) (Nat.le_succ _)) z, dne, hns⟩⟩
end
end WhatX
end PySem
namespace L2
open PySem PySem.Spec PyProof.Rows
theorem relO_what {v : V} {v' : Value} (r : RelV v v') (f : Str) : RelO (List.lookup f [(("what" : Str), v)]) (if f = "what" then some v' else none) := by
  by_cases hw : f = "what"
  · subst hw
    rw [if_pos rfl]
    have q : List.lookup ("what" : Str) [(("what" : Str), v)] = some v := by simp [List.lookup]
    rw [q]
    exact r
  · rw [if_neg hw]
    have qw : (f == ("what" : Str)) = false := by simpa using hw
    have q2 : List.lookup f [(("what" : Str), v)] = none := by simp [List.lookup, qw]
    rw [q2]
    trivial
section
variable {X : Cx} {C fI : Addr}
/-- E(e), E an error's class -/
def tMkErr (C : Addr) (ta : TA) : St → Hp → XK → Prop := fun σ H Q => ta σ H fun vs H1 => ∃ v, vs = [v] ∧ ∀ d, H1 d = none → Q (.ref C) (some d) (upd H1 d (.xd [(("what" : Str), v)]))
theorem pmk_err {x : Str} {a : Expr} {ta : TA} {p pos : Pos} {k : Nat} (T : PySem.WhatX.ErrTxt X.K X.mg x C fI) (hr : Room k X.A) (ha : PA X [a] ta) (hg : Gl X x := by rfl) (hdb : (x == ("__debug__" : Str)) = false := by decide)
    (he : starEach (a :: []) X.env = (false, eval a X.env) :: starEach [] X.env := by rfl) (hpl : (backTo pos (starEach [] X.env)).any (·.1) = false := by rfl) :
    L2N.PMk X (.Call (.Name x p) [a] [] pos) (tMkErr C ta) := by
  intro pins s σ H Q I h
  refine wpAny_Call_Name_kw (ld_glob I hg T.gC ?_ hdb)
  refine PySem.W.callWith_K (h₀ := X.base) I.ok.mod.kin T.kC (thn (ha.run pos pins s σ H _ I h) fun us s1 hh => ?_) he hpl
  obtain ⟨vs, H1, I1, r1, v, ev, q1⟩ := hh
  subst ev
  refine ⟨I1.kIn, ?_⟩
  cases r1 with
  | cons rv rn =>
    rename_i v' us'
    cases rn
    show wpAny _ _ (call (.ref C) [v']) _ _ _
    have hlim := I1.nolimit
    obtain ⟨hp, g, dr, tk, os⟩ := s1
    refine wpAny_call (PySem.WhatX.made_what T I1.kIn hlim (by have := hr.dp; omega) fun h' tk' e d M => ?_)
    show L2N.MkP X pins σ Q (.ref e) ⟨h', g, dr, tk', os⟩
    obtain ⟨t1, hoe⟩ := M.obj
    have hns := M.ns
    obtain ⟨G', g1, g2⟩ := restrict h' fun b => decide (b ≠ e)
    have gk : ∀ b, b ≠ e → G'.get? b = h'.get? b := fun b hb => g1 b (decide_eq_true hb)
    have ge : G'.get? e = none := g2 e (by simp)
    have old : ∀ b o, hp.get? b = some o → G'.get? b = some o := fun b o q => (gk b (Nat.ne_of_lt (Nat.lt_of_lt_of_le (Heap.lt_size q) M.new))).trans (M.keep b o q)
    have ob : ObjOk X.prog X.w (upd H1 d (.xd [(("what" : Str), v)])) G' d (.xd [(("what" : Str), v)]) := ⟨_, hns.at (fun o q => (gk d M.dne).trans q), fun f => relO_what rv f⟩
    have J : Inv X pins σ (upd H1 d (.xd [(("what" : Str), v)])) ⟨G', g, dr, tk', os⟩ := I1.laid (t' := tk') old M.dbig ob
    refine ⟨e, _, _, ⟨G', g, dr, tk', os⟩, _, .ref C, some d, rfl, J, fun b o q => ?_, ge, hoe, ⟨rfl, rfl, fun vs ev => by cases ev; rfl⟩, rfl, rfl, ?_, rfl, I1.bare, raises_own T.exC T.tyC, q1 d (I1.hok.fresh M.dbig)⟩
    · by_cases hb : b = e
      · have q' : G'.get? b = some o := q
        rw [hb, ge] at q'
        cases q'
      · exact (gk b hb).symm.trans q
    · rw [upd_ne (Ne.symm M.dne)]
      exact I1.hok.fresh M.new
/-- raise E(e) -/
def tRaiseErr (C : Addr) (W : WX) (ta : TA) : TS := fun _ σ H => tMkErr C ta σ H fun cls d H' => W cls d σ H'
theorem ps_raiseErr {x : Str} {a : Expr} {ta : TA} {W : WX} {p pos pos2 : Pos} {k : Nat} (hc : X.calm = true) (T : PySem.WhatX.ErrTxt X.K X.mg x C fI) (hr : Room k X.A) (tk : L2N.Takes X W) (ha : PA X [a] ta) (hg : Gl X x := by rfl) (hdb : (x == ("__debug__" : Str)) = false := by decide)
    (he : starEach (a :: []) X.env = (false, eval a X.env) :: starEach [] X.env := by rfl) (hpl : (backTo pos (starEach [] X.env)).any (·.1) = false := by rfl) :
    PS X (.Raise (some (.Call (.Name x p) [a] [] pos)) none pos2) (tRaiseErr C W ta) := L2N.ps_raise hc tk (pmk_err T hr ha hg hdb he hpl)
end
end L2
set_option maxHeartbeats 2000000
/-! k75: texts of store deeds: figures, numbers, values, items -/
namespace K75
open PySem PySem.Spec PyProof.Rows L2 L2H
theorem tl_int (i : Int) : tl (Str.ofString (toString i)) = intL i := by
  cases i with
  | ofNat n =>
    unfold intL
    rw [if_neg (by show ¬ ((n : Int) < 0); omega)]
    exact TL.tl_num n
  | negSucc n =>
    unfold intL
    rw [if_pos (by omega)]
    show (Str.ofString (toString (Int.negSucc n))).cps.toList = _
    rw [signs_ofString]
    have e : toString (Int.negSucc n) = "-" ++ toString (n + 1) := rfl
    rw [e, String.toList_append, List.map_append]
    have e2 := TL.tl_num (n + 1)
    have e3 : (Str.ofString (toString (((n + 1 : Nat)) : Int))).cps.toList = TL.numL (n + 1) := e2
    rw [signs_ofString] at e3
    have e4 : (Int.negSucc n).natAbs = n + 1 := rfl
    rw [e4, ← e3]
    rfl
theorem str_int (i : Int) : Str.ofString (toString i) = SX.S (intL i) := TL.ext_tl (tl_int i)
theorem S10 : ∀ c : Nat, decide (c ∈ (("0123456789" : Str)).cps.toList) = figB c := by
  have e : (("0123456789" : Str)).cps.toList = [48, 49, 50, 51, 52, 53, 54, 55, 56, 57] := by decide +kernel
  intro c
  rw [e]
  have h : c ∈ [48, 49, 50, 51, 52, 53, 54, 55, 56, 57] ↔ figB c = true := by
    unfold figB
    simp only [List.mem_cons, List.not_mem_nil, or_false, Bool.and_eq_true, decide_eq_true_eq]
    omega
  rw [Bool.eq_iff_iff, decide_eq_true_eq]
  exact h
def optV : Option Int → V
  | none => .non
  | some i => .int i
theorem slen (x : Str) : x.length = (tl x).length := Array.length_toList.symm
theorem str_of_tl (x : Str) : x = SX.S (tl x) := (SX.S_tl x).symm
/-- data without lists stay where tuples stay -/
def noL : PyData → Bool
  | .list _ => false
  | .dict _ => false
  | .tuple ds => noLs ds
  | _ => true
where noLs : List PyData → Bool
  | [] => true
  | d :: r => noL d && noLs r
mutual
theorem dp_tups {K : PySem.W.Frag} {H H' : Hp} (e1 : ∀ b xs, H b = some (.tup xs) → H' b = some (.tup xs)) (e2 : ∀ b o u, H b = some (.frz o u) → H' b = some (.frz o u)) : ∀ {v : V} {d : PyData}, noL d = true → Dp K H v d → Dp K H' v d
  | _, _, _, .non => .non
  | _, _, _, .bl b => .bl b
  | _, _, _, .int i => .int i
  | _, _, _, .str x => .str x
  | _, _, n, .lst h a => absurd n Bool.false_ne_true
  | _, _, n, .tup h a => .tup (by
      rcases h with (h | ⟨o, h⟩) | h
      · exact .inl (.inl (e1 _ _ h))
      · exact .inl (.inr ⟨o, e2 _ _ _ h⟩)
      · exact .inr h) (dpAll_tups e1 e2 n a)
theorem dpAll_tups {K : PySem.W.Frag} {H H' : Hp} (e1 : ∀ b xs, H b = some (.tup xs) → H' b = some (.tup xs)) (e2 : ∀ b o u, H b = some (.frz o u) → H' b = some (.frz o u)) : ∀ {vs : List V} {ds : List PyData}, noL.noLs ds = true → DpAll K H vs ds → DpAll K H' vs ds
  | _, _, _, .nil => .nil
  | _, _, n, .cons a b => by
    have n' : (noL _ && noL.noLs _) = true := n
    rw [Bool.and_eq_true] at n'
    exact .cons (dp_tups e1 e2 n'.1 a) (dpAll_tups e1 e2 n'.2 b)
end
theorem dp_lst {K : PySem.W.Frag} {H : Hp} {D : Addr} {acc acc' : List V} (hD : H D = some (.lst acc)) {v : V} {d : PyData} (n : noL d = true) (h : Dp K H v d) : Dp K (upd H D (.lst acc')) v d :=
  dp_tups (fun b xs e => by rw [upd_ne (by rintro rfl; rw [hD] at e; cases e)]; exact e) (fun b o u e => by rw [upd_ne (by rintro rfl; rw [hD] at e; cases e)]; exact e) n h
theorem dpAll_lst {K : PySem.W.Frag} {H : Hp} {D : Addr} {acc acc' : List V} (hD : H D = some (.lst acc)) {vs : List V} {ds : List PyData} (n : noL.noLs ds = true) (h : DpAll K H vs ds) : DpAll K (upd H D (.lst acc')) vs ds :=
  dpAll_tups (fun b xs e => by rw [upd_ne (by rintro rfl; rw [hD] at e; cases e)]; exact e) (fun b o u e => by rw [upd_ne (by rintro rfl; rw [hD] at e; cases e)]; exact e) n h
theorem dpAll_app {K : PySem.W.Frag} {H : Hp} : ∀ {vs ws : List V} {ds es : List PyData}, DpAll K H vs ds → DpAll K H ws es → DpAll K H (vs ++ ws) (ds ++ es)
  | _, _, _, _, .nil, h => h
  | _, _, _, _, .cons a b, h => .cons a (dpAll_app b h)
theorem same_upd2 {H H' : Hp} {D : Addr} {o : HO} (s : Same H H') (h : H D = none) : Same H (upd H' D o) := fun b u e => by
  rw [upd_ne (ne_of_none e h)]
  exact s b u e
theorem take_more {α : Type} {l : List α} {i : Nat} {x : α} (h : l[i]? = some x) : l.take (i + 1) = l.take i ++ [x] := by
  rw [List.take_add_one, h]
  rfl
theorem map_get {α β : Type} {f : α → β} {l : List α} {i : Nat} {y : β} (h : (l.map f)[i]? = some y) : ∃ x, l[i]? = some x ∧ y = f x := by
  rw [List.getElem?_map] at h
  cases e : l[i]? with
  | none => rw [e] at h; cases h
  | some x => rw [e] at h; exact ⟨x, rfl, (Option.some.inj h).symm⟩
section
variable {P : Program} {w : World} {K : PySem.W.Frag} {mg : Str → Option Value} {base : Heap}
abbrev ns_is_figures : List Str := ["text", "sign"]
theorem sc37 : FnScope ["text", "sign"] ["text"] (defScope (top 37)) := ⟨rfl, rfl, rfl, by decide +kernel, rfl, by decide +kernel, by decide +kernel⟩
def sp_is_figures (K : PySem.W.Frag) : Sp := fun vs H Q _ => ∃ x, vs = [.str x] ∧ ∀ H', Same H H' → Q (.bl (figs (tl x))) H'
theorem d_is_figures (T : Txt w K mg) : Def P w K mg base CX0 1 "is_figures" ["text"] (sp_is_figures K) := by
  obtain ⟨f, fd, F, m, b⟩ := T.a37
  refine ⟨f, fd, m, F.kp, b, F.ok sc37 (fun vs H Q E h => ?_) (fun cdv A outer s H vs Q E hr h => ?_)⟩
  · obtain ⟨x, rfl, _⟩ := h; rfl
  · have nd := sc37.nd
    have hu := hr.units
    have hu1 : (A.deeper (envOfC "is_figures" (defScope (top 37)) s.heap.objs.size f cdv)).units + 1 < cLine := by omega
    obtain ⟨x, rfl, q⟩ := h
    refine ⟨_, (pss_cons (ps_for PassesOwn.never rfl (pi_str (pv 0)) (pg_name (i := 1) nd rfl (Or.inl rfl)) (pss_one (ps_if (pt_cmpR op_notIn_sign (pv 1) (pe_constS T.c_FIGURES) rfl) (pss_one (ps_ret pe_bl)) pss_nil)))
      (pss_one (ps_ret (pe_cmpR op_ne (pv 0) pe_str (nomark _))))), ?_⟩
    refine ⟨_, rfl, x, rfl, for_str (fun i σ H' => (∃ u, σ = [some (.str x), u]) ∧ Same H H' ∧ ((tl x).take i).all figB = true) ⟨⟨none, rfl⟩, Same.refl _, rfl⟩ ?_ ?_⟩
    · rintro i c σ H1 hcx ⟨⟨u, rfl⟩, s1, ha⟩
      refine ⟨_, rfl, c, _, rfl, rfl, _, rfl, ?_⟩
      refine ite2 (fun h3 => ?_) (fun h3 => ?_)
      · rw [S10, Bool.not_eq_true'] at h3
        have q2 := q H1 s1
        unfold figs at q2
        rw [all_bad hcx h3] at q2
        exact q2
      · rw [S10, Bool.not_eq_true', Bool.not_eq_false] at h3
        exact ⟨⟨_, rfl⟩, s1, take_all ha hcx h3⟩
    · rintro σ H1 ⟨⟨u, rfl⟩, s1, ha⟩
      rw [List.take_length] at ha
      refine ⟨_, rfl, rfl, ?_⟩
      have q2 := q H1 s1
      unfold figs at q2
      rw [ha, Bool.true_and] at q2
      rw [str_eq]
      have e : decide (x = ("" : Str)) = (tl x).isEmpty := by
        have e0 : ("" : Str) = SX.S [] := by decide +kernel
        rw [e0, str_of_tl x]
        show decide (SX.S (tl x) = SX.S []) = (tl x).isEmpty
        cases h : tl x with
        | nil => simp
        | cons a r =>
          have : SX.S (a :: r) ≠ SX.S [] := fun z => by
            have := SX.S_inj z
            cases this
          rw [decide_eq_false this]
          rfl
      rw [e]
      exact q2
abbrev ns_read_count : List Str := ["text", "most", "count"]
theorem sc38 : FnScope ["text", "most", "count"] ["text", "most"] (defScope (top 38)) := ⟨rfl, rfl, rfl, by decide +kernel, rfl, by decide +kernel, by decide +kernel⟩
def sp_read_count (K : PySem.W.Frag) : Sp := fun vs H Q _ => ∃ x m, vs = [.str x, .int m] ∧ x.length ≤ 1000000 ∧ ∀ H', Same H H' → Q (optV (readCount (tl x) m)) H'
theorem d_read_count (T : Txt w K mg) : Def P w K mg base CX0 2 "read_count" ["text", "most"] (sp_read_count K) := by
  obtain ⟨f, fd, F, m, b⟩ := T.a38
  refine ⟨f, fd, m, F.kp, b, F.ok sc38 (fun vs H Q E h => ?_) (fun cdv A outer s H vs Q E hr h => ?_)⟩
  · obtain ⟨x, m, rfl, _⟩ := h; rfl
  · have nd := sc38.nd
    have hu := hr.units
    have hu1 : (A.deeper (envOfC "read_count" (defScope (top 38)) s.heap.objs.size f cdv)).units + 1 < cLine := by omega
    obtain ⟨x, m, rfl, hx, q⟩ := h
    refine ⟨_, (pss_cons (ps_if (PW.pt (pw_or (pt_not (pt_val (pe_def (d_is_figures T) (hr.mono (by decide)) (pa_cons (pv 0) pa_nil)))) (pw_or1 (pt_cmpR op_gt (pe_callB call_len (by rfl) T.b.len (by decide +kernel) (pa_cons (pv 0) pa_nil)) (pe_constI T.c_MOST_FIGURES) (nomark _))))) (pss_one (ps_ret pe_non)) pss_nil)
      (pss_cons (ps_if (PW.pt (pw_and (pt_cmpR op_gt (pe_callB call_len (by rfl) T.b.len (by decide +kernel) (pa_cons (pv 0) pa_nil)) pe_int (nomark _)) (pw_and1 (pt_cmpR op_eq (pe_ix ix_str (pv 0) pe_int (fun _ _ => rfl)) pe_str (nomark _))))) (pss_one (ps_ret pe_non)) pss_nil)
      (pss_cons (ps_set (i := 2) nd rfl (Or.inl rfl) (pe_callTy call_int_str (by rfl) T.b.int (by decide +kernel) (pa_cons (pv 0) pa_nil)))
      (pss_one (ps_ret (pe_ifExp (pt_cmpR op_le (pv 2) (pv 1) (nomark _)) (pv 2) pe_non)))))), ?_⟩
    refine ⟨_, rfl, x, rfl, fun H1 s1 => ⟨_, rfl, ?_⟩⟩
    have hl := slen x
    have none_ : readCount (tl x) m = none → ∀ H', Same H1 H' → Q .non H' := fun e H' s' => by
      have q2 := q H' (s1.trans s')
      rw [e] at q2
      exact q2
    cases hf : figs (tl x) with
    | false =>
      refine iteT (none_ ?_ H1 (Same.refl _))
      unfold readCount
      rw [if_pos (Or.inl hf)]
    | true =>
      refine iteF ⟨_, rfl, _, _, rfl, ⟨by show x.length ≤ 16777216; omega, rfl⟩, _, _, rfl, rfl, _, rfl, ?_⟩
      refine ite2 (fun h1 => ?_) (fun h1 => ?_)
      · rw [decide_eq_true_eq] at h1
        refine none_ ?_ H1 (Same.refl _)
        unfold readCount
        rw [if_pos (Or.inr (by omega))]
      · rw [decide_eq_true_eq] at h1
        have hp : ¬ ((figs (tl x) = false) ∨ 13 < (tl x).length) := by
          rw [hf]
          rintro (z | z)
          · cases z
          · omega
        have hfa : (tl x).all figB = true ∧ (tl x) ≠ [] := by
          unfold figs at hf
          rw [Bool.and_eq_true] at hf
          exact ⟨hf.1, fun z => by rw [z] at hf; exact absurd hf.2 Bool.false_ne_true⟩
        have go : ¬ (1 < (tl x).length ∧ (tl x).head? = some 48) → ∀ H2, Same H1 H2 → ∀ σ : L2.St, σ = [some (.str x), some (.int m), none] →
            (tSeq (tAsg (fun σ H Q => tCons (tVar 0) tNil σ H fun vs H1 => ∃ a n, vs = [V.str a] ∧ PySem.intText? a = some n ∧ a.length ≤ 640 ∧ Q (.int n) H1) (gName 2))
              (tRet (tIf (tTest (tOp (rI0 fun i j => V.bl (decide (i ≤ j))) (tVar 2) (tVar 1))) (tVar 2) (tC .non)))) { nx := fun _ H' => Q .non H', rt := Q } σ H2 := by
          rintro h2 H2 s2 σ rfl
          have hn : PySem.intText? x = some ((NumText.digitsVal (tl x) : Nat) : Int) := by
            have := SX.int_S (a := tl x) (by
              have := hfa.1
              exact this) hfa.2 (by omega)
            rw [← str_of_tl x] at this
            exact this
          refine ⟨_, rfl, x, _, rfl, hn, by omega, ?_⟩
          refine ⟨_, rfl, _, rfl, _, _, rfl, rfl, _, rfl, ?_⟩
          have q2 := q H2 (s1.trans s2)
          unfold readCount at q2
          rw [if_neg hp, if_neg h2] at q2
          refine ite2 (fun h3 => ?_) (fun h3 => ?_)
          · rw [decide_eq_true_eq] at h3
            rw [if_pos h3] at q2
            exact ⟨_, rfl, q2⟩
          · rw [decide_eq_true_eq] at h3
            rw [if_neg h3] at q2
            exact q2
        refine ⟨_, rfl, _, _, rfl, ⟨by show x.length ≤ 16777216; omega, rfl⟩, _, _, rfl, rfl, _, rfl, ?_⟩
        refine ite2 (fun h2 => ?_) (fun h2 => ?_)
        · rw [decide_eq_true_eq] at h2
          obtain ⟨c, r, hc⟩ : ∃ c r, tl x = c :: r := by
            cases h : tl x with
            | nil => exact absurd h hfa.2
            | cons c r => exact ⟨c, r, rfl⟩
          refine ⟨_, rfl, x, 0, c, rfl, rfl, by show x.length ≤ 16777216; omega, atI_nat (j := 0) (by show (tl x)[0]? = some c; rw [hc]; rfl), rfl, _, rfl, ?_⟩
          rw [str_eq]
          have e48 : ("0" : Str) = SX.S [48] := by decide +kernel
          refine ite2 (fun h3 => ?_) (fun h3 => ?_)
          · rw [decide_eq_true_eq, e48] at h3
            have h4 := SX.S_inj h3
            refine none_ ?_ H1 (Same.refl _)
            unfold readCount
            rw [if_neg hp, if_pos]
            refine ⟨by omega, ?_⟩
            rw [hc]
            exact congrArg some (List.cons.inj h4).1
          · rw [decide_eq_true_eq, e48] at h3
            refine go ?_ H1 (Same.refl _) _ rfl
            rintro ⟨_, z⟩
            rw [hc] at z
            have z2 : c = 48 := Option.some.inj z
            exact h3 (by rw [z2])
        · rw [decide_eq_true_eq] at h2
          refine go ?_ H1 (Same.refl _) _ rfl
          rintro ⟨z, _⟩
          omega
abbrev ns_read_number : List Str := ["text", "count"]
theorem sc39 : FnScope ["text", "count"] ["text"] (defScope (top 39)) := ⟨rfl, rfl, rfl, by decide +kernel, rfl, by decide +kernel, by decide +kernel⟩
def sp_read_number (K : PySem.W.Frag) : Sp := fun vs H Q _ => ∃ x, vs = [.str x] ∧ x.length ≤ 1000000 ∧ ∀ H', Same H H' → Q (optV (readNum (tl x))) H'
theorem d_read_number (T : Txt w K mg) : Def P w K mg base CX0 3 "read_number" ["text"] (sp_read_number K) := by
  obtain ⟨f, fd, F, m, b⟩ := T.a39
  refine ⟨f, fd, m, F.kp, b, F.ok sc39 (fun vs H Q E h => ?_) (fun cdv A outer s H vs Q E hr h => ?_)⟩
  · obtain ⟨x, rfl, _⟩ := h; rfl
  · have nd := sc39.nd
    have hu := hr.units
    have hu1 : (A.deeper (envOfC "read_number" (defScope (top 39)) s.heap.objs.size f cdv)).units + 1 < cLine := by omega
    obtain ⟨x, rfl, hx, q⟩ := h
    refine ⟨_, (pss_cons (ps_if (pt_cmpR op_ne (pe_slice C8.sl_txt (pv 0) po_none (po_some pe_int)) pe_str (nomark _)) (pss_one (ps_ret (pe_def (d_read_count T) (hr.mono (by decide)) (pa_cons (pv 0) (pa_cons (pe_constI T.c_LIMIT) pa_nil))))) pss_nil)
      (pss_cons (ps_set (i := 1) nd rfl (Or.inl rfl) (pe_def (d_read_count T) (hr.mono (by decide)) (pa_cons (pe_slice C8.sl_txt (pv 0) (po_some pe_int) po_none) (pa_cons (pe_constI T.c_LIMIT) pa_nil))))
      (pss_one (ps_ret (pe_ifExp (PW.pt (pw_or (pt_cmpR op_isN (pv 1) pe_non (nomark _)) (pw_or1 (pt_cmpR op_eq (pv 1) pe_int (nomark _))))) pe_non (pe_un un_neg (pv 1))))))), ?_⟩
    have hl := slen x
    have e1 : Txt.slice x none (some 1) = SX.S ((tl x).take 1) := by
      have := SX.slice_to (a := tl x) (i := 1) (by decide)
      rw [← str_of_tl x] at this
      exact this
    have e2 : Txt.slice x (some 1) none = SX.S ((tl x).drop 1) := by
      have := SX.slice_from (a := tl x) (i := 1) (by decide)
      rw [← str_of_tl x] at this
      exact this
    have e45 : ("-" : Str) = SX.S [45] := by decide +kernel
    refine ⟨_, rfl, _, rfl, _, rfl, by show x.length ≤ 16777216; omega, rfl, _, rfl, ?_⟩
    rw [str_eq, e1, e45]
    refine ite2 (fun h1 => ?_) (fun h1 => ?_)
    · rw [Bool.not_eq_true', decide_eq_false_iff_not] at h1
      refine ⟨_, rfl, x, _, rfl, hx, fun H1 s1 => ?_⟩
      have q2 := q H1 s1
      rw [readNum_pos] at q2
      · exact q2
      · intro z
        apply h1
        cases h : tl x with
        | nil => rw [h] at z; cases z
        | cons c r =>
          rw [h] at z
          have z2 : c = 45 := Option.some.inj z
          rw [z2]
          rfl
    · rw [Bool.not_eq_true', Bool.not_eq_false, decide_eq_true_eq] at h1
      have h2 := SX.S_inj h1
      obtain ⟨r, hr⟩ : ∃ r, tl x = 45 :: r := by
        cases h : tl x with
        | nil => rw [h] at h2; cases h2
        | cons c r =>
          rw [h] at h2
          exact ⟨r, by rw [(List.cons.inj h2).1]⟩
      refine ⟨_, rfl, _, rfl, _, rfl, by show x.length ≤ 16777216; omega, _, _, rfl, ?_, fun H1 s1 => ?_⟩
      · rw [e2, SX.S_len, List.length_drop]
        omega
      · rw [e2, hr]
        have q2 := q H1 s1
        unfold readNum at q2
        rw [hr] at q2
        have q3 : Q (optV (match readCount r BIG with | none => none | some c => if c = 0 then none else some (-c))) H1 := q2
        have er : readCount (tl (SX.S ((45 :: r).drop 1))) 1000000000000 = readCount r BIG := rfl
        rw [er]
        cases hc : readCount r BIG with
        | none =>
          rw [hc] at q3
          exact ⟨_, rfl, rfl, _, rfl, iteT q3⟩
        | some c =>
          rw [hc] at q3
          have q4 : Q (optV (if c = 0 then none else some (-c))) H1 := q3
          refine ⟨_, rfl, rfl, _, rfl, iteF ⟨_, rfl, rfl, _, rfl, ?_⟩⟩
          show if decide (V.int c = V.int 0) = true then _ else _
          rw [int_eq]
          by_cases h0 : c = 0
          · rw [decide_eq_true h0]
            rw [if_pos h0] at q4
            exact iteT q4
          · rw [decide_eq_false h0]
            rw [if_neg h0] at q4
            exact iteF ⟨_, rfl, c, rfl, q4⟩
end
end K75
set_option maxHeartbeats 2000000
/-! k75: values, items, lines written -/
namespace K75
open PySem PySem.Spec PyProof.Rows L2 L2H
theorem log_small {i : Int} (h : i.natAbs < 2 ^ 64) : i.natAbs.log2 < 1920 := Nat.lt_trans (PySem.Flt.log2_lt_of (by decide : 0 < 64) h) (by decide)
theorem intL_len {i : Int} (h : i.natAbs < 2 ^ 64) : (intL i).length ≤ 21 := by
  have hn : (TL.numL i.natAbs).length ≤ 20 := TL.numL_len (by decide) (Nat.lt_trans h (by decide))
  unfold intL
  split
  · rw [List.length_cons]; omega
  · omega
theorem ints_of {K : PySem.W.Frag} {H : Hp} : ∀ {xs : List V} {ns : List Int}, DpAll K H xs (ns.map .int) → xs = ns.map V.int
  | _, [], .nil => rfl
  | _, n :: r, .cons a b => by
    cases a
    rw [ints_of b]
    rfl
theorem dp_ints {K : PySem.W.Frag} {H : Hp} : ∀ (ns : List Int), DpAll K H (ns.map V.int) (ns.map .int)
  | [] => .nil
  | n :: r => .cons (.int n) (dp_ints r)
theorem noLs_ints : ∀ ns : List Int, noL.noLs (ns.map .int) = true
  | [] => rfl
  | n :: r => by
    show (true && noL.noLs (r.map .int)) = true
    rw [noLs_ints r]
    rfl
theorem spl_len (S : List Nat) : ∀ (l : List Nat) (k : Nat) (acc : List Nat), (TL.spl S k acc l).length ≤ l.length + 1 ∧ ∀ p ∈ TL.spl S k acc l, p.length ≤ acc.length + l.length
  | [], k, acc => by
    rw [TL.spl_nil]
    refine ⟨Nat.le_refl _, fun p hp => ?_⟩
    rw [List.mem_singleton.mp hp]
    exact Nat.le_add_right _ _
  | c :: r, 0, acc => by
    cases h : TL.pre S (c :: r) with
    | true =>
      rw [TL.spl_hit h]
      have ih := spl_len S r (S.length - 1) []
      refine ⟨by rw [List.length_cons, List.length_cons]; omega, fun p hp => ?_⟩
      rcases List.mem_cons.mp hp with e | e
      · rw [e]
        exact Nat.le_add_right _ _
      · have := ih.2 p e
        rw [List.length_nil] at this
        rw [List.length_cons]
        omega
    | false =>
      rw [TL.spl_miss h]
      have ih := spl_len S r 0 (acc ++ [c])
      refine ⟨by rw [List.length_cons]; omega, fun p hp => ?_⟩
      have := ih.2 p hp
      rw [List.length_append, List.length_singleton] at this
      rw [List.length_cons]
      omega
  | c :: r, k + 1, acc => by
    have ih := spl_len S r k acc
    show (TL.spl S k acc r).length ≤ _ ∧ ∀ p ∈ TL.spl S k acc r, _
    refine ⟨by rw [List.length_cons]; omega, fun p hp => ?_⟩
    have := ih.2 p hp
    rw [List.length_cons]
    omega
def okItem : PyData → Prop
  | .none => True
  | .int i => i.natAbs < 2 ^ 64
  | .str x => x.length ≤ 1000
  | .tuple ds => ∃ ns : List Int, ds = ns.map .int ∧ ns.length ≤ 4 ∧ ∀ n ∈ ns, n.natAbs < 2 ^ 64
  | _ => False
theorem joinL_len (S : List Nat) : ∀ (ps : List (List Nat)) (m : Nat), (∀ p ∈ ps, p.length ≤ m) → (TL.joinL S ps).length ≤ ps.length * (m + S.length)
  | [], m, _ => Nat.zero_le _
  | [p], m, h => by
    have := h p (List.mem_cons_self ..)
    show p.length ≤ 1 * _
    omega
  | p :: q :: r, m, h => by
    have ih := joinL_len S (q :: r) m fun z hz => h z (List.mem_cons_of_mem _ hz)
    have := h p (List.mem_cons_self ..)
    show (p ++ (S ++ TL.joinL S (q :: r))).length ≤ _
    rw [List.length_append, List.length_append, List.length_cons, Nat.succ_mul]
    omega
theorem sum_le : ∀ (ys : List Str) (m : Nat), (∀ y ∈ ys, y.length ≤ m) → (ys.map (·.length)).sum ≤ ys.length * m
  | [], m, _ => Nat.zero_le _
  | y :: r, m, h => by
    have ih := sum_le r m fun z hz => h z (List.mem_cons_of_mem _ hz)
    have := h y (List.mem_cons_self ..)
    rw [List.map_cons, List.sum_cons, List.length_cons, Nat.succ_mul]
    omega
theorem itx_len {d : PyData} (h : okItem d) : (itx d).length ≤ 1000 := by
  cases d with
  | none => show 1 ≤ 1000; decide
  | int i =>
    have := intL_len (i := i) h
    show (intL i).length ≤ 1000
    omega
  | str x =>
    have : x.length ≤ 1000 := h
    rw [slen] at this
    exact this
  | tuple ds =>
    obtain ⟨ns, rfl, hl, hn⟩ := h
    rw [itx_nums]
    have := joinL_len [44] (ns.map intL) 21 (by
      intro p hp
      obtain ⟨n, hm, rfl⟩ := List.mem_map.mp hp
      exact intL_len (hn n hm))
    rw [List.length_map, List.length_singleton] at this
    omega
  | bool b => exact h.elim
  | list b => exact h.elim
  | dict b => exact h.elim
theorem join_S' (c : Nat) (ys : List (List Nat)) : Txt.join (SX.S [c]) (ys.map SX.S) = SX.S (TL.joinL [c] ys) := SX.join_S [c] ys
theorem split_S' {c : Nat} (hc : c < 256) (x : Str) : Txt.split x (SX.S [c]) = (TL.spl [c] 0 [] (tl x)).map SX.S := by
  have := SX.split_S (a := tl x) (b := [c]) (by simp) (by simpa using hc)
  rw [← str_of_tl x] at this
  exact this
section
variable {P : Program} {w : World} {K : PySem.W.Frag} {mg : Str → Option Value} {base : Heap}
abbrev ns_value_text : List Str := ["value", "number"]
theorem sc40 : FnScope ["value", "number"] ["value"] (defScope (top 40)) := ⟨rfl, rfl, rfl, by decide +kernel, rfl, by decide +kernel, by decide +kernel⟩
def sp_value_text (K : PySem.W.Frag) : Sp := fun vs H Q _ => ∃ a, ∃ ns : List Int, vs = [.ref a] ∧ SqT K H a (ns.map V.int) ∧ ns.length ≤ 4 ∧ (∀ n ∈ ns, n.natAbs < 2 ^ 64) ∧ ∀ H', Same H H' → Q (.str (SX.S (TL.joinL [44] (ns.map intL)))) H'
theorem d_value_text (T : Txt w K mg) : Def P w K mg base CX0 1 "value_text" ["value"] (sp_value_text K) := by
  obtain ⟨f, fd, F, m, b⟩ := T.a40
  refine ⟨f, fd, m, F.kp, b, F.ok sc40 (fun vs H Q E h => ?_) (fun cdv A outer s H vs Q E hr h => ?_)⟩
  · obtain ⟨a, ns, rfl, _⟩ := h; rfl
  · have nd := sc40.nd
    have hu := hr.units
    have hu1 : (A.deeper (envOfC "value_text" (defScope (top 40)) s.heap.objs.size f cdv)).units + 1 < cLine := by omega
    obtain ⟨a, ns, rfl, hs, hl, hn, q⟩ := h
    refine ⟨_, (pss_one (ps_ret (pe_join pe_str (pe_lc (own := [("number", 1)]) (g := (gName 1)) (tt := tYes) rfl nd (pi_tup (pv 0)) (blkOk_by (own := [("number", 1)]) (N := ns_value_text) (sc := defScope (top 40)) (by decide +kernel)) (fun _ _ _ _ _ => (pg_name (i := 1) nd rfl (Or.inl rfl))) (fun _ _ _ _ _ => pts_nil) (fun _ _ _ _ _ => (pe_callTy call_str_int (by rfl) T.b.str (by decide +kernel) (pa_cons (pv 1) pa_nil))))))), ?_⟩
    refine ⟨⟨_, rfl⟩, _, rfl, a, rfl, ⟨_, hs⟩, fun D hD => ?_⟩
    refine lc_tup (K := K) (a := a) (xs := ns.map V.int) (fun i H' => Same H H' ∧ H' D = some (.lst ((ns.take i).map fun n => V.str (SX.S (intL n))))) ⟨same_upd hD, upd_same⟩ (fun i H' _ ⟨s1, _⟩ => Same.sqT s1 hs) ?_ ?_
    · rintro i y H1 hy ⟨s1, hA⟩
      obtain ⟨n, hni, rfl⟩ := map_get hy
      have hm := List.mem_of_getElem? hni
      refine ⟨rfl, ?_⟩
      refine ⟨_, rfl, n, rfl, log_small (hn n hm), _, hA, ?_, same_upd2 s1 hD, ?_⟩
      · rw [List.length_map, List.length_take]
        show _ < 16777216
        omega
      · rw [upd_same, take_more hni, List.map_append, str_int]
        rfl
    · rintro H1 ⟨s1, hA⟩
      rw [List.length_map, List.take_length] at hA
      have e44 : ("," : Str) = SX.S [44] := by decide +kernel
      refine ⟨",", D, ns.map fun n => SX.S (intL n), rfl, rfl, .inl (.of (by rw [hA, List.map_map]; rfl)), ?_, ?_⟩
      · have := sum_le (ns.map fun n => SX.S (intL n)) 21 (by
          intro y hy
          obtain ⟨n, hm, rfl⟩ := List.mem_map.mp hy
          rw [SX.S_len]
          exact intL_len (hn n hm))
        rw [List.length_map] at this ⊢
        have e : (("," : Str)).length = 1 := by decide +kernel
        rw [e]
        omega
      · have e : Txt.join "," (ns.map fun n => SX.S (intL n)) = SX.S (TL.joinL [44] (ns.map intL)) := by
          rw [e44]
          have := join_S' 44 (ns.map intL)
          rw [List.map_map] at this
          exact this
        show Q (.str (Txt.join "," (ns.map fun n => SX.S (intL n)))) H1
        rw [e]
        exact q H1 s1
abbrev ns_read_value : List Str := ["text", "numbers", "word"]
theorem sc41 : FnScope ["text", "numbers", "word"] ["text"] (defScope (top 41)) := ⟨rfl, rfl, rfl, by decide +kernel, rfl, by decide +kernel, by decide +kernel⟩
def sp_read_value (K : PySem.W.Frag) : Sp := fun vs H Q _ => ∃ x, vs = [.str x] ∧ x.length ≤ 100000 ∧ ∀ H' v, Same H H' → Dp K H' v (readVal (tl x)) → Q v H'
theorem d_read_value (T : Txt w K mg) : Def P w K mg base CX0 4 "read_value" ["text"] (sp_read_value K) := by
  obtain ⟨f, fd, F, m, b⟩ := T.a41
  refine ⟨f, fd, m, F.kp, b, F.ok sc41 (fun vs H Q E h => ?_) (fun cdv A outer s H vs Q E hr h => ?_)⟩
  · obtain ⟨x, rfl, _⟩ := h; rfl
  · have nd := sc41.nd
    have hu := hr.units
    have hu1 : (A.deeper (envOfC "read_value" (defScope (top 41)) s.heap.objs.size f cdv)).units + 1 < cLine := by omega
    obtain ⟨x, rfl, hx, q⟩ := h
    refine ⟨_, (pss_cons (ps_setLc (i := 1) (own := [("word", 2)]) (g := (gName 2)) (tt := tYes) rfl nd rfl rfl (sw_true rfl rfl rfl (by decide +kernel)) (pi_list (pe_split (pv 0) pe_str)) (blkOk_by (own := [("word", 2)]) (N := ns_read_value) (sc := defScope (top 41)) (by decide +kernel)) (fun _ _ _ _ _ => (pg_name (i := 2) nd rfl (Or.inl rfl))) (fun _ _ _ _ _ => pts_nil) (fun _ _ _ _ _ => (pe_def (d_read_number T) (hr.mono (by decide)) (pa_cons (pv 2) pa_nil))))
      (pss_cons (ps_if (PW.pt (pw_or (pt_cmpR op_in_seq pe_non (pv 1) rfl) (pw_or1 (pt_cmpR op_gt (pe_callB call_len (by rfl) T.b.len (by decide +kernel) (pa_cons (pv 1) pa_nil)) pe_int (nomark _))))) (pss_one (ps_ret pe_non)) pss_nil)
      (pss_one (ps_ret (pe_callTy call_tuple_of (by rfl) T.b.tuple (by decide +kernel) (pa_cons (pv 1) pa_nil)))))), ?_⟩
    have e44 : ("," : Str) = SX.S [44] := by decide +kernel
    have hxl := slen x
    have sp := spl_len [44] (tl x) 0 []
    refine ⟨_, rfl, ⟨_, rfl⟩, x, ",", rfl, rfl, by decide +kernel, by show x.length + 2 ≤ 16777216; omega, fun p hp => ⟨p, rfl, ⟨_, .of upd_same⟩, fun D hD => ?_⟩⟩
    rw [e44, split_S' (by decide)] at hD ⊢
    generalize hws : TL.spl [44] 0 [] (tl x) = ws at sp hD ⊢
    have s0 := same_upd (o := .lst ((ws.map SX.S).map V.str)) hp
    have hDH : H D = none := s0.free hD
    have hpD : p ≠ D := by rintro rfl; rw [upd_same] at hD; cases hD
    refine lc_list (K := K) (a := p) (xs := (ws.map SX.S).map V.str) (fun i H' => Same (upd H p (.lst ((ws.map SX.S).map V.str))) H' ∧ H' D = some (.lst ((ws.take i).map fun z => optV (readNum z)))) ⟨same_upd hD, upd_same⟩ (fun i H' _ ⟨s1, _⟩ => s1.seq (.of upd_same)) ?_ ?_
    · rintro i y H1 hy ⟨s1, hA⟩
      obtain ⟨y1, hy1, rfl⟩ := map_get hy
      obtain ⟨z, hz, rfl⟩ := map_get hy1
      have hm := List.mem_of_getElem? hz
      have hzl := sp.2 z hm
      refine ⟨rfl, ?_⟩
      refine ⟨_, rfl, SX.S z, rfl, ?_, fun H2 s2 => ⟨_, s2 _ _ hA, ?_, same_upd2 (s1.trans s2) hD, ?_⟩⟩
      · rw [SX.S_len]
        rw [List.length_nil] at hzl
        omega
      · rw [List.length_map, List.length_take]
        show _ < 16777216
        omega
      · rw [upd_same, take_more hz, List.map_append]
        rfl
    · rintro H1 ⟨s1, hA⟩
      rw [List.length_map, List.length_map, List.take_length] at hA
      have s2 : Same H H1 := s0.trans s1
      have hi : inV .non (ws.map fun z => optV (readNum z)) = (ws.map readNum).any (·.isNone) := by
        unfold inV
        rw [List.any_map, List.any_map]
        refine congrArg (fun f => ws.any f) (funext fun z => ?_)
        show eqV (optV (readNum z)) .non = (readNum z).isNone
        cases readNum z <;> rfl
      have hflat : (ws.map fun z => optV (readNum z)).all flatV = true := by
        rw [List.all_map, List.all_eq_true]
        intro z _
        show flatV (optV (readNum z)) = true
        cases readNum z <;> rfl
      have rv : readVal (tl x) = if ((ws.map readNum).any (·.isNone) = true ∨ 4 < ws.length) then .none else .tuple (ws.map fun z => optD (readNum z)) := by
        unfold readVal
        rw [hws]
      refine ⟨_, rfl, D, _, rfl, .inl (.of hA), rfl, hflat, _, rfl, ?_⟩
      show if inV .non (ws.map fun z => optV (readNum z)) = true then _ else _
      rw [hi]
      refine ite2 (fun h1 => ?_) (fun h1 => ?_)
      · refine q H1 _ s2 ?_
        rw [rv, if_pos (Or.inl h1)]
        exact .non
      · refine ⟨_, rfl, _, _, rfl, .inl ⟨_, .of hA, rfl⟩, _, _, rfl, rfl, _, rfl, ?_⟩
        rw [List.length_map]
        refine ite2 (fun h2 => ?_) (fun h2 => ?_)
        · rw [decide_eq_true_eq] at h2
          refine q H1 _ s2 ?_
          rw [rv, if_pos (Or.inr (by omega))]
          exact .non
        · rw [decide_eq_true_eq] at h2
          refine ⟨_, rfl, D, _, rfl, .inl ⟨.of hA, fun t ht => ?_⟩⟩
          refine q _ _ (s2.trans (same_upd ht)) ?_
          rw [rv, if_neg (by rintro (z | z); exact h1 z; omega)]
          refine .tup (.of upd_same) ?_
          have : ∀ l : List (List Nat), (∀ z ∈ l, (readNum z).isNone = false) → DpAll K (upd H1 t (.tup (ws.map fun z => optV (readNum z)))) (l.map fun z => optV (readNum z)) (l.map fun z => optD (readNum z)) := by
            intro l
            induction l with
            | nil => exact fun _ => .nil
            | cons z r ih =>
              intro h
              refine .cons ?_ (ih fun y hy => h y (List.mem_cons_of_mem _ hy))
              show Dp K _ (optV (readNum z)) (optD (readNum z))
              cases readNum z with
              | none => exact .non
              | some i => exact .int i
          refine this ws fun z hz => ?_
          cases hq : (readNum z).isNone with
          | false => rfl
          | true => exact absurd (List.any_eq_true.mpr ⟨_, List.mem_map.mpr ⟨z, hz, rfl⟩, hq⟩) h1
abbrev ns_item_text : List Str := ["item"]
theorem sc44 : FnScope ["item"] ["item"] (defScope (top 44)) := ⟨rfl, rfl, rfl, by decide +kernel, rfl, by decide +kernel, by decide +kernel⟩
def sp_item_text (K : PySem.W.Frag) : Sp := fun vs H Q _ => ∃ v d, vs = [v] ∧ Dp K H v d ∧ okItem d ∧ ∀ H', Same H H' → Q (.str (SX.S (itx d))) H'
theorem d_item_text (T : Txt w K mg) : Def P w K mg base CX0 2 "item_text" ["item"] (sp_item_text K) := by
  obtain ⟨f, fd, F, m, b⟩ := T.a44
  refine ⟨f, fd, m, F.kp, b, F.ok sc44 (fun vs H Q E h => ?_) (fun cdv A outer s H vs Q E hr h => ?_)⟩
  · obtain ⟨v, d, rfl, _⟩ := h; rfl
  · have nd := sc44.nd
    have hu := hr.units
    have hu1 : (A.deeper (envOfC "item_text" (defScope (top 44)) s.heap.objs.size f cdv)).units + 1 < cLine := by omega
    obtain ⟨v, d, rfl, hv, ok, q⟩ := h
    refine ⟨_, (pss_cons (ps_if (pt_cmpR op_isN (pv 0) pe_non (nomark _)) (pss_one (ps_ret pe_str)) pss_nil)
      (pss_cons (ps_if (pt_val (pe_callB call_isi (by rfl) T.b.isinstance (by decide +kernel) (pa_cons (pv 0) (pa_cons (pe_bltn (v := .ty "tuple") (by rfl) T.b.tuple (by decide +kernel) rfl) pa_nil)))) (pss_one (ps_ret (pe_def (d_value_text T) (hr.mono (by decide)) (pa_cons (pv 0) pa_nil)))) pss_nil)
      (pss_one (ps_ret (pe_callTy (CallR.or call_str_int SkE.call_str_str) (by rfl) T.b.str (by decide +kernel) (pa_cons (pv 0) pa_nil)))))), ?_⟩
    refine ⟨_, rfl, rfl, _, rfl, ?_⟩
    cases hv with
    | non =>
      have e : ("-" : Str) = SX.S [45] := by decide +kernel
      refine iteT ?_
      have q2 := q H (Same.refl _)
      show Q (.str "-") H
      rw [e]
      exact q2
    | bl b => exact ok.elim
    | lst a b => exact ok.elim
    | int i =>
      refine iteF ⟨_, rfl, _, _, _, _, _, rfl, .ty _, .base (.int i), kitT (.int i), _, rfl, iteF ⟨_, rfl, .inl ⟨i, rfl, log_small ok, ?_⟩⟩⟩
      have q2 := q H (Same.refl _)
      show Q (.str (Str.ofString (toString i))) H
      rw [str_int]
      exact q2
    | str x =>
      refine iteF ⟨_, rfl, _, _, _, _, _, rfl, .ty _, .base (.str x), kitT (.str x), _, rfl, iteF ⟨_, rfl, .inr ⟨x, rfl, ?_⟩⟩⟩
      have q2 := q H (Same.refl _)
      have e : SX.S (itx (.str x)) = x := SX.S_tl x
      rw [e] at q2
      exact q2
    | @tup a xs ds hs ha =>
      obtain ⟨ns, rfl, hl, hn⟩ := ok
      refine iteF ⟨_, rfl, _, _, _, _, _, rfl, .ty _, tyX_of (.tup hs ha), kitT (.tuple (ns.map .int)), _, rfl, iteT ⟨_, rfl, a, ns, rfl, ?_, hl, hn, ?_⟩⟩
      · rw [← ints_of ha]
        exact hs
      · intro H1 s1
        have q2 := q H1 s1
        rw [itx_nums] at q2
        exact q2
abbrev ns_storedeed_text : List Str := ["deed", "item"]
theorem sc45 : FnScope ["deed", "item"] ["deed"] (defScope (top 45)) := ⟨rfl, rfl, rfl, by decide +kernel, rfl, by decide +kernel, by decide +kernel⟩
def sp_storedeed_text (K : PySem.W.Frag) : Sp := fun vs H Q _ => ∃ v ds, vs = [v] ∧ Dp K H v (.tuple ds) ∧ ds.length ≤ 10 ∧ (∀ d ∈ ds, okItem d) ∧ ∀ H', Same H H' → Q (.str (SX.S (TL.joinL [32] (ds.map itx)))) H'
theorem d_storedeed_text (T : Txt w K mg) : Def P w K mg base CX0 3 "storedeed_text" ["deed"] (sp_storedeed_text K) := by
  obtain ⟨f, fd, F, m, b⟩ := T.a45
  refine ⟨f, fd, m, F.kp, b, F.ok sc45 (fun vs H Q E h => ?_) (fun cdv A outer s H vs Q E hr h => ?_)⟩
  · obtain ⟨v, ds, rfl, _⟩ := h; rfl
  · have nd := sc45.nd
    have hu := hr.units
    have hu1 : (A.deeper (envOfC "storedeed_text" (defScope (top 45)) s.heap.objs.size f cdv)).units + 1 < cLine := by omega
    obtain ⟨v, ds, rfl, hv, hl, hn, q⟩ := h
    obtain ⟨a, xs, rfl, hs, ha⟩ : ∃ a xs, v = .ref a ∧ SqT K H a xs ∧ DpAll K H xs ds := by
      cases hv with
      | tup hs ha => exact ⟨_, _, rfl, hs, ha⟩
    refine ⟨_, (pss_one (ps_ret (pe_join pe_str (pe_lc (own := [("item", 1)]) (g := (gName 1)) (tt := tYes) rfl nd (pi_tup (pv 0)) (blkOk_by (own := [("item", 1)]) (N := ns_storedeed_text) (sc := defScope (top 45)) (by decide +kernel)) (fun _ _ _ _ _ => (pg_name (i := 1) nd rfl (Or.inl rfl))) (fun _ _ _ _ _ => pts_nil) (fun _ _ _ _ _ => (pe_def (d_item_text T) (hr.mono (by decide)) (pa_cons (pv 1) pa_nil))))))), ?_⟩
    have hxl := dpAll_len ha
    refine ⟨⟨_, rfl⟩, _, rfl, a, rfl, ⟨_, hs⟩, fun D hD => ?_⟩
    refine lc_tup (K := K) (a := a) (xs := xs) (fun i H' => Same H H' ∧ H' D = some (.lst ((ds.take i).map fun n => V.str (SX.S (itx n))))) ⟨same_upd hD, upd_same⟩ (fun i H' _ ⟨s1, _⟩ => Same.sqT s1 hs) ?_ ?_
    · rintro i y H1 hy ⟨s1, hA⟩
      have hi : i < ds.length := by rw [← hxl]; exact (List.getElem?_eq_some_iff.mp hy).1
      obtain ⟨d, hd⟩ : ∃ d, ds[i]? = some d := ⟨_, List.getElem?_eq_getElem hi⟩
      obtain ⟨y', hy', hyd⟩ := dpAll_get ha hd
      rw [hy] at hy'
      cases hy'
      have hm := List.mem_of_getElem? hd
      refine ⟨rfl, ?_⟩
      refine ⟨_, rfl, y, d, rfl, dp_same s1 hyd, hn d hm, fun H2 s2 => ⟨_, s2 _ _ hA, ?_, same_upd2 (s1.trans s2) hD, ?_⟩⟩
      · rw [List.length_map, List.length_take]
        show _ < 16777216
        omega
      · rw [upd_same, take_more hd, List.map_append]
        rfl
    · rintro H1 ⟨s1, hA⟩
      rw [hxl, List.take_length] at hA
      have e32 : (" " : Str) = SX.S [32] := by decide +kernel
      refine ⟨" ", D, ds.map fun n => SX.S (itx n), rfl, rfl, .inl (.of (by rw [hA, List.map_map]; rfl)), ?_, ?_⟩
      · have := sum_le (ds.map fun n => SX.S (itx n)) 1000 (by
          intro y hy
          obtain ⟨n, hm, rfl⟩ := List.mem_map.mp hy
          rw [SX.S_len]
          exact itx_len (hn n hm))
        rw [List.length_map] at this ⊢
        have e : ((" " : Str)).length = 1 := by decide +kernel
        rw [e]
        omega
      · have e : Txt.join " " (ds.map fun n => SX.S (itx n)) = SX.S (TL.joinL [32] (ds.map itx)) := by
          rw [e32]
          have := join_S' 32 (ds.map itx)
          rw [List.map_map] at this
          exact this
        show Q (.str (Txt.join " " (ds.map fun n => SX.S (itx n)))) H1
        rw [e]
        exact q H1 s1
abbrev ns_read_item : List Str := ["kind", "word"]
theorem sc46 : FnScope ["kind", "word"] ["kind", "word"] (defScope (top 46)) := ⟨rfl, rfl, rfl, by decide +kernel, rfl, by decide +kernel, by decide +kernel⟩
def sp_read_item (K : PySem.W.Frag) : Sp := fun vs H Q _ => ∃ k x, vs = [.str (SX.S [k]), .str x] ∧ x.length ≤ 100000 ∧ ∀ H' v, Same H H' → Dp K H' v (readItem k (tl x)) → Q v H'
theorem d_read_item (T : Txt w K mg) : Def P w K mg base CX0 5 "read_item" ["kind", "word"] (sp_read_item K) := by
  obtain ⟨f, fd, F, m, b⟩ := T.a46
  refine ⟨f, fd, m, F.kp, b, F.ok sc46 (fun vs H Q E h => ?_) (fun cdv A outer s H vs Q E hr h => ?_)⟩
  · obtain ⟨k, x, rfl, _⟩ := h; rfl
  · have nd := sc46.nd
    have hu := hr.units
    have hu1 : (A.deeper (envOfC "read_item" (defScope (top 46)) s.heap.objs.size f cdv)).units + 1 < cLine := by omega
    obtain ⟨k, x, rfl, hx, q⟩ := h
    refine ⟨_, (pss_cons (ps_if (pt_cmpR op_eq (pv 0) pe_str (nomark _)) (pss_one (ps_ret (pe_def (d_read_number T) (hr.mono (by decide)) (pa_cons (pv 1) pa_nil)))) pss_nil)
      (pss_cons (ps_if (pt_cmpR op_eq (pv 0) pe_str (nomark _)) (pss_one (ps_ret (pe_def (d_read_value T) (hr.mono (by decide)) (pa_cons (pv 1) pa_nil)))) pss_nil)
      (pss_one (ps_ret (pe_ifExp (PW.pt (pw_and (pt_cmpR op_eq (pv 0) pe_str (nomark _)) (pw_and1 (pt_cmpR op_eq (pv 1) pe_str (nomark _))))) pe_non (pv 1)))))), ?_⟩
    have en : ("n" : Str) = SX.S [110] := by decide +kernel
    have ev : ("v" : Str) = SX.S [118] := by decide +kernel
    have eo : ("o" : Str) = SX.S [111] := by decide +kernel
    have em : ("-" : Str) = SX.S [45] := by decide +kernel
    have es : ∀ j : Nat, decide (SX.S [k] = SX.S [j]) = decide (k = j) := fun j => by
      by_cases e : k = j
      · rw [e]; simp
      · rw [decide_eq_false e]
        exact decide_eq_false fun z => e (List.cons.inj (SX.S_inj z)).1
    refine ⟨_, rfl, rfl, _, rfl, ?_⟩
    rw [str_eq, en, es]
    unfold readItem at q
    refine ite2 (fun h1 => ?_) (fun h1 => ?_)
    · rw [decide_eq_true_eq] at h1
      refine ⟨_, rfl, x, rfl, by omega, fun H1 s1 => q H1 _ s1 ?_⟩
      rw [if_pos h1]
      cases readNum (tl x) with
      | none => exact .non
      | some i => exact .int i
    · rw [decide_eq_true_eq] at h1
      rw [if_neg h1] at q
      refine ⟨_, rfl, rfl, _, rfl, ?_⟩
      rw [str_eq, ev, es]
      refine ite2 (fun h2 => ?_) (fun h2 => ?_)
      · rw [decide_eq_true_eq] at h2
        rw [if_pos h2] at q
        exact ⟨_, rfl, x, rfl, hx, q⟩
      · rw [decide_eq_true_eq] at h2
        rw [if_neg h2] at q
        refine ⟨_, rfl, rfl, _, rfl, ?_⟩
        rw [str_eq, eo, es]
        refine ite2 (fun h3 => ?_) (fun h3 => ?_)
        · rw [decide_eq_true_eq] at h3
          refine ⟨_, rfl, rfl, _, rfl, ?_⟩
          rw [str_eq, em]
          refine ite2 (fun h4 => ?_) (fun h4 => ?_)
          · rw [decide_eq_true_eq] at h4
            refine q H _ (Same.refl _) ?_
            rw [if_pos ⟨h3, by rw [h4]⟩]
            exact .non
          · rw [decide_eq_true_eq] at h4
            refine ⟨_, rfl, q H _ (Same.refl _) ?_⟩
            rw [if_neg (fun z => h4 ((str_of_tl x).trans (congrArg SX.S z.2))), ← str_of_tl x]
            exact .str x
        · rw [decide_eq_true_eq] at h3
          refine ⟨_, rfl, q H _ (Same.refl _) ?_⟩
          rw [if_neg (fun z => h3 z.1), ← str_of_tl x]
          exact .str x
end
end K75
set_option maxHeartbeats 2000000
/-! rules that the layer lacks, 4: zip of a text and a list; get of a table of the top -/
namespace L2
open PySem PySem.Spec PyProof.Rows
/-- zip(x, l): a new pair each -/
def ItzS (K : PySem.W.Frag) (x : Str) (l : Addr) : It :=
  ⟨fun i H => i < x.cps.size ∧ ∃ ys, SqL K H l ys ∧ i < ys.length,
   fun i H v H' => ∃ T c y, v = .ref T ∧ H T = none ∧ H' = upd H T (.tup [.str ⟨#[c]⟩, y]) ∧ x.cps[i]? = some c ∧ ∀ ys, SqL K H l ys → ys[i]? = some y,
   fun i H => ∃ ys, SqL K H l ys ∧ i = min x.cps.size ys.length⟩
theorem turn_zipS {P : Program} {w : World} {K : PySem.W.Frag} {elts : List Expr} {kk : Nat} {tpos : Pos} {x : Str} {t : Tok} {l z TI TO i1 i2 : Addr} (S : ZipSep2 z TI TO i1 i2 [i1] [i2, l]) (hne : l ≠ i2) :
    Turn P w K (.Tuple elts kk tpos) (ItzS K x l) [z, TI, TO, i1, i2] z (fun i h => IsZip h z TI TO .none ∧ IsTupOf2 h TI (.ref i1) (.ref i2) ∧ (∃ a b, IsTupOf2 h TO a b) ∧ h.IsStrIter i1 (strIterType x) x t i ∧ h.IsListIter i2 l i) where
  mem := List.mem_cons_self ..
  obj := fun i h st c hc => by
    obtain ⟨hz, hTI, ⟨a, b, hTO⟩, ⟨o1, e1, _, d1⟩, ⟨o2, e2, _, d2⟩⟩ := st
    simp only [List.mem_cons, List.not_mem_nil, or_false] at hc
    rcases hc with rfl | rfl | rfl | rfl | rfl
    · exact ⟨_, hz, fun v q => nomatch q⟩
    · exact ⟨_, hTI, fun v q => nomatch q⟩
    · exact ⟨_, hTO, fun v q => nomatch q⟩
    · exact ⟨o1, e1, fun v q => by rw [d1] at q; cases q⟩
    · exact ⟨o2, e2, fun v q => by rw [d2] at q; cases q⟩
  keep := fun i h h' st k => by
    obtain ⟨hz, hTI, ⟨a, b, hTO⟩, ⟨o1, e1, r1⟩, h2⟩ := st
    exact ⟨k z (by simp) _ hz, k TI (by simp) _ hTI, ⟨a, b, k TO (by simp) _ hTO⟩, ⟨o1, k i1 (by simp) _ e1, r1⟩, h2.at fun o q => k i2 (by simp) o q⟩
  item := by
    intro X hP hw hK hc i pins s σ H E I hf st hg
    subst hP hw hK
    obtain ⟨hi1, ys, hq, hi2⟩ := hg
    obtain ⟨its, rv, p, _⟩ := I.list hq
    obtain ⟨hz, hTI, hTO, h1, h2⟩ := st
    have hh : X.A.in1.handled = none := I.ok.hd hc
    have hl : ys.length = its.length := rv.length
    have W := GoesN.zip2 (elts := elts) (x1 := kk) (pos := tpos) S (Draws.text (prog := X.prog) (w := X.w) hh i1 x t) (Draws.list (prog := X.prog) (w := X.w) hh i2 l hne its.toArray)
    have hsz : its.toArray.size = its.length := List.size_toArray
    refine W.goes i s (fun v s2 => ∃ y H', Inv X pins σ H' s2 ∧ RelV y v ∧ (ItzS X.K x l).yld i H y H' ∧ _ ∧ ∀ b ∈ [z, TI, TO, i1, i2], H' b = none) E (by omega) ⟨hz, hTI, hTO, h1, h2, p.isList⟩ fun v h' tk hY st' hk _ => ?_
    obtain ⟨T, xx, yy, rfl, hTn, ⟨c, u, hcx, rfl⟩, hyy, hT⟩ := hY
    obtain ⟨z', TI', TO', s1', l2', _⟩ := st'
    have hit : its[i]? = some yy := by rw [← hyy]; exact List.getElem?_toArray.symm
    obtain ⟨y, hy⟩ : ∃ y, ys[i]? = some y := ⟨_, List.getElem?_eq_getElem hi2⟩
    obtain ⟨u', hu', ru⟩ := rv.get hy
    rw [hit] at hu'
    cases hu'
    have hHT : H T = none := I.hok.fresh hTn
    have new : ObjOk X.prog X.w (upd H T (.tup [.str ⟨#[c]⟩, y])) h' T (.tup [.str ⟨#[c]⟩, y]) := ⟨by show 2 ≤ sizeLine; decide, [_, yy], .cons (show RelV (.str ⟨#[c]⟩) (Value.str ⟨#[c]⟩ u) from ⟨u, rfl⟩) (.cons ru .nil), hT⟩
    have J := I.turnedNew (t' := tk) (ch := [z, TI, TO, i1, i2]) (fun b o hb e => hk b o (fun q => hb (by simp only [List.mem_cons, List.not_mem_nil, or_false] at q ⊢; rcases q with q | q | q | q <;> simp [q])) e) hf hTn new
    refine ⟨.ref T, _, J, rfl, ⟨T, c, y, rfl, hHT, rfl, hcx, fun l' hl' => by rw [I.list_inj hl' hq]; exact hy⟩, ⟨z', TI', TO', s1', l2'⟩, fun b hb => ?_⟩
    have hlt : b < s.heap.objs.size := by
      obtain ⟨_, _, hTO0⟩ := hTO
      obtain ⟨_, e1, _⟩ := h1
      obtain ⟨_, e2, _⟩ := h2
      simp only [List.mem_cons, List.not_mem_nil, or_false] at hb
      rcases hb with rfl | rfl | rfl | rfl | rfl
      · exact Heap.lt_size hz
      · exact Heap.lt_size hTI
      · exact Heap.lt_size hTO0
      · exact Heap.lt_size e1
      · exact Heap.lt_size e2
    rw [upd_ne (Nat.ne_of_lt (Nat.lt_of_lt_of_le hlt hTn))]
    exact (hf b hb).1
  done := by
    intro X hP hw hK hc i pins s σ H E I hf st hg
    subst hP hw hK
    obtain ⟨ys, hq, hi⟩ := hg
    obtain ⟨its, rv, p, _⟩ := I.list hq
    obtain ⟨hz, hTI, hTO, h1, h2⟩ := st
    have hh : X.A.in1.handled = none := I.ok.hd hc
    have hl : ys.length = its.length := rv.length
    have W := GoesN.zip2 (elts := elts) (x1 := kk) (pos := tpos) S (Draws.text (prog := X.prog) (w := X.w) hh i1 x t) (Draws.list (prog := X.prog) (w := X.w) hh i2 l hne its.toArray)
    have hsz : its.toArray.size = its.length := List.size_toArray
    have hi' : i = min x.cps.size its.toArray.size := by rw [hsz, ← hl]; exact hi
    rw [hi'] at h1 h2
    refine W.stops s (fun s1 => Inv X pins σ H s1) E ⟨hz, hTI, hTO, h1, h2, p.isList⟩ fun h' tk hk _ => ?_
    exact I.turnedL (t' := tk) (ch := [z, TI, TO, i1, i2]) (fun b o hb e => hk b o (fun q => hb (by simp only [List.mem_cons, List.not_mem_nil, or_false] at q ⊢; rcases q with q | q | q | q <;> simp [q])) e) hf
  self := fun A i s Q E st h => wpAny_pyIter_zip st.1 h
def iZipS (K : PySem.W.Frag) (ta : TA) : TI := fun σ H R => ta σ H fun vs H1 => ∃ x l ys, vs = [.str x, .ref l] ∧ SqL K H1 l ys ∧ R (ItzS K x l) H1
theorem pi_zipS {X : Cx} {e e2 : Expr} {ta : TA} {p pos tpos : Pos} {elts : List Expr} {kk : Nat} (hg : Gl X "zip") (hm : X.mg "zip" = none) (ha : PA X [e, e2] ta)
    (hs : starEach [e, e2] X.env = (false, eval e X.env) :: starEach [e2] X.env := by rfl) (hpl : (backTo pos (starEach [e2] X.env)).any (·.1) = false := by rfl) :
    PI X (.Tuple elts kk tpos) (.Call (.Name "zip" p) [e, e2] [] pos) (iZipS X.K ta) := by
  refine ⟨fun pins s σ H R I h => ?_⟩
  refine Call_ (ld_blt I hg hm PyProof.Rows.boot_zip (PyProof.Rows.callWith_type1 (thn (ha.run pos pins s σ H _ I h) fun us s1 ⟨vs, H1, I1, r1, x, l, ys, ex, hq, q⟩ => ?_) hs hpl))
  subst ex
  cases r1 with
  | cons r rr =>
    cases rr with
    | cons r' rr =>
      cases rr
      cases r'
      obtain ⟨t, rfl⟩ := r
      obtain ⟨its, rv, pl, _⟩ := I1.list hq
      have hl : l < s1.heap.objs.size := pl.lt
      have S := zip_sep2 (N := s1.heap.objs.size) (fp1 := []) (fp2 := [l]) (fun b hb => absurd hb (by simp)) (fun b hb => by rw [List.mem_singleton.mp hb]; exact hl)
      refine zip_begins2 (begins_text x t) (begins_list l its.toArray) trivial pl.isList fun h' hz hTI hTO h1 h2 hsz hk => wpAny_pyIter_zip hz ?_
      have I2 : Inv X pins σ H1 { s1 with heap := h' } := I1.kept (t' := s1.toks) hk
      refine ⟨s1.heap.objs.size + 4, [s1.heap.objs.size + 4, s1.heap.objs.size + 2, s1.heap.objs.size + 3, s1.heap.objs.size, s1.heap.objs.size + 1], _, _, H1, rfl, I2, turn_zipS (t := t) S (Nat.ne_of_lt (Nat.lt_succ_of_lt hl)), ⟨hz, hTI, ⟨_, _, hTO⟩, ⟨_, h1, rfl, rfl⟩, ⟨_, h2, rfl, rfl⟩⟩, fun b hb => ?_, q⟩
      have hle : s1.heap.objs.size ≤ b := by
        simp only [List.mem_cons, List.not_mem_nil, or_false] at hb
        rcases hb with rfl | rfl | rfl | rfl | rfl
        · exact Nat.le_add_right _ _
        · exact Nat.le_add_right _ _
        · exact Nat.le_add_right _ _
        · exact Nat.le_refl _
        · exact Nat.le_add_right _ _
      exact I1.fpOk hle (I1.hok.fresh hle)
/-- a comprehension over such a zip -/
theorem lc_zipS {K : PySem.W.Frag} {x : Str} {l : Addr} {ys : List V} {g : TG} {tt : TT} {te : TE} {vs : List Nat} {σ : St} {H1 : Hp} {D : Addr} {Qd : Hp → Prop} (Pv : Nat → Hp → Prop) (h0 : Pv 0 (upd H1 D (.lst []))) (hl : ∀ i H, Pv i H → SqL K H l ys)
    (hs : ∀ i c y T H, x.cps[i]? = some c → ys[i]? = some y → H T = none → Pv i H → g (.ref T) (wipe σ vs) (upd H T (.tup [.str ⟨#[c]⟩, y])) fun σ2 H2 => wipe σ2 vs = wipe σ vs ∧ tt σ2 H2 fun b H3 =>
      if b = true then te σ2 H3 fun y H4 => ∃ acc, H4 D = some (.lst acc) ∧ acc.length < sizeLine ∧ Pv (i + 1) (upd H4 D (.lst (acc ++ [y]))) else Pv (i + 1) H3) (hd : ∀ H, Pv (min x.cps.size ys.length) H → Qd H) :
    ∃ W : Nat → Nat → Hp → Prop, (∃ m, W 0 m (upd H1 D (.lst []))) ∧ ∀ i m H, W i m H →
      ((ItzS K x l).stop i H ∧ Qd H) ∨ ((ItzS K x l).go i H ∧ ∃ Nx : Hp → Prop, (∀ H', Nx H' → ∃ m', m' < m ∧ W (i + 1) m' H') ∧ ∀ v H', (ItzS K x l).yld i H v H' → g v (wipe σ vs) H' fun σ2 H2 => wipe σ2 vs = wipe σ vs ∧ tt σ2 H2 fun b H3 =>
        if b = true then te σ2 H3 fun y H4 => ∃ acc, H4 D = some (.lst acc) ∧ acc.length < sizeLine ∧ Nx (upd H4 D (.lst (acc ++ [y]))) else Nx H3) := by
  refine ⟨fun i m H => m + i = min x.cps.size ys.length ∧ Pv i H, ⟨_, rfl, h0⟩, fun i m H ⟨e, q⟩ => ?_⟩
  by_cases hi : i < min x.cps.size ys.length
  · refine .inr ⟨⟨by omega, ys, hl i H q, by omega⟩, Pv (i + 1), fun H' q' => ⟨m - 1, by omega, by omega, q'⟩, ?_⟩
    rintro v H' ⟨T, c, y, rfl, hT, rfl, hc, hy⟩
    exact hs i c y T H hc (hy ys (hl i H q)) hT q
  · have hi' : i = min x.cps.size ys.length := by omega
    exact .inl ⟨⟨ys, hl i H q, hi'⟩, hd H (by rw [← hi']; exact q)⟩
/-! ### get of a written dict with text keys -/
def tGetK (K : PySem.W.Frag) (w : World) (to : TE) (t : TA) : TE := fun σ H Q => to σ H fun x H1 => ∃ (d : Addr) (es : Array DictEntry) (n : Nat), x = .ref d ∧ KDict K w d es n ∧
  t σ H1 fun xs H2 => ∃ (z : Str) (r : Option Value) (v : V), xs = [.str z] ∧ PySem.W.nsIn K d z = some r ∧ RelV v (r.getD .none) ∧ Q v H2
theorem pe_getK {X : Cx} {o e : Expr} {to : TE} {t : TA} {apos cpos : Pos} (ho : PE X o to) (ha : PA X [e] t)
    (hbase : attributeBase o "get" X.env (eval o X.env) = eval o X.env := by rfl)
    (hfew : ((backTo cpos (starEach [e] X.env)).all (fun x => !x.1) && (backToKw cpos (keywordEach [] X.env)).all (fun x => x.1.isSome)
      && decide ([e].length + ([] : List Keyword).length + (if ([] : List Keyword).isEmpty then 0 else 1) < 30)) = true := by rfl)
    (hline : (apos.endLine == cpos.line) = true := by rfl) (hs : starEach [e] X.env = (false, eval e X.env) :: starEach [] X.env := by rfl) (hplain : (backTo cpos (starEach [] X.env)).any (·.1) = false := by rfl) :
    PE X (.Call (.Attribute o "get" apos) [e] [] cpos) (tGetK X.K X.w to t) := by
  refine ⟨fun pins s σ H Q I h => ?_⟩
  refine wpAny_Call_method_late hbase hfew hline rfl (thn (ho.run pins s σ H _ I h) fun v s1 ⟨x, H1, I1, r1, d, es, n, ex, D, q1⟩ => ?_)
  subst ex
  obtain rfl : v = Value.ref d := r1
  have hm1 := PySem.W.mapOf_K (prog := X.prog) (w := X.w) I1.kIn D.at_ D.lit
  refine ⟨"dict", "dict.get", PySem.F.plainAttrs_dict, PySem.F.slot_dict_get, PySem.F.type_dict_get, hm1.typeIs, hm1.noDict, ?_⟩
  have hA := ha.run cpos pins s1 σ H1 _ I1 q1
  rw [hs] at hA ⊢
  refine Calls.callWith_builtin (by show (false || (backTo cpos (starEach [] X.env)).any (·.1)) = false; rw [hplain] <;> rfl) (Calls.evalArgs_plain ?_)
  refine thn hA fun us s2 ⟨vs, H2, I2, r2, z, r, v, ev, e, rv, q2⟩ => ?_
  subst ev
  obtain ⟨u, rfl, ru⟩ := vals1 r2
  obtain ⟨tk, rfl⟩ := ru
  have hm2 := PySem.W.mapOf_K (prog := X.prog) (w := X.w) I2.kIn D.at_ D.lit
  refine call_meetsIn PySem.F.slot_dict_get hm2.typeIs PySem.F.entry_dict_get (PySem.F.args_dict_get_2 _ _) (meets_dict_get (strKind X.prog X.w) d (strKind_is X.prog X.w z tk) D.low) ⟨_, hm2, v, H2, I2.tok _, ?_, q2⟩
  rw [PySem.W.find_K D.at_ e]
  exact rv
/-! ### a text many times -/
theorem rep_foldl (a : Array Nat) : ∀ (n : Nat) (acc : Array Nat), ((List.replicate n a).foldl (· ++ ·) acc).toList = acc.toList ++ (List.replicate n a.toList).flatten
  | 0, acc => by simp
  | n + 1, acc => by
    rw [List.replicate_succ, List.foldl_cons, rep_foldl a n, List.replicate_succ, List.flatten_cons, Array.toList_append, List.append_assoc]
def repL (l : List Nat) (n : Nat) : List Nat := (List.replicate n l).flatten
theorem repL_len (l : List Nat) : ∀ n, (repL l n).length = n * l.length
  | 0 => by simp [repL]
  | n + 1 => by
    have ih := repL_len l n
    unfold repL at *
    rw [List.replicate_succ, List.flatten_cons, List.length_append, ih, Nat.succ_mul]
    omega
def rRepS : R2 := fun x y H Q => ∃ (a : Str) (n : Int), x = .str a ∧ y = .int n ∧ 0 ≤ n ∧ n ≤ 1000 ∧ a.length ≤ 1000 ∧ Q (.str (SX.S (repL a.cps.toList n.toNat))) H
theorem op_rep_str {X : Cx} : OpR X (binaryOp .Mult) rRepS := by
  intro pins s σ H x y v u Q I rx ry h
  obtain ⟨a, n, rfl, rfl, h0, h1, h2, q⟩ := h
  obtain ⟨t1, rfl⟩ := rx
  obtain ⟨t2, rfl⟩ := ry
  refine P.mul_str ?_ ?_ ?_ ?_
  · rw [decide_eq_false (by omega), decide_eq_false (by omega)]
    rfl
  · intro hn _
    have : (2 ^ 63 - 1 : Int) / 1000 ≤ (2 ^ 63 - 1) / n := Int.le_ediv_of_mul_le (by omega) (by
      have : (2 ^ 63 - 1 : Int) / 1000 * 1000 ≤ 2 ^ 63 - 1 := by decide
      have h3 : (2 ^ 63 - 1 : Int) / 1000 * n ≤ (2 ^ 63 - 1 : Int) / 1000 * 1000 := Int.mul_le_mul_of_nonneg_left h1 (by decide)
      omega)
    have h4 : (1000 : Int) ≤ (2 ^ 63 - 1 : Int) / 1000 := by decide
    omega
  · intro _ _
    have hm : a.length * n.toNat ≤ 1000 * 1000 := Nat.mul_le_mul h2 (by omega)
    unfold Builtin.Str.tooLong
    rw [sizeLine_eq]
    exact decide_eq_false (by omega)
  · have e0 : ∀ m, SX.S (repL a.cps.toList m) = ⟨(List.replicate m a.cps).foldl (· ++ ·) #[]⟩ := fun m => TL.ext_tl (by
      show repL a.cps.toList m = ((List.replicate m a.cps).foldl (· ++ ·) #[]).toList
      rw [rep_foldl]
      rfl)
    by_cases hn : n < 1
    · rw [if_pos hn]
      have e : n.toNat = 0 := by omega
      rw [e] at q
      exact ⟨Nat.zero_le _, .str Str.empty, H, I.tok _, ⟨_, rfl⟩, q⟩
    · rw [if_neg hn]
      by_cases hz : (n == 1 || a.length == 0) = true
      · rw [if_pos hz]
        refine ⟨.str a, H, I, ⟨_, rfl⟩, ?_⟩
        have e : SX.S (repL a.cps.toList n.toNat) = a := by
          rw [Bool.or_eq_true, beq_iff_eq, beq_iff_eq] at hz
          rcases hz with z | z
          · subst z
            show SX.S (repL a.cps.toList 1) = a
            unfold repL
            rw [List.replicate_one, List.flatten_cons, List.flatten_nil, List.append_nil]
          · have z' : a.cps.toList = [] := List.length_eq_zero_iff.mp (by rw [Array.length_toList]; exact z)
            have : repL a.cps.toList n.toNat = [] := List.length_eq_zero_iff.mp (by rw [repL_len, z']; rfl)
            rw [this]
            have e2 := SX.S_tl a
            rw [z'] at e2
            exact e2
        rw [e] at q
        exact q
      · rw [if_neg hz]
        refine ⟨?_, .str (SX.S (repL a.cps.toList n.toNat)), H, I.tok _, ⟨_, by rw [e0]⟩, q⟩
        rw [← e0]
        have hm : a.length * n.toNat ≤ 1000 * 1000 := Nat.mul_le_mul h2 (by omega)
        rw [SX.S_len, repL_len, sizeLine_eq, Array.length_toList]
        have : a.length = a.cps.size := rfl
        rw [this, Nat.mul_comm] at hm
        omega
/-! ### dicts: another's pairs written in; asked whether it holds any -/
def rUpdate : V → List V → Hp → VK → Prop := fun x xs H Q => ∃ (d o : Addr) (kvs more : List (Key × V)), x = .ref d ∧ xs = [.ref o] ∧ d ≠ o ∧ H d = some (.dK kvs) ∧ H o = some (.dK more) ∧ kvs.length + more.length ≤ 1000 ∧ Q .non (upd H d (.dK (mergeK kvs more)))
theorem mt_update {X : Cx} : MtR X "dict.update" rUpdate := by
  intro pins s σ H x xs v us Q I rx rs h
  obtain ⟨d, o, kvs, more, rfl, rfl, hne, hd, ho, hl, q⟩ := h
  obtain rfl : v = Value.ref d := rx
  obtain ⟨u, rfl, ru⟩ := vals1 rs
  obtain rfl : u = Value.ref o := ru
  obtain ⟨z1, y1, vs1, r1, d1⟩ := (show ObjOk X.prog X.w H s.heap d (.dK kvs) from I.hok d _ hd)
  obtain ⟨z2, y2, vs2, r2, d2⟩ := (show ObjOk X.prog X.w H s.heap o (.dK more) from I.hok o _ ho)
  have hsz : vs1.length + vs2.length ≤ sizeLine := by rw [← r1.length, ← r2.length, sizeLine_eq]; omega
  refine call_meetsIn PySem.F.slot_dict_update d1.typeIs PySem.F.entry_dict_update (PySem.F.args_dict_update_2 _ _) (meets_dict_update (mixKind X.prog X.w) d o hne y2) ⟨vs1, vs2, d1, d2, hsz, fun h' hm _ hs => ?_⟩
  have hq : ∃ ob, h'.get? d = some ob := let ⟨ob, _, _, e, _⟩ := hm; ⟨ob, e⟩
  have := d_write (t' := s.toks) I (by rw [hd]; trivial) hs hq (dk_new (by have := length_mergeK more kvs; rw [sizeLine_eq]; omega) y1 (KV.merge r2 r1) hm)
  exact ⟨.non, _, this, rfl, q⟩
def rNeDE : R2 := fun x y H Q => ∃ a b ks, x = .ref a ∧ y = .ref b ∧ H a = some (.dK ks) ∧ H b = some (.dK []) ∧ Q (.bl (!ks.isEmpty)) H
theorem op_ne_dictE {X : Cx} (hu : X.A.units < cLine) : OpR X (compareOp .NotEq) rNeDE := by
  intro pins s σ H x y v u Q I rx ry h
  obtain ⟨a, b, ks, rfl, rfl, ea, eb, q⟩ := h
  obtain rfl : v = Value.ref a := rx
  obtain rfl : u = Value.ref b := ry
  obtain ⟨_, ya, va, ra, da⟩ := (show ObjOk X.prog X.w H s.heap a (.dK ks) from I.hok a _ ea)
  obtain ⟨_, yb, vb, rb, db⟩ := (show ObjOk X.prog X.w H s.heap b (.dK []) from I.hok b _ eb)
  have hb0 : vb = [] := List.length_eq_zero_iff.mp (by rw [← rb.length]; rfl)
  subst hb0
  refine PySem.W.keq_ne (knd := mixKind X.prog X.w) (r := true) ya yb da db hu (fun hl => ?_) ?_
  · have : va = [] := List.length_eq_zero_iff.mp hl
    subst this
    exact .nil
  · have e : (!(va.length == ([] : List (Key × Value)).length && true)) = !ks.isEmpty := by
      have hl := ra.length
      cases ks with
      | nil =>
        have : va.length = 0 := by rw [← hl]; rfl
        rw [this]; rfl
      | cons p r =>
        have : va.length = r.length + 1 := by rw [← hl]; rfl
        rw [this]; rfl
    rw [e]
    exact ⟨.bl (!ks.isEmpty), H, I, rfl, q⟩
end L2
set_option maxHeartbeats 2000000
/-! rules that the layer lacks, 5: a try whose first clause, with a name, matches, others behind it (turned from the layer's ps_try_as); isinstance of a caught error that has a dict (turned from the layer's call_isE) -/
namespace L2N
open PySem PySem.Spec PyProof.Rows
open L2 hiding ps_try_as ps_raise Takes XE CX St
/-- what the first clause 'except x as n' wishes of an exception of the body that it surely takes -/
def wAs1 (K : PySem.W.Frag) (c : Value) (i : Nat) (ts : Addr → Value → Option Addr → TS) (D : Ends) : WX := fun cls d σ H =>
  PySem.W.exmOne K cls c = some true ∧ ∀ a, H a = none → ts a cls d { nx := fun σ' H' => D.nx (σ'.set i none) H', rt := D.rt, bk := fun σ' H' => D.bk (σ'.set i none) H', ct := fun σ' H' => D.ct (σ'.set i none) H' } (σ.set i (some (.ref a))) H
section
variable {X : Cx} {x n : Str} {c : Value} {i : Nat} {body suite : List Stmt} {b₀ : Stmt} {hds : List ExceptHandler} {np pos pos' : Pos} {tb : WX → TS} {ts : Addr → Value → Option Addr → TS}
theorem ps_try_as1 (hs : X.stack = X.env :: X.outer) (hf : X.env.frame = some X.env.locals) (hN : X.N.Nodup) (hi : X.N[i]? = some n) (hln : X.env.kindOf n = some .local) (hc : Names X x c)
    (hb : ∀ (W : WX) (pn : List (Addr × Obj)) (xe : Value → Shared → Prop), Takes (X.tr pn xe) W → PassesOwn (model X.prog X.w) X.A X.env xe → PSs (X.tr pn xe) body (tb W))
    (hsu : ∀ (a : Addr) (oe : Obj) (cls : Value) (d : Option Addr) (pn : List (Addr × Obj)), Zn cls d oe → (∃ vs, oe.data = .fields vs) → PSs (X.suite a ((a, oe) :: pn)) (b₀ :: suite) (ts a cls d)) :
    PS X (.Try body (.ExceptHandler (some (.Name x np)) (some n) (b₀ :: suite) pos' :: hds) [] [] pos) (fun D σ H => tb (wAs1 X.K c i ts D) D σ H) := by
  refine ⟨fun pins s σ H D I h => ?_⟩
  have ok := I.ok
  have hfr : X.A.frames = some (X.env :: X.outer) := by rw [ok.frames, hs]
  have hloc : Loc X.env.scope n := .inl hln
  refine wpAny_Try_except ?_
  refine wpAny_mono ((hb (wAs1 X.K c i ts D) (X.pn ++ pins) (fun e s₁ => wpAny (model X.prog X.w) X.A (noteFrame e X.env) (fun _ s₂ => wpAny (model X.prog X.w) X.A (setFlight e none) (fun _ s₃ =>
    wpAny (model X.prog X.w) X.A (handleBy e X.env (.ExceptHandler (some (.Name x np)) (some n) (b₀ :: suite) pos' :: hds)) (SP X pins D) X.xe s₃) X.xe s₂) X.xe s₁) (fun u s' xx => ?_) PassesOwn.looking).run [] s σ H D (I.toTry _) h) (fun f s1 hsp => ?_) (fun e s1 he => he)
  · -- the catch
    obtain ⟨a, B, sI, pins', σ', H', cls, d, rfl, J', nb, up, sky, na, os, ag, hb1, hyes⟩ := xx
    have J : Inv X pins σ' H' sI := J'.ofTry ok
    have sky' : Sky B (X.env :: X.outer) a (Zn cls d) X.env.locals s'.heap := by rw [← hs]; exact sky
    show wpAny (model X.prog X.w) X.A (noteFrame (.ref a) X.env) _ _ _
    refine Sky.land Zn.steady hfr hf sky' fun h3 fl3 up3 => ?_
    have J3 : Inv X pins σ' H' { s' with heap := h3 } := J.landed nb fl3.1 (up.trans up3) os ag
    obtain ⟨oe3, vs3, he3, hz3, hd3⟩ := fl3.there
    have notFr : ∀ {h : Heap} {o : Obj} {vs : Array Value}, h.FunFrames B (X.env :: X.outer) → h.get? a = some o → o.data = .fields vs → a ∉ frs (X.env :: X.outer) := fun {h o vs} ff e dd hm => by
      obtain ⟨_, o', e', hnf⟩ := ff.mem hm
      rw [e] at e'; cases e'
      exact hnf _ dd
    have nfr := notFr fl3.2.2.1 he3 hd3
    have nL : a ≠ X.env.locals := fun z => nfr (List.mem_filterMap.mpr ⟨X.env, List.mem_cons_self, by rw [hf, z]⟩)
    have nF : a ∉ X.fs := fun hm => by
      obtain ⟨e, he, q⟩ := List.mem_filterMap.mp hm
      exact nfr (List.mem_filterMap.mpr ⟨e, List.mem_cons_of_mem _ he, q⟩)
    have S3 := J3.suite he3 hd3 na nL nF
    refine wpAny_handleBy_cons (codeAny_handlers_test ?_) (by intro q; cases q)
    have LT : PySem.W.Looks (model X.prog X.w) h3 (typeOf (.ref a)) cls := fun A Q E s k q => wpAny_typeOf_ref (k _ _ he3) (by rw [hz3.1]; exact q)
    have LM := PySem.W.exm_one (M := model X.prog X.w) (J3.kIn) LT hb1
    have test : ∀ {Q : Value → Shared → Prop} {E : Value → Shared → Prop}, Q c { s' with heap := h3 } → wpAny (model X.prog X.w) (X.A.mark (some (.ref a))) (eval (.Name x np) X.env) Q E { s' with heap := h3 } := fun {Q E} q => by
      obtain ⟨hg, hdbg, hm | ⟨hm, hv, hnn⟩⟩ := hc
      · exact ld_glob (X := X.suite a ((a, oe3) :: (X.pn ++ pins))) S3 hg hm q hdbg
      · exact ld_blt (X := X.suite a ((a, oe3) :: (X.pn ++ pins))) S3 hg hm hv q hnn hdbg
    refine test (LM.here ?_)
    refine codeAny_handlers_suite_as ?_
    refine HandSPX.lands_againZ fl3 fun h4 fl4 up4 => ?_
    have J4 : Inv X pins σ' H' { s' with heap := h4 } := J.landed nb fl4.1 ((up.trans up3).trans up4) os ag
    obtain ⟨oe4, vs4, he4, hz4, hd4⟩ := fl4.there
    have S4 := J4.suite he4 hd4 na nL nF
    refine store_ok (X := X.suite a ((a, oe4) :: (X.pn ++ pins))) (v := .ref a) S4 hN hi hloc rfl (fun s5 S5 => ?_) (.inr hln)
    refine wpAny_mono ((hsu a oe4 cls d (X.pn ++ pins) hz4 ⟨_, hd4⟩).run [] s5 _ H' _ S5 (hyes a na)) (fun f s6 hsp => ?_) (fun _ _ z => False.elim z)
    have end_ : ∀ {σ6 : St} {H6 : Hp} {Q : Shared → Prop}, Inv (X.suite a ((a, oe4) :: (X.pn ++ pins))) [] σ6 H6 s6 → (∀ s7, Inv X pins (σ6.set i none) H6 s7 → Q s7) →
        wpAny (model X.prog X.w) X.A (do bindName X.env n .none; unbindBehindTheSuite X.env n pos') (fun _ s7 => Q s7) X.xe s6 := fun {σ6 H6 Q} S6 hq => gone_ok (S6.unsuite ok) hN hi hln hq
    cases f with
    | next =>
      obtain ⟨σ6, H6, S6, q6⟩ := hsp
      exact end_ S6 fun s7 J7 => ⟨_, _, J7, q6⟩
    | brk =>
      obtain ⟨σ6, H6, S6, q6⟩ := hsp
      exact end_ S6 fun s7 J7 => ⟨_, _, J7, q6⟩
    | cont =>
      obtain ⟨σ6, H6, S6, q6⟩ := hsp
      exact end_ S6 fun s7 J7 => ⟨_, _, J7, q6⟩
    | ret u =>
      obtain ⟨v6, σ6, H6, S6, r6, q6⟩ := hsp
      exact end_ S6 fun s7 J7 => ⟨_, _, _, J7, r6, q6⟩
  · cases f with
    | next =>
      obtain ⟨σ', H', J', q⟩ := hsp
      exact wpAny_execs_nil ⟨σ', H', J'.ofTry ok, q⟩
    | brk =>
      obtain ⟨σ', H', J', q⟩ := hsp
      exact ⟨σ', H', J'.ofTry ok, q⟩
    | cont =>
      obtain ⟨σ', H', J', q⟩ := hsp
      exact ⟨σ', H', J'.ofTry ok, q⟩
    | ret u =>
      obtain ⟨v, σ', H', J', r, q⟩ := hsp
      exact ⟨v, σ', H', J'.ofTry ok, r, q⟩
end
end L2N
namespace PySem.W
open PySem PySem.Spec PySem.Calls PyProof.Rows
section
variable {prog : Program} {w : World} {A : Around} {E : Value → Shared → Prop} {s : Shared} {K : Frag} {x D : Addr} {ox : Obj}
theorem findObj_dataD {C : Addr} {od : Option Obj} {name : Str} {a g : Value} (hc : (clsIn K C).isSome = true) (ha : findIn K (.ref C) name = some (some a)) (hg : specialIn K a "__get__" = some (some g)) (ht : takesIn K a = some true) : findObj K C od name = some (.bind g a) := by
  obtain ⟨cd, hc⟩ := Option.isSome_iff_exists.mp hc
  unfold findObj
  rw [hc, Option.bind_some, ha, Option.bind_some]
  simp [hg, ht]
theorem kin_classD {od : Option Obj} {Q : Option Value → Shared → Prop} (hga : findIn K (.ref D) "__getattribute__" = some (some (.builtin "BaseException.__getattribute__"))) (hgt : findIn K (.ref D) "__getattr__" = some none) (hsub : subIn K (.ref D) (.type "BaseException") = some true)
    (hdct : hasDictIn K D = true) (ha : findIn K (.ref D) "__class__" = some (some (.builtin "object.__class__")))
    (hn : specialIn K (.builtin "object.__class__") "__get__" = some (some (.builtin "getset_descriptor.__get__"))) (htk : takesIn K (.builtin "object.__class__") = some true) (hm : mroIn K D (.type "object") = some true)
    (X : K.In s.heap) (I : InstAt s.heap x ox D od) (h : Q (some (.ref D)) { s with toks := s.toks + 1 }) : wpAny (model prog w) A (getAttr? (.ref x) "__class__") Q E s := by
  have hf : findObj K D od "__class__" = some (.bind (.builtin "getset_descriptor.__get__") (.builtin "object.__class__")) := findObj_dataD (by obtain ⟨cd, hc, _⟩ := any_some hdct; rw [hc]; rfl) ha hn htk
  obtain ⟨hp, g, d, t, os⟩ := s
  have L0 := I.type (M := model prog w)
  have L1 := looks_findIn (M := model prog w) X hga
  have L2 := looks_findIn (M := model prog w) X hgt
  have L3 := looks_find (M := model prog w) X I hf
  have sub : Looks (model prog w) hp (isInstance (.ref x) (.type "BaseException")) true := L0.andThen (looks_subIn X hsub)
  have hx0 : (false && onTheHeap (Value.builtin "BaseException.__getattribute__")) = false := rfl
  have hx2 : (Value.builtin "BaseException.__getattribute__" == Value.builtin "object.__getattribute__") = false := by decide +kernel
  have hx1 : (onTheHeap (Value.ref D) && Value.builtin "BaseException.__getattribute__" == Value.builtin "object.__getattribute__") = false := by rw [hx2]; rfl
  unfold getAttr? getAttrBy? getAttrBy
  refine wpAny_bind (wpAny_mkText (wpAny_bind (wpAny_attempt (wpAny_holding (wpAny_bind (L0.at (wpAny_bind (L1.at ?_))))))))
  show wpAny _ _ (if (onTheHeap (Value.ref D) && Value.builtin "BaseException.__getattribute__" == Value.builtin "object.__getattribute__") = true then _ else _) _ _ _
  rw [hx1, if_neg Bool.false_ne_true]
  unfold getAttrByItsOwn hookBefore
  refine wpAny_bind ?_
  rw [if_pos (show onTheHeap (Value.ref D) = true from rfl)]
  refine L2.at ?_
  refine wpAny_bind (wpAny_attempt (wpAny_holding ?_))
  unfold callGetattribute
  rw [hx0, if_neg Bool.false_ne_true]
  unfold boundAndCalled
  rw [PySem.F.excAttr_ValueError.ga.bind (.ref x)]
  refine wpAny_bind (wpAny_pure ?_)
  show wpAny _ _ (call (.builtin "BaseException.__getattribute__") [.ref x, .str "__class__" t]) _ _ _
  refine wpAny_call (codeAny_call_builtin PySem.F.excAttr_ValueError.ga.plain PySem.F.entry_bexc_ga ?_)
  refine @check_slot (model prog w) _ _ ⟨hp, g, d, t + 1, os⟩ "BaseException.__getattribute__" "BaseException" "__getattribute__" (.ref x) [.str "__class__" t] [] _ (by decide +kernel) (by decide +kernel) sub (PySem.F.args_bexc_ga (.ref x) (.str "__class__" t)) ?_
  unfold Builtin.«object.__getattribute__»
  refine wpAny_bind (wpAny_of_eq (a := ((Value.ref x : Value), [Value.str "__class__" t])) (by first | rfl | (simp only [slotArgs]; rfl)) ?_)
  refine wpAny_bind (wpAny_pure (wpAny_bind (L0.at (wpAny_bind (L3.at ?_)))))
  show wpAny _ _ (holding [Value.builtin "object.__class__"] (call (.builtin "getset_descriptor.__get__") [.builtin "object.__class__", .ref x, .ref D]) >>= ret) _ _ _
  refine wpAny_bind (wpAny_holding (wpAny_call (class_get (s := ⟨hp, g, d, t + 1, os⟩) (ox := ox) (od := od) X I hm ?_)))
  refine wpAny_pure ?_
  show wpAny _ _ (handedOut (.ref D)) _ _ _
  rw [handedOut_of (v := .ref D) rfl]
  first
    | exact wpAny_pure (wpAny_pure h)
    | exact wpAny_pure h
    | exact wpAny_pure (wpAny_bind (wpAny_pure (wpAny_pure h)))
theorem handS_kitx_excD (hga : findIn K (.ref D) "__getattribute__" = some (some (.builtin "BaseException.__getattribute__"))) (hgt : findIn K (.ref D) "__getattr__" = some none) (hsub : subIn K (.ref D) (.type "BaseException") = some true) (hdct : hasDictIn K D = true) (ha : findIn K (.ref D) "__class__" = some (some (.builtin "object.__class__")))
    (hn : specialIn K (.builtin "object.__class__") "__get__" = some (some (.builtin "getset_descriptor.__get__"))) (htk : takesIn K (.builtin "object.__class__") = some true) (hm : mroIn K D (.type "object") = some true) :
    KitX K (.ref x) (.ref D) (fun h => ∃ od, InstAt h x ox D od) where
  ty := fun _ _ _ ⟨_, I⟩ => I.type
  it := fun _ _ X _ => by
    obtain ⟨cdD, hcD, _⟩ := any_some hdct
    unfold clsIn at hcD
    split at hcD
    · rename_i c' d' cd' sl' ho
      intro A' Q' E' s' k q
      unfold isType loadHead
      exact wpAny_bind (wpAny_loadPart (k _ _ (X _ _ ho)) (wpAny_pure q))
    · cases hcD
  ne := fun h tp dd its n sl X htp => by
    obtain ⟨cdD, hcD, _⟩ := any_some hdct
    refine Bool.eq_false_iff.mpr fun q => ?_
    have e : D = tp := Value.ref.inj (beq_iff_eq.mp q)
    subst e
    unfold clsIn at hcD
    split at hcD
    · rename_i c' d' cd' sl' ho
      have z := (X _ _ ho).symm.trans htp
      cases z
    · cases hcD
  ca := fun X ⟨_, I⟩ k => kin_classD hga hgt hsub hdct ha hn htk hm X I k
end
end PySem.W
namespace L2
open PySem PySem.Spec PyProof.Rows
theorem call_isD {X : Cx} {a D dd : Addr} {oe : Obj} {pn : List (Addr × Obj)} (C : ExcC X.K D) (hz : Zc (.ref D) (some dd) oe) (hf : ∃ vs, oe.data = .fields vs) : CallR (X.suite a ((a, oe) :: pn)) (.builtin "isinstance") (fun xs H Q => (∃ fs, H dd = some (.xd fs)) ∧ rIsE X.K D a xs H Q) := by
  intro pins s σ H xs us Q I r h
  obtain ⟨⟨fs, hd⟩, c, cv, b, rfl, hcv, e, q⟩ := h
  cases r with
  | cons rx rr =>
    cases rr with
    | cons rt rr =>
      cases rr
      cases rx
      have ec := hcv _ rt
      subst ec
      obtain ⟨hget, _⟩ := I.pin (a, oe) (List.mem_append.mpr (.inl List.mem_cons_self))
      obtain ⟨vs, hv⟩ := hf
      have hx : ObjOk X.prog X.w H s.heap dd (.xd fs) := I.hok dd _ hd
      obtain ⟨mA, hns, hr⟩ := hx
      obtain ⟨od, ho, hl⟩ := lookIn_ns hns
      have J : PySem.W.InstAt s.heap a oe D (some od) := ⟨hget, hz.1, by unfold PySem.W.notCls; rw [hv] <;> rfl, by rw [hz.2]; exact ho⟩
      exact PySem.W.kia_one (PySem.W.handS_kitx_excD C.hg C.hk C.hs C.hd C.ha C.hn C.ht C.hm) I.kIn ⟨_, J⟩ e (fun z => nomatch z) fun tk => ⟨.bl b, H, I.kept (t' := tk) fun _ _ z => z, rfl, q⟩
end L2
set_option maxHeartbeats 2000000
/-! k75: the whole text by places; defs that may raise -/
namespace K75
open PySem PySem.Spec PyProof.Rows L2 L2H
/-- what the top has written of an error's class -/
structure Err1 (K : PySem.W.Frag) (mg : Str → Option Value) (x : Str) (C CR : Addr) : Prop where
  txt : ∃ fI, PySem.WhatX.ErrTxt K mg x C fI
  exc : ExcC K C
  gR : mg "Refused" = some (.ref CR)
  kit : PySem.W.kitOne K (.ref C) (.ref CR) = some true
theorem Err1.te {K : PySem.W.Frag} {mg : Str → Option Value} {x : Str} {C CR : Addr} (h : Err1 K mg x C CR) : PySem.W.exmOne K (.ref C) (.ref C) = some true := let ⟨_, t⟩ := h.txt; t.te
theorem Err1.gC {K : PySem.W.Frag} {mg : Str → Option Value} {x : Str} {C CR : Addr} (h : Err1 K mg x C CR) : mg x = some (.ref C) := let ⟨_, t⟩ := h.txt; t.gC
structure TxtX (w : World) (K : PySem.W.Frag) (mg : Str → Option Value) : Prop extends Txt w K mg where
  eD : ∃ C CR, Err1 K mg "BadStoreDeed" C CR
  eT : ∃ C CR, Err1 K mg "BadText" C CR
  a32 : At K mg "made_storedeed" "made_storedeed" (top 32) ["thing"]
  a47 : At K mg "read_storedeed" "read_storedeed" (top 47) ["text"]
  a49 : At K mg "_law_pool" "_law_pool" (top 49) ["script"]
  a50 : At K mg "_law_draw" "_law_draw" (top 50) ["pool", "many"]
  a51 : At K mg "_law_pick" "_law_pick" (top 51) ["pool", "things"]
  a52 : At K mg "_law_name" "_law_name" (top 52) ["pool", "most"]
  a53 : At K mg "_law_amount" "_law_amount" (top 53) ["pool"]
  a54 : At K mg "_law_amounts" "_law_amounts" (top 54) ["pool", "width"]
  a55 : At K mg "_law_table" "_law_table" (top 55) ["pool", "many"]
  a56 : At K mg "_law_maps" "_law_maps" (top 56) ["pool", "sources", "rows"]
  a57 : At K mg "_law_some_name" "_law_some_name" (top 57) ["pool", "maps", "source"]
  a58 : At K mg "_law_row_deed" "_law_row_deed" (top 58) ["pool", "maps", "word", "table"]
  a59 : At K mg "_law_store_deed" "_law_store_deed" (top 59) ["pool", "maps", "words"]
  a60 : At K mg "_law_has_signs" "_law_has_signs" (top 60) ["thing", "most"]
  a61 : At K mg "_law_tells" "_law_tells" (top 61) ["told", "due"]
  a62 : At K mg "_law_names_right" "_law_names_right" (top 62) ["pool"]
  a63 : At K mg "_law_has_dot" "_law_has_dot" (top 63) ["thing"]
  a64 : At K mg "_law_kinds" "_law_kinds" (top 64) ["word"]
  a65 : At K mg "_law_bad" "_law_bad" (top 65) ["pool", "kind"]
  a66 : At K mg "_law_refused" "_law_refused" (top 66) ["thing", "index"]
  a67 : At K mg "_law_unread" "_law_unread" (top 67) ["text"]
  a68 : At K mg "_law_part_text" "_law_part_text" (top 68) ["part"]
  a69 : At K mg "_law_deed_right" "_law_deed_right" (top 69) ["pool", "deed"]
  a70 : At K mg "law" "law" (top 70) ["script"]
section
variable (P : Program) (w : World) (K : PySem.W.Frag) (mg : Str → Option Value) (base : Heap)
abbrev DefX (k : Nat) (x : Str) (ps : List Str) (sp : Sp) : Prop := Def P w K mg base (L2N.CX P w) k x ps sp
end
/-- a call of a def that may raise -/
def tDefX (sp : Sp) (E : L2.St → XK) (t : TA) : TE := fun σ H Q => t σ H fun vs H1 => sp vs H1 Q (E σ)
section
variable {X : Cx} {k : Nat} {x : Str} {ps : List Str} {sp : Sp} {E : L2.St → XK} {p pos : Pos} {e : Expr} {es : List Expr} {t : TA}
theorem pe_defX (O : Def X.prog X.w X.K X.mg X.base (L2N.CX X.prog X.w) k x ps sp) (hr : Room k X.A) (hx : ∀ σ, PassesAt (L2N.CX X.prog X.w) X σ (E σ)) (ha : PA X (e :: es) t) (hg : Gl X x := by rfl) (hdb : (x == ("__debug__" : Str)) = false := by decide)
    (he : starEach (e :: es) X.env = (false, eval e X.env) :: starEach es X.env := by rfl) (hpl : (backTo pos (starEach es X.env)).any (·.1) = false := by rfl) : PE X (.Call (.Name x p) (e :: es) [] pos) (tDefX sp E t) := by
  obtain ⟨f, fd, m, kp, b, F⟩ := O
  exact ⟨fun pins s σ H Q I h => (pe_callS (E := E) F hr hg m kp b hx ha hdb he hpl).run pins s σ H Q I h⟩
theorem passN {σ : L2.St} : PassesAt (L2N.CX X.prog X.w) X σ E0 := fun pins H s e s' I h => by
  obtain ⟨_, _, _, _, _, _, _, _, _, _, _, _, z⟩ := h
  exact z.elim
/-- where no error is let out -/
theorem pe_defX0 (O : Def X.prog X.w X.K X.mg X.base (L2N.CX X.prog X.w) k x ps sp) (hr : Room k X.A) (ha : PA X (e :: es) t) (hg : Gl X x := by rfl) (hdb : (x == ("__debug__" : Str)) = false := by decide)
    (he : starEach (e :: es) X.env = (false, eval e X.env) :: starEach es X.env := by rfl) (hpl : (backTo pos (starEach es X.env)).any (·.1) = false := by rfl) : PE X (.Call (.Name x p) (e :: es) [] pos) (tDef sp t) :=
  pe_defX (E := fun _ => E0) O hr (fun _ => passN) ha hg hdb he hpl
/-- within a try -/
theorem pe_defXT {W : WX} (tk : L2N.Takes X W) (O : Def X.prog X.w X.K X.mg X.base (L2N.CX X.prog X.w) k x ps sp) (hr : Room k X.A) (ha : PA X (e :: es) t) (hg : Gl X x := by rfl) (hdb : (x == ("__debug__" : Str)) = false := by decide)
    (he : starEach (e :: es) X.env = (false, eval e X.env) :: starEach es X.env := by rfl) (hpl : (backTo pos (starEach es X.env)).any (·.1) = false := by rfl) : PE X (.Call (.Name x p) (e :: es) [] pos) (tDefX sp (WE W) t) :=
  pe_defX O hr (fun σ => L2N.passAt tk σ) ha hg hdb he hpl
end
section
variable {P : Program} {w : World} {K : PySem.W.Frag} {mg : Str → Option Value} {base : Heap}
theorem okXN {x qual : Str} {st : Stmt} {f : Addr} {fd : FuncData} {N ps : List Str} {k : Nat} {sp : Sp} (F : Fun K x qual st f fd) (S : FnScope N ps (defScope st)) (len : ∀ vs H Q E, sp vs H Q E → vs.length = ps.length)
    (hbody : ∀ (cdv : Value) (A : Around) (outer : List Env) (s : Shared) (H : Hp) (vs : List V) (Q : VK) (E : XK), Room k (A.deeper (envOfC qual (defScope st) s.heap.objs.size f cdv)) → sp vs H Q E →
      ∃ t, PSs (cxOf (L2N.CX P w) P w K mg base N qual (defScope st) f cdv A outer s H E) (defBody st) t ∧ t { nx := fun _ H' => Q .non H', rt := Q } (start N vs) H) : FnOk P w K mg base (L2N.CX P w) (k + 1) f fd ps sp := by
  obtain ⟨oc, od, kV, doc, pm, an, cdv, ct, osl, rfl, lk, hcd⟩ := F.ex
  exact fn_of lk hcd S len fun A outer s H vs Q E hr hsp => hbody cdv A outer s H vs Q E hr hsp
end
end K75
set_option maxHeartbeats 2000000
/-! k75: store deeds made and read -/
namespace K75
open PySem PySem.Spec PyProof.Rows L2 L2H
/-- an error of the class x, its what told, is let out -/
def Out (mg : Str → Option Value) (x : Str) (E : XK) (n : Int) (H : Hp) : Prop := ∀ C, mg x = some (.ref C) → ∀ H' d, Same H H' → H' d = some (.xd [(("what" : Str), .int n)]) → E (.ref C) (some d) H'
theorem cut_from (xs : List V) (k : Nat) : cutV xs (some (k : Int)) none = xs.drop k := by
  unfold cutV
  rw [HT.sIx_nat, HT.sIx_none]
  by_cases h : k ≤ xs.length
  · rw [Nat.min_eq_left h, List.take_of_length_le (by rw [List.length_drop]; omega)]
  · rw [Nat.min_eq_right (by omega), List.drop_of_length_le (Nat.le_refl xs.length), List.drop_of_length_le (by omega), List.take_nil]
theorem cut_1 (xs : List V) : cutV xs (some 1) none = xs.drop 1 := cut_from xs 1
theorem cut_to (xs : List V) (k : Nat) : cutV xs none (some (k : Int)) = xs.take k := by
  unfold cutV
  rw [HT.sIx_nat, HT.sIx_none, List.drop_zero, Nat.sub_zero]
  by_cases h : k ≤ xs.length
  · rw [Nat.min_eq_left h]
  · rw [Nat.min_eq_right (by omega)]
    exact (List.take_of_length_le (Nat.le_refl _)).trans (List.take_of_length_le (by omega)).symm
theorem cut_last (xs : List V) : cutV xs none (some (-1)) = xs.take (xs.length - 1) := by
  unfold cutV
  rw [HT.sIx_none, List.drop_zero, Nat.sub_zero]
  have : HT.sIx xs.length xs.length (some (-1)) = xs.length - 1 := by
    show (if (-1 : Int) < 0 then ((-1 : Int) + (xs.length : Int)).toNat else min (-1 : Int).toNat xs.length) = _
    rw [if_pos (by decide)]
    omega
  rw [this]
theorem spl_ne (S : List Nat) : ∀ (l : List Nat) (k : Nat) (acc : List Nat), TL.spl S k acc l ≠ []
  | [], k, acc => by rw [TL.spl_nil]; exact List.cons_ne_nil _ _
  | c :: r, 0, acc => by
    cases h : TL.pre S (c :: r) with
    | true => rw [TL.spl_hit h]; exact List.cons_ne_nil _ _
    | false => rw [TL.spl_miss h]; exact spl_ne S r 0 _
  | c :: r, k + 1, acc => spl_ne S r k acc
theorem noLs_items : ∀ (ds : List PyData), (∀ d ∈ ds, noL d = true) → noL.noLs ds = true
  | [], _ => rfl
  | d :: r, h => by
    show (noL d && noL.noLs r) = true
    rw [h d (List.mem_cons_self ..), noLs_items r fun x hx => h x (List.mem_cons_of_mem _ hx)]
    rfl
theorem noL_optD (o : Option Int) : noL (optD o) = true := by cases o <;> rfl
theorem noL_readVal (l : List Nat) : noL (readVal l) = true := by
  unfold readVal
  split
  · rfl
  · refine noLs_items _ fun d hd => ?_
    obtain ⟨z, _, rfl⟩ := List.mem_map.mp hd
    exact noL_optD _
theorem noL_readItem (k : Nat) (l : List Nat) : noL (readItem k l) = true := by
  unfold readItem
  split
  · exact noL_optD _
  · split
    · exact noL_readVal l
    · split <;> rfl
theorem noL_readAll {ks : List Kd} {ts : List (List Nat)} : ∀ d ∈ readAll ks ts, noL d = true := by
  intro d hd
  obtain ⟨j, hj⟩ := List.mem_iff_getElem?.mp hd
  unfold readAll at hj
  rw [List.getElem?_zipWith] at hj
  cases h1 : ks[j]? with
  | none => rw [h1] at hj; cases hj
  | some k =>
    cases h2 : ts[j]? with
    | none => rw [h1, h2] at hj; cases hj
    | some l =>
      rw [h1, h2] at hj
      have e : readItem (lt k) l = d := Option.some.inj hj
      rw [← e]
      exact noL_readItem _ _
theorem okT_readItem (k : Nat) (l : List Nat) (h : l.length ≤ 1000) : okT (readItem k l) := by
  unfold readItem
  split
  · cases readNum l <;> exact trivial
  · split
    · unfold readVal
      split <;> exact trivial
    · split
      · exact trivial
      · show (SX.S l).length ≤ 1000
        rw [SX.S_len]
        exact h
theorem okT_readAll {ks : List Kd} {ts : List (List Nat)} (h : ∀ z ∈ ts, z.length ≤ 1000) : ∀ d ∈ readAll ks ts, okT d := by
  intro d hd
  obtain ⟨j, hj⟩ := List.mem_iff_getElem?.mp hd
  unfold readAll at hj
  rw [List.getElem?_zipWith] at hj
  cases h1 : ks[j]? with
  | none => rw [h1] at hj; cases hj
  | some k =>
    cases h2 : ts[j]? with
    | none => rw [h1, h2] at hj; cases hj
    | some l =>
      rw [h1, h2] at hj
      have e : readItem (lt k) l = d := Option.some.inj hj
      rw [← e]
      exact okT_readItem _ _ (h l (List.mem_of_getElem? h2))
section
variable {P : Program} {w : World} {K : PySem.W.Frag} {mg : Str → Option Value} {base : Heap}
abbrev ns_made_storedeed : List Str := ["thing", "bad"]
theorem sc32 : FnScope ["thing", "bad"] ["thing"] (defScope (top 32)) := ⟨rfl, rfl, rfl, by decide +kernel, rfl, by decide +kernel, by decide +kernel⟩
def sp_made_storedeed (K : PySem.W.Frag) (mg : Str → Option Value) : Sp := fun vs H Q E => ∃ v d, vs = [v] ∧ Dp K H v d ∧ okF d ∧ (firstBad d < 0 → ∀ H', Same H H' → Q v H') ∧ (0 ≤ firstBad d → Out mg "BadStoreDeed" E (firstBad d) H)
theorem d_made_storedeed (T : TxtX w K mg) : Def P w K mg base (L2N.CX P w) 6 "made_storedeed" ["thing"] (sp_made_storedeed K mg) := by
  obtain ⟨f, fd, F, m, b⟩ := T.a32
  refine ⟨f, fd, m, F.kp, b, okXN F sc32 (fun vs H Q E h => ?_) (fun cdv A outer s H vs Q E hr h => ?_)⟩
  · obtain ⟨v, d, rfl, _⟩ := h; rfl
  · have nd := sc32.nd
    have hu := hr.units
    have hu1 : (A.deeper (envOfC "made_storedeed" (defScope (top 32)) s.heap.objs.size f cdv)).units + 1 < cLine := by omega
    obtain ⟨v, d, rfl, hv, ok, q1, q2⟩ := h
    obtain ⟨C, CR, eC⟩ := T.eD
    obtain ⟨fI, TE⟩ := eC.txt
    refine ⟨_, (pss_cons (ps_set (i := 1) nd rfl (Or.inl rfl) (pe_def (d_first_bad T.toTxt) (hr.mono (by decide)) (pa_cons (pv 0) pa_nil)))
      (pss_cons (ps_if (pt_cmpR op_ge (pv 1) pe_int (nomark _)) (pss_one (ps_raiseErr rfl TE hr (L2N.takes_of rfl rfl rfl rfl) (by exact (pa_cons (pv 1) pa_nil)))) pss_nil)
      (pss_one (ps_ret (pv 0))))), ?_⟩
    refine ⟨_, rfl, v, d, rfl, hv, ok, fun H1 s1 => ⟨_, rfl, _, _, rfl, rfl, _, rfl, ?_⟩⟩
    refine ite2 (fun h1 => ?_) (fun h1 => ?_)
    · rw [decide_eq_true_eq] at h1
      exact ⟨_, rfl, _, rfl, fun dd hdd => q2 h1 C eC.gC _ dd (s1.trans (same_upd hdd)) upd_same⟩
    · rw [decide_eq_true_eq] at h1
      exact ⟨_, rfl, q1 (by omega) H1 s1⟩
abbrev ns_read_storedeed : List Str := ["text", "words", "kinds", "items", "kind", "word", "deed"]
theorem sc47 : FnScope ["text", "words", "kinds", "items", "kind", "word", "deed"] ["text"] (defScope (top 47)) := ⟨rfl, rfl, rfl, by decide +kernel, rfl, by decide +kernel, by decide +kernel⟩
def sp_read_storedeed (K : PySem.W.Frag) (mg : Str → Option Value) : Sp := fun vs H Q E => ∃ x, vs = [.str x] ∧ x.length ≤ 100000 ∧ (∀ p ∈ TL.spl [32] 0 [] (tl x), p.length ≤ 1000) ∧ (∀ h t, TL.spl [32] 0 [] (tl x) = h :: t → kds (SX.S h) ≠ none ∨ h = []) ∧
  (∀ d, readWords (TL.spl [32] 0 [] (tl x)) = some d → ∀ H' v, Same H H' → Dp K H' v d → Q v H') ∧ (readWords (TL.spl [32] 0 [] (tl x)) = none → Out mg "BadText" E 0 H)
theorem d_read_storedeed (T : TxtX w K mg) : Def P w K mg base (L2N.CX P w) 7 "read_storedeed" ["text"] (sp_read_storedeed K mg) := by
  obtain ⟨f, fd, F, m, b⟩ := T.a47
  refine ⟨f, fd, m, F.kp, b, okXN F sc47 (fun vs H Q E h => ?_) (fun cdv A outer s H vs Q E hr h => ?_)⟩
  · obtain ⟨x, rfl, _⟩ := h; rfl
  · have nd := sc47.nd
    have hu := hr.units
    have hu1 : (A.deeper (envOfC "read_storedeed" (defScope (top 47)) s.heap.objs.size f cdv)).units + 1 < cLine := by omega
    obtain ⟨x, rfl, hx, hw, hh, q1, q2⟩ := h
    obtain ⟨C, CR, eC⟩ := T.eT
    obtain ⟨fI, TE⟩ := eC.txt
    obtain ⟨D, mD, ID⟩ := T.items
    obtain ⟨es, nD, kD⟩ := ID.kd
    refine ⟨_, (pss_cons (ps_set (i := 1) nd rfl (Or.inl rfl) (pe_split (pv 0) pe_str))
      (pss_cons (ps_set (i := 2) nd rfl (Or.inl rfl) (pe_getK (pe_glob (v := .ref D) (by rfl) mD rfl) (pa_cons (pe_ix ix_list (pv 1) pe_int (fun _ _ => rfl)) pa_nil)))
      (pss_cons (ps_if (PW.pt (pw_or (pt_cmpR op_isN (pv 2) pe_non (nomark _)) (pw_or1 (pt_cmpR op_ne (pe_callB call_len (by rfl) T.b.len (by decide +kernel) (pa_cons (pv 1) pa_nil)) (pe_op op_add (pe_callB call_len (by rfl) T.b.len (by decide +kernel) (pa_cons (pv 2) pa_nil)) pe_int) (nomark _))))) (pss_one (ps_raiseErr rfl TE hr (L2N.takes_of rfl rfl rfl rfl) (by exact (pa_cons pe_int pa_nil)))) pss_nil)
      (pss_cons (ps_setLc (i := 3) (own := [("kind", 4), ("word", 5)]) (g := (gTup K 2 (gCons (gName 4) (gCons (gName 5) gNil)))) (tt := tYes) rfl nd rfl rfl (sw_true rfl rfl rfl (by decide +kernel)) (pi_zipS (by rfl) T.b.zip (pa_cons (pv 2) (pa_cons (pe_slice sl_list (pv 1) (po_some pe_int) po_none) pa_nil))) (blkOk_by (own := [("kind", 4), ("word", 5)]) (N := ns_read_storedeed) (sc := defScope (top 47)) (by decide +kernel)) (fun _ _ _ _ _ => (pg_tup rfl (pgs_cons (pg_name (i := 4) nd rfl (Or.inl rfl)) (pgs_cons (pg_name (i := 5) nd rfl (Or.inl rfl)) pgs_nil)))) (fun _ _ _ _ _ => pts_nil) (fun _ _ _ _ _ => (pe_def (d_read_item T.toTxt) (hr.mono (by decide)) (pa_cons (pv 4) (pa_cons (pv 5) pa_nil)))))
      (pss_cons (ps_set (i := 6) nd rfl (Or.inl rfl) (pe_callTy call_tuple_of (by rfl) T.b.tuple (by decide +kernel) (pa_cons (pe_op op_cat (pe_lst (pa_cons (pe_ix ix_list (pv 1) pe_int (fun _ _ => rfl)) pa_nil)) (pv 3)) pa_nil)))
      (pss_cons (ps_if (pt_not (pt_val (pe_def (d_is_storedeed T.toTxt) (hr.mono (by decide)) (pa_cons (pv 6) pa_nil)))) (pss_one (ps_raiseErr rfl TE hr (L2N.takes_of rfl rfl rfl rfl) (by exact (pa_cons pe_int pa_nil)))) pss_nil)
      (pss_one (ps_ret (pv 6))))))))), ?_⟩
    have e32 : (" " : Str) = SX.S [32] := by decide +kernel
    have hxl := slen x
    have sp := spl_len [32] (tl x) 0 []
    refine ⟨_, rfl, ⟨_, rfl⟩, x, " ", rfl, rfl, by decide +kernel, by show x.length + 2 ≤ 16777216; omega, fun p hp => ?_⟩
    rw [e32, split_S' (by decide)]
    generalize hws : TL.spl [32] 0 [] (tl x) = ws at sp hw hh q1 q2 ⊢
    cases ws with
    | nil => exact absurd hws (spl_ne _ _ _ _)
    | cons h t =>
    have s0 := same_upd (o := .lst (((h :: t).map SX.S).map V.str)) hp
    have kx : ∃ r, PySem.W.nsIn K D (SX.S h) = some r ∧ ((kds (SX.S h) = none ∧ r = none) ∨ ∃ ks tk, kds (SX.S h) = some ks ∧ r = some (.str (SX.S (ks.map lt)) tk)) := by
      rcases hh h t rfl with z | z
      · cases hk : kds (SX.S h) with
        | none => exact absurd hk z
        | some ks =>
          obtain ⟨tk, e⟩ := ID.yes (SX.S h) ks (kds_mem hk)
          exact ⟨_, e, .inr ⟨ks, tk, rfl, rfl⟩⟩
      · subst z
        have e := ID.no
        exact ⟨_, e, .inl ⟨kds_empty, rfl⟩⟩
    obtain ⟨r, hr1, hr2⟩ := kx
    refine ⟨D, es, nD, rfl, kD, _, rfl, p, _, 0, .str (SX.S h), rfl, rfl, .of upd_same, at_of (j := 0) rfl rfl, ?_⟩
    rcases hr2 with ⟨hk, rfl⟩ | ⟨ks, tk, hk, rfl⟩
    · refine ⟨SX.S h, none, .non, rfl, hr1, rfl, ⟨_, rfl, rfl, _, rfl, iteT ?_⟩⟩
      exact ⟨_, rfl, fun dd hdd => q2 (readWords_none hk) C eC.gC _ dd (s0.trans (same_upd hdd)) upd_same⟩
    · refine ⟨SX.S h, _, .str (SX.S (ks.map lt)), rfl, hr1, ⟨_, rfl⟩, ⟨_, rfl, rfl, _, rfl, iteF ?_⟩⟩
      have l12 := (len12 _ ks (kds_mem hk)).1
      have l1 : (((h :: t).map SX.S).map V.str).length = t.length + 1 := by rw [List.length_map, List.length_map, List.length_cons]
      have l2 : (SX.S (ks.map lt)).length = ks.length := by rw [SX.S_len, List.length_map]
      refine ⟨_, rfl, _, _, rfl, .inl ⟨_, .of upd_same, rfl⟩, _, rfl, _, _, rfl, ⟨by rw [l2]; show ks.length ≤ 16777216; omega, rfl⟩, _, _, rfl, rfl, rfl, _, rfl, ?_⟩
      have hne : (!decide (V.int (((((h :: t).map SX.S).map V.str).length : Nat) : Int) = V.int (((SX.S (ks.map lt)).length : Int) + 1))) = !decide (t.length = ks.length) := by
        rw [int_eq, l1, l2]
        by_cases e : t.length = ks.length
        · rw [decide_eq_true e, decide_eq_true (by omega)]
        · rw [decide_eq_false e, decide_eq_false (by omega)]
      rw [hne]
      by_cases hl : t.length = ks.length
      · rw [decide_eq_true hl]
        refine iteF ?_
        refine ⟨_, rfl, _, rfl, ?_⟩
        refine ⟨1, rfl, p, _, rfl, .of upd_same, fun l hlp => ⟨_, l, _, rfl, .of upd_same, fun Dl hDl => ?_⟩⟩
        have ed : (((h :: t).map SX.S).map V.str).drop 1 = (t.map SX.S).map V.str := rfl
        rw [cut_1, ed] at hDl ⊢
        generalize hH0 : upd H p (HO.lst (((h :: t).map SX.S).map V.str)) = H0 at hlp hDl ⊢
        have s0' : Same H H0 := by rw [← hH0]; exact same_upd hp
        have hp0 : H0 p = some (.lst (V.str (SX.S h) :: (t.map SX.S).map V.str)) := by rw [← hH0]; exact upd_same
        have s1 : Same H0 (upd H0 l (.lst ((t.map SX.S).map V.str))) := same_upd hlp
        generalize hH1 : upd H0 l (HO.lst ((t.map SX.S).map V.str)) = H1 at hDl s1 ⊢
        have hl1 : H1 l = some (.lst ((t.map SX.S).map V.str)) := by rw [← hH1]; exact upd_same
        have hsz : (SX.S (ks.map lt)).cps.size = ks.length := l2
        have hlen2 : ((t.map SX.S).map V.str).length = t.length := by rw [List.length_map, List.length_map]
        refine lc_zipS (K := K) (x := SX.S (ks.map lt)) (l := l) (ys := (t.map SX.S).map V.str) (fun i H' => Same H1 H' ∧ ∃ acc, H' Dl = some (.lst acc) ∧ DpAll K H' acc ((readAll ks t).take i)) ⟨same_upd hDl, [], upd_same, .nil⟩ (fun i H' ⟨s2, _⟩ => .of (s2 _ _ hl1)) ?_ ?_
        · rintro i c y T1 H2 hci hyi hT ⟨s2, acc, hA, hacc⟩
          have hi : i < ks.length := by
            rw [← hsz]
            exact (Array.getElem?_eq_some_iff.mp hci).1
          obtain ⟨k0, hk0⟩ : ∃ k0, ks[i]? = some k0 := ⟨_, List.getElem?_eq_getElem hi⟩
          have hck : c = lt k0 := by
            have e1 : (ks.map lt)[i]? = some c := by
              rw [← hci]
              show (ks.map lt)[i]? = (ks.map lt).toArray[i]?
              exact List.getElem?_toArray.symm
            rw [List.getElem?_map, hk0] at e1
            exact (Option.some.inj e1).symm
          obtain ⟨y1, hy1, rfl⟩ := map_get hyi
          obtain ⟨z, hz, rfl⟩ := map_get hy1
          have hzm : z ∈ h :: t := List.mem_cons_of_mem _ (List.mem_of_getElem? hz)
          have hzl := hw z hzm
          subst hck
          have hDT : Dl ≠ T1 := by rintro rfl; rw [hA] at hT; cases hT
          refine ⟨T1, _, rfl, .inl (.inl upd_same), rfl, _, _, rfl, _, _, rfl, rfl, rfl, ?_⟩
          refine ⟨_, rfl, _, rfl, lt k0, SX.S z, rfl, by rw [SX.S_len]; omega, fun H3 v s3 hv => ?_⟩
          have s23 : Same H2 H3 := (same_upd hT).trans s3
          have hA3 := s23 _ _ hA
          have hal : acc.length = min i (readAll ks t).length := by rw [dpAll_len hacc, List.length_take]
          refine ⟨acc, hA3, by rw [hal]; show _ < 16777216; omega, same_upd2 (s2.trans s23) hDl, acc ++ [v], upd_same, ?_⟩
          rw [take_more (readAll_get hk0 hz)]
          exact dpAll_app (dpAll_lst hA3 (noLs_items _ fun d hd => by
            exact noL_readAll d (List.mem_of_mem_take hd)) (dpAll_same s23 hacc)) (.cons (dp_lst hA3 (noL_readItem _ _) hv) .nil)
        · rintro H2 ⟨s2, acc, hA, hacc⟩
          rw [hsz, hlen2, hl, Nat.min_self] at hacc
          rw [List.take_of_length_le (by rw [readAll_len]; omega)] at hacc
          have hp2 := s2 _ _ (s1 _ _ hp0)
          refine ⟨_, rfl, p, _, 0, .str (SX.S h), rfl, rfl, .of hp2, at_of (j := 0) rfl rfl, by show 1 ≤ 16777216; decide, fun b2 hb2 => ?_⟩
          have hal : acc.length = ks.length := by rw [dpAll_len hacc, readAll_len, hl, Nat.min_self]
          refine ⟨_, rfl, b2, Dl, _, acc, rfl, rfl, upd_same, same_upd hb2 _ _ hA, by rw [hal]; show 1 + ks.length ≤ 16777216; omega, fun b3 hb3 => ?_⟩
          refine ⟨b3, _, rfl, .inl ⟨.of upd_same, fun b4 hb4 => ?_⟩⟩
          have s3 : Same H2 (upd (upd (upd H2 b2 (HO.lst [V.str (SX.S h)])) b3 (HO.lst ([V.str (SX.S h)] ++ acc))) b4 (HO.tup ([V.str (SX.S h)] ++ acc))) := ((same_upd hb2).trans (same_upd hb3)).trans (same_upd hb4)
          generalize hH3 : upd (upd (upd H2 b2 (HO.lst [V.str (SX.S h)])) b3 (HO.lst ([V.str (SX.S h)] ++ acc))) b4 (HO.tup ([V.str (SX.S h)] ++ acc)) = H3 at s3 ⊢
          have h34 : H3 b4 = some (.tup (V.str (SX.S h) :: acc)) := by rw [← hH3]; exact upd_same
          have dv : Dp K H3 (.ref b4) (.tuple (.str (SX.S h) :: readAll ks t)) := .tup (.inl (.inl h34)) (.cons (.str _) (dpAll_same s3 hacc))
          have s03 : Same H H3 := (((s0'.trans s1).trans s2)).trans s3
          refine ⟨_, rfl, .ref b4, _, rfl, dv, ?_, fun H4 s4 => ?_⟩
          · refine ⟨fun e he => ?_, fun w ps e => .inl ?_⟩
            · rcases List.mem_cons.mp he with rfl | he
              · show (SX.S h).length ≤ 1000
                rw [SX.S_len]
                exact hw h (List.mem_cons_self ..)
              · exact okT_readAll (fun z hz => hw z (List.mem_cons_of_mem _ hz)) e he
            · have := (List.cons.inj e).1
              cases this
              rw [hk]
              exact Option.some_ne_none _
          · refine ⟨_, rfl, ?_⟩
            have s04 := s03.trans s4
            have hrw : readWords (h :: t) = if badPs (SX.S h) (readAll ks t) < 0 then some (PyData.tuple (PyData.str (SX.S h) :: readAll ks t)) else none := by
              rw [readWords_some hk, if_pos hl]
            show (if (!decide (badPs (SX.S h) (readAll ks t) < 0)) = true then _ else _)
            by_cases hb : badPs (SX.S h) (readAll ks t) < 0
            · rw [decide_eq_true hb]
              rw [if_pos hb] at hrw
              exact iteF ⟨_, rfl, q1 _ hrw H4 _ s04 (dp_same s4 dv)⟩
            · rw [decide_eq_false hb]
              rw [if_neg hb] at hrw
              exact iteT ⟨_, rfl, fun dd hdd => q2 hrw C eC.gC _ dd (s04.trans (same_upd hdd)) upd_same⟩
      · rw [decide_eq_false hl]
        refine iteT ?_
        exact ⟨_, rfl, fun dd hdd => q2 (words_len hk hl) C eC.gC _ dd (s0.trans (same_upd hdd)) upd_same⟩
end
end K75
set_option maxHeartbeats 2000000
/-! k75: the pool, what is drawn -/
namespace K75
open PySem PySem.Spec PyProof.Rows L2 L2H
/-- a pool at p, its cells at q -/
structure Pool (H : Hp) (p q : Addr) : Prop where
  ne : p ≠ q
  at_ : ∃ a b : Int, 0 ≤ a ∧ 0 ≤ b ∧ b < 4294967296 ∧ H p = some (.lst [.int a, .int b, .ref q])
  cells : ∃ cs : List Int, H q = some (.lst (cs.map V.int))
/-- all but the pool stands still -/
structure Fr (p q : Addr) (H H' : Hp) : Prop where
  keep : ∀ b o, b ≠ p → b ≠ q → H b = some o → H' b = some o
  pool : Pool H' p q
theorem Fr.refl {p q : Addr} {H : Hp} (P : Pool H p q) : Fr p q H H := ⟨fun _ _ _ _ e => e, P⟩
theorem Fr.trans {p q : Addr} {H H' H'' : Hp} (a : Fr p q H H') (b : Fr p q H' H'') : Fr p q H H'' := ⟨fun x o h1 h2 e => b.keep x o h1 h2 (a.keep x o h1 h2 e), b.pool⟩
theorem Pool.same {p q : Addr} {H H' : Hp} (P : Pool H p q) (s : Same H H') : Pool H' p q :=
  ⟨P.ne, let ⟨a, b, h1, h2, h3, h4⟩ := P.at_; ⟨a, b, h1, h2, h3, s _ _ h4⟩, let ⟨cs, h⟩ := P.cells; ⟨cs, s _ _ h⟩⟩
theorem Fr.of_same {p q : Addr} {H H' : Hp} (P : Pool H p q) (s : Same H H') : Fr p q H H' := ⟨fun x o _ _ e => s x o e, P.same s⟩
theorem Fr.more {p q : Addr} {H H' H'' : Hp} (a : Fr p q H H') (s : Same H' H'') : Fr p q H H'' := a.trans (.of_same a.pool s)
theorem Pool.p_ne {p q b : Addr} {H : Hp} (P : Pool H p q) (h : H b = none) : b ≠ p := by
  rintro rfl
  obtain ⟨_, _, _, _, _, e⟩ := P.at_
  rw [h] at e
  cases e
theorem Pool.q_ne {p q b : Addr} {H : Hp} (P : Pool H p q) (h : H b = none) : b ≠ q := by
  rintro rfl
  obtain ⟨_, e⟩ := P.cells
  rw [h] at e
  cases e
theorem Pool.ne_of {p q b : Addr} {H : Hp} {o : HO} (P : Pool H p q) (h : H b = some o) (no : ∀ xs, o ≠ .lst xs) : b ≠ p ∧ b ≠ q := by
  refine ⟨?_, ?_⟩
  · rintro rfl
    obtain ⟨_, _, _, _, _, e⟩ := P.at_
    rw [h] at e
    exact no _ (Option.some.inj e)
  · rintro rfl
    obtain ⟨_, e⟩ := P.cells
    rw [h] at e
    exact no _ (Option.some.inj e)
theorem Fr.tup {p q b : Addr} {H H' : Hp} {xs : List V} (F : Fr p q H H') (P : Pool H p q) (h : H b = some (.tup xs)) : H' b = some (.tup xs) :=
  let ⟨a, c⟩ := P.ne_of h (fun _ e => nomatch e); F.keep _ _ a c h
theorem Fr.dct {p q b : Addr} {H H' : Hp} {xs : List (Key × V)} (F : Fr p q H H') (P : Pool H p q) (h : H b = some (.dK xs)) : H' b = some (.dK xs) :=
  let ⟨a, c⟩ := P.ne_of h (fun _ e => nomatch e); F.keep _ _ a c h
theorem Fr.frz {p q b : Addr} {H H' : Hp} {o : Obj} {u : HO} (F : Fr p q H H') (P : Pool H p q) (h : H b = some (.frz o u)) : H' b = some (.frz o u) :=
  let ⟨a, c⟩ := P.ne_of h (fun _ e => nomatch e); F.keep _ _ a c h
theorem Fr.sqT {K : PySem.W.Frag} {p q b : Addr} {H H' : Hp} {xs : List V} (F : Fr p q H H') (P : Pool H p q) (h : SqT K H b xs) : SqT K H' b xs := by
  rcases h with (h | ⟨o, h⟩) | h
  · exact .inl (.inl (F.tup P h))
  · exact .inl (.inr ⟨o, F.frz P h⟩)
  · exact .inr h
theorem Fr.dp {K : PySem.W.Frag} {p q : Addr} {H H' : Hp} {v : V} {d : PyData} (F : Fr p q H H') (P : Pool H p q) (n : noL d = true) (h : Dp K H v d) : Dp K H' v d := dp_tups (fun _ _ e => F.tup P e) (fun _ _ _ e => F.frz P e) n h
theorem Fr.dpAll {K : PySem.W.Frag} {p q : Addr} {H H' : Hp} {vs : List V} {ds : List PyData} (F : Fr p q H H') (P : Pool H p q) (n : noL.noLs ds = true) (h : DpAll K H vs ds) : DpAll K H' vs ds := dpAll_tups (fun _ _ e => F.tup P e) (fun _ _ _ e => F.frz P e) n h
/-- a new object beside -/
theorem Fr.new {p q b : Addr} {H H' : Hp} {o : HO} (P : Pool H p q) (F : Fr p q H H') (h : H b = none) : Fr p q H (upd H' b o) := by
  have h1 := P.p_ne h
  have h2 := P.q_ne h
  refine ⟨fun x u a c e => ?_, F.pool.ne, ?_, ?_⟩
  · rw [upd_ne (by rintro rfl; rw [h] at e; cases e)]
    exact F.keep _ _ a c e
  · obtain ⟨a, c, z1, z2, z3, e⟩ := F.pool.at_
    exact ⟨a, c, z1, z2, z3, by rw [upd_ne h1.symm]; exact e⟩
  · obtain ⟨cs, e⟩ := F.pool.cells
    exact ⟨cs, by rw [upd_ne h2.symm]; exact e⟩
theorem Fr.at {p q b : Addr} {H0 H H' : Hp} {o : HO} (F : Fr p q H H') (P : Pool H0 p q) (n : H0 b = none) (h : H b = some o) : H' b = some o := F.keep _ _ (P.p_ne n) (P.q_ne n) h
theorem Fr.set {p q : Addr} {H H' : Hp} (F : Fr p q H H') {a b : Int} (h1 : 0 ≤ a) (h2 : 0 ≤ b) (h3 : b < 4294967296) : Fr p q H (upd H' p (.lst [.int a, .int b, .ref q])) := by
  refine ⟨fun x u z1 z2 e => by rw [upd_ne z1]; exact F.keep _ _ z1 z2 e, F.pool.ne, ⟨a, b, h1, h2, h3, upd_same⟩, ?_⟩
  obtain ⟨cs, e⟩ := F.pool.cells
  exact ⟨cs, by rw [upd_ne F.pool.ne.symm]; exact e⟩
theorem Fr.cell {p q : Addr} {H H' : Hp} (F : Fr p q H H') (cs : List Int) : Fr p q H (upd H' q (.lst (cs.map V.int))) := by
  refine ⟨fun x u z1 z2 e => by rw [upd_ne z2]; exact F.keep _ _ z1 z2 e, F.pool.ne, ?_, cs, upd_same⟩
  obtain ⟨a, b, h1, h2, h3, e⟩ := F.pool.at_
  exact ⟨a, b, h1, h2, h3, by rw [upd_ne F.pool.ne]; exact e⟩
theorem mod_lo (x : Int) {m : Int} (h : 0 < m) : 0 ≤ x % m := Int.emod_nonneg x (by omega)
theorem mod_hi (x : Int) {m : Int} (h : 0 < m) : x % m < m := Int.emod_lt_of_pos x h
theorem m3_lo (x : Int) : 0 ≤ x % 2147483629 + 3 := by
  have := mod_lo x (by decide : (0 : Int) < 2147483629)
  omega
theorem m3_hi (x : Int) : x % 2147483629 + 3 < 4294967296 := by
  have := mod_hi x (by decide : (0 : Int) < 2147483629)
  omega
theorem div_ok {x j : Int} (h : 1 ≤ j) (h2 : j < 4294967296) : CDivW x j := ⟨by omega, Nat.lt_trans (PySem.Flt.log2_lt_of (by decide : 0 < 32) (by show j.natAbs < 4294967296; omega)) (by decide)⟩
theorem seq0 (n : Nat) : seqIndex? 0 (n + 1) = some 0 := by
  unfold seqIndex?
  rw [if_neg (by decide : ¬ (0 : Int) < 0), if_pos (by rw [Bool.and_eq_true, decide_eq_true_eq, decide_eq_true_eq]; omega)]
  rfl
def cellSize (i : Int) : Int := if 0 ≤ i then 2 * i else -1 - 2 * i
theorem cellSize_pos (i : Int) : 0 ≤ cellSize i := by unfold cellSize; split <;> omega
/-- what stands between two statements -/
theorem seq_mid {A R : TS} {D : Ends} {σ : L2.St} {H : Hp} (C : L2.St → Hp → Prop) (hR : ∀ σ' H', C σ' H' → R D σ' H') (hA : (∀ σ' H', C σ' H' → R D σ' H') → A { D with nx := R D } σ H) : tSeq A R D σ H := hA hR
section
variable {P : Program} {w : World} {K : PySem.W.Frag} {mg : Str → Option Value} {base : Heap}
abbrev ns__law_pool : List Str := ["script", "first", "size"]
theorem sc49 : FnScope ["script", "first", "size"] ["script"] (defScope (top 49)) := ⟨rfl, rfl, rfl, by decide +kernel, rfl, by decide +kernel, by decide +kernel⟩
def sp__law_pool (K : PySem.W.Frag) : Sp := fun vs H Q _ => ∃ a, ∃ ns : List Int, vs = [.ref a] ∧ SqL K H a (ns.map V.int) ∧ ns.length ≤ 100000 ∧ ∀ p q H', H p = none → H q = none → Same H H' → Pool H' p q → Q (.ref p) H'
theorem d__law_pool (T : TxtX w K mg) : Def P w K mg base CX0 1 "_law_pool" ["script"] (sp__law_pool K) := by
  obtain ⟨f, fd, F, m, b⟩ := T.a49
  refine ⟨f, fd, m, F.kp, b, F.ok sc49 (fun vs H Q E h => ?_) (fun cdv A outer s H vs Q E hr h => ?_)⟩
  · obtain ⟨a, ns, rfl, _⟩ := h; rfl
  · have nd := sc49.nd
    have hu := hr.units
    have hu1 : (A.deeper (envOfC "_law_pool" (defScope (top 49)) s.heap.objs.size f cdv)).units + 1 < cLine := by omega
    obtain ⟨a, ns, rfl, hs, hl, q⟩ := h
    refine ⟨_, (pss_cons (ps_set (i := 1) nd rfl (Or.inl rfl) (pe_ifExp (pt_cmpR op_gt (pe_callB call_len (by rfl) T.b.len (by decide +kernel) (pa_cons (pv 0) pa_nil)) pe_int (nomark _)) (pe_callTy call_int1 (by rfl) T.b.int (by decide +kernel) (pa_cons (pe_ix ix_list (pv 0) pe_int (fun _ _ => rfl)) pa_nil)) pe_int))
      (pss_cons (ps_set (i := 2) nd rfl (Or.inl rfl) (pe_ifExp (pt_cmpR op_ge (pv 1) pe_int (nomark _)) (pe_op op_mul pe_int (pv 1)) (pe_op op_sub (pe_un un_neg pe_int) (pe_op op_mul pe_int (pv 1)))))
      (pss_one (ps_ret (pe_lst (pa_cons (pe_ifExp (pt_cmpR op_ge (pv 2) (pe_op op_pow pe_int pe_int) (nomark _)) (pv 2) pe_int) (pa_cons (pe_op op_add (pe_op op_mod (pe_callTy call_int1 (by rfl) T.b.int (by decide +kernel) (pa_cons (pe_op op_add (pe_op op_mul (pv 2) pe_int) pe_int) pa_nil)) pe_int) pe_int) (pa_cons (pe_callTy call_list_of (by rfl) T.b.list (by decide +kernel) (pa_cons (pe_slice sl_list (pv 0) (po_some pe_int) po_none) pa_nil)) pa_nil)))))))), ?_⟩
    have fin : ∀ x y : Int, 0 ≤ x → ∀ (H' : Hp) (l : Addr) (ms : List Int), Same H H' → H l = none → H' l = some (.lst (ms.map V.int)) → ∀ p, H' p = none → Q (.ref p) (upd H' p (.lst [.int x, .int (y % 2147483629 + 3), .ref l])) := by
      intro x y h0 H' l ms s1 hl e p hp
      have hpl : p ≠ l := by rintro rfl; rw [e] at hp; cases hp
      refine q p l _ (s1.free hp) hl (s1.trans (same_upd hp)) ⟨hpl, ⟨_, _, h0, ?_, ?_, upd_same⟩, ms, by rw [upd_ne hpl.symm]; exact e⟩
      · have := Int.emod_nonneg y (by decide : (2147483629 : Int) ≠ 0)
        omega
      · have := Int.emod_lt_of_pos y (by decide : (0 : Int) < 2147483629)
        omega
    have hcut : cutV (ns.map V.int) (some 1) none = (ns.drop 1).map V.int := by rw [cut_1, List.map_drop]
    have last : ∀ (x y : Int), 0 ≤ x → (∀ l0 : Addr, H l0 = none → ∀ l : Addr, upd H l0 (.lst (cutV (ns.map V.int) (some 1) none)) l = none → ∀ p : Addr, upd (upd H l0 (.lst (cutV (ns.map V.int) (some 1) none))) l (.lst (cutV (ns.map V.int) (some 1) none)) p = none →
        Q (.ref p) (upd (upd (upd H l0 (.lst (cutV (ns.map V.int) (some 1) none))) l (.lst (cutV (ns.map V.int) (some 1) none))) p (.lst [.int x, .int (y % 2147483629 + 3), .ref l]))) := by
      intro x y h0 l0 hl0 l hl p hp
      have s1 := same_upd (o := .lst (cutV (ns.map V.int) (some 1) none)) hl0
      exact fin x y h0 _ l (ns.drop 1) (s1.trans (same_upd hl)) (s1.free hl) (by rw [upd_same, hcut]) p hp
    refine ⟨_, rfl, _, _, rfl, .inl ⟨_, hs, rfl⟩, _, _, rfl, rfl, _, rfl, ?_⟩
    have h0 : decide ((0 : Int) < (((ns.map V.int).length : Nat) : Int)) = true → ∃ i, atI (ns.map V.int) 0 = some (.int i) := by
      intro e
      cases ns with
      | nil => exact absurd e (by decide)
      | cons n r => exact ⟨n, at_of (j := 0) rfl rfl⟩
    refine ite2 (fun h1 => (h0 h1).elim fun i hi => ⟨_, rfl, a, _, _, .int i, rfl, rfl, hs, hi, .inl ⟨i, rfl, ?_⟩⟩) (fun h1 => ?_)
    all_goals refine ⟨_, rfl, _, _, rfl, rfl, _, rfl, ?_⟩
    all_goals refine ite2 (fun h2 => ?_) (fun h2 => ?_)
    all_goals rw [decide_eq_true_eq] at h2
    all_goals first
      | refine ⟨_, rfl, _, _, rfl, rfl, .inl (by decide), ?_⟩
      | refine ⟨_, _, rfl, rfl, _, rfl, _, _, rfl, rfl, .inl (by decide), _, _, rfl, rfl, ?_⟩
      | refine ⟨_, rfl, _, rfl, _, _, rfl, rfl, .inl (by decide), _, _, rfl, rfl, ?_⟩
      | skip
    all_goals refine ⟨_, rfl, _, _, rfl, rfl, ⟨by decide, by decide, by decide⟩, _, _, rfl, rfl, _, rfl, ?_⟩
    all_goals refine ite2 (fun h3 => ?_) (fun h3 => ?_)
    all_goals first
      | refine ⟨_, rfl, _, rfl, _, _, rfl, rfl, .inr (by decide), _, _, rfl, rfl, .inl ⟨_, rfl, _, _, rfl, rfl, (by show (0 : Int) < 2147483629; decide), _, _, rfl, rfl, ?_⟩⟩
      | refine ⟨_, rfl, _, _, rfl, rfl, .inr (by decide), _, _, rfl, rfl, .inl ⟨_, rfl, _, _, rfl, rfl, (by show (0 : Int) < 2147483629; decide), _, _, rfl, rfl, ?_⟩⟩
    all_goals refine ⟨_, rfl, 1, rfl, a, _, rfl, hs, fun l0 hl0 => ⟨l0, _, rfl, .inl (.of upd_same), fun l hl => ⟨by show 3 ≤ 16777216; decide, fun p hp => ?_⟩⟩⟩
    all_goals exact last _ _ (by omega) l0 hl0 l hl p hp
abbrev ns__law_draw : List Str := ["pool", "many", "cell", "size", "found"]
theorem sc50 : FnScope ["pool", "many", "cell", "size", "found"] ["pool", "many"] (defScope (top 50)) := ⟨rfl, rfl, rfl, by decide +kernel, rfl, by decide +kernel, by decide +kernel⟩
def sp__law_draw (K : PySem.W.Frag) : Sp := fun vs H Q _ => ∃ p q many, vs = [.ref p, .int many] ∧ Pool H p q ∧ 1 ≤ many ∧ many < 4294967296 ∧ ∀ d H', 0 ≤ d → d < many → Fr p q H H' → Q (.int d) H'
theorem d__law_draw (T : TxtX w K mg) : Def P w K mg base CX0 1 "_law_draw" ["pool", "many"] (sp__law_draw K) := by
  obtain ⟨f, fd, F, m, b⟩ := T.a50
  refine ⟨f, fd, m, F.kp, b, F.ok sc50 (fun vs H Q E h => ?_) (fun cdv A outer s H vs Q E hr h => ?_)⟩
  · obtain ⟨p, q, many, rfl, _⟩ := h; rfl
  · have nd := sc50.nd
    have hu := hr.units
    have hu1 : (A.deeper (envOfC "_law_draw" (defScope (top 50)) s.heap.objs.size f cdv)).units + 1 < cLine := by omega
    obtain ⟨p, q, many, rfl, PL, hm1, hm2, q1⟩ := h
    refine ⟨_, (pss_cons (ps_if (PW.pt (pw_and (pt_cmpR op_eq (pe_ix ix_list (pv 0) pe_int (fun _ _ => rfl)) pe_int (nomark _)) (pw_and1 (pt_cmpR (op_neD hu) (pe_ix ix_list (pv 0) pe_int (fun _ _ => rfl)) (pe_lst pa_nil) (nomark _))))) (pss_cons (ps_set (i := 2) nd rfl (Or.inl rfl) (pe_callTy call_int1 (by rfl) T.b.int (by decide +kernel) (pa_cons (pe_bm PySem.F.plainAttrs_list PySem.F.slot_list_pop PySem.F.type_list_pop mt_popAt (pe_ix ix_list (pv 0) pe_int (fun _ _ => rfl)) (pa_cons pe_int pa_nil)) pa_nil)))
      (pss_cons (ps_set (i := 3) nd rfl (Or.inl rfl) (pe_ifExp (pt_cmpR op_ge (pv 2) pe_int (nomark _)) (pe_op op_mul pe_int (pv 2)) (pe_op op_sub (pe_un un_neg pe_int) (pe_op op_mul pe_int (pv 2)))))
      (pss_cons (ps_asg (pe_ifExp (pt_cmpR op_ge (pv 3) (pe_op op_pow pe_int pe_int) (nomark _)) (pv 3) pe_int) (pg_sub (pv 0) pe_int set_list))
      (pss_one (ps_asg (pe_op op_add (pe_op op_mod (pe_callTy call_int1 (by rfl) T.b.int (by decide +kernel) (pa_cons (pe_op op_add (pe_ix ix_list (pv 0) pe_int (fun _ _ => rfl)) (pe_op op_mul (pv 3) pe_int)) pa_nil)) pe_int) pe_int) (pg_sub (pv 0) pe_int set_list)))))) pss_nil)
      (pss_cons (ps_if (pt_cmpR op_gt (pe_ix ix_list (pv 0) pe_int (fun _ _ => rfl)) pe_int (nomark _)) (pss_cons (ps_set (i := 4) nd rfl (Or.inl rfl) (pe_op op_mod (pe_callTy call_int1 (by rfl) T.b.int (by decide +kernel) (pa_cons (pe_ix ix_list (pv 0) pe_int (fun _ _ => rfl)) pa_nil)) (pv 1)))
      (pss_cons (ps_asg (pe_op op_fdivW (pe_ix ix_list (pv 0) pe_int (fun _ _ => rfl)) (pv 1)) (pg_sub (pv 0) pe_int set_list))
      (pss_one (ps_ret (pv 4))))) pss_nil)
      (pss_cons (ps_asg (pe_op op_mod (pe_callTy call_int1 (by rfl) T.b.int (by decide +kernel) (pa_cons (pe_op op_add (pe_op op_mul (pe_ix ix_list (pv 0) pe_int (fun _ _ => rfl)) pe_int) pe_int) pa_nil)) pe_int) (pg_sub (pv 0) pe_int set_list))
      (pss_one (ps_ret (pe_op op_mod (pe_op op_fdivW (pe_op op_mod (pe_callTy call_int1 (by rfl) T.b.int (by decide +kernel) (pa_cons (pe_op op_mul (pe_ix ix_list (pv 0) pe_int (fun _ _ => rfl)) (pe_ix ix_list (pv 0) pe_int (fun _ _ => rfl))) pa_nil)) pe_int) pe_int) (pv 1))))))), ?_⟩
    refine seq_mid (fun σ H1 => ∃ u1 u2 u3, σ = [some (.ref p), some (.int many), u1, u2, u3] ∧ Fr p q H H1) ?_ (fun hR => ?_)
    · rintro σ H1 ⟨u1, u2, u3, rfl, F⟩
      obtain ⟨a, b, ha, hb, hb2, hp⟩ := F.pool.at_
      have pos1 : (0 : Int) < 2147483647 := by decide
      have pos2 : (0 : Int) < 2147483629 := by decide
      refine ⟨_, rfl, p, _, 0, .int a, rfl, rfl, .of hp, at_of (j := 0) rfl rfl, _, _, rfl, rfl, _, rfl, ?_⟩
      refine ite2 (fun h1 => ?_) (fun h1 => ?_)
      · rw [decide_eq_true_eq] at h1
        refine ⟨_, rfl, p, _, 0, .int a, rfl, rfl, .of hp, at_of (j := 0) rfl rfl, .inl ⟨_, rfl, _, rfl, _, _, rfl, rfl, (by show 0 < many; omega), ?_⟩⟩
        refine ⟨_, rfl, p, _, 0, .int a, rfl, rfl, .of hp, at_of (j := 0) rfl rfl, _, rfl, _, _, rfl, rfl, div_ok hm1 hm2, _, rfl, p, _, 0, 0, rfl, rfl, hp, rfl, ?_⟩
        exact ⟨_, rfl, q1 _ _ (mod_lo _ (by omega)) (mod_hi _ (by omega)) (F.set (Int.ediv_nonneg ha (by omega)) hb hb2)⟩
      · refine ⟨_, rfl, p, _, 1, .int b, rfl, rfl, .of hp, at_of (j := 1) rfl rfl, _, _, rfl, rfl, .inr (by decide), _, _, rfl, rfl, .inl ⟨_, rfl, _, _, rfl, rfl, pos1, ?_⟩⟩
        obtain ⟨nb, hnb⟩ : ∃ nb, nb = (b * 48271 + 11) % 2147483647 := ⟨_, rfl⟩
        have nb1 : 0 ≤ nb := by rw [hnb]; exact mod_lo _ pos1
        have nb2 : nb < 2147483647 := by rw [hnb]; exact mod_hi _ pos1
        have F2 := F.set (a := a) (b := (b * 48271 + 11) % 2147483647) ha (by rw [← hnb]; exact nb1) (by rw [← hnb]; omega)
        refine ⟨_, rfl, p, _, 1, 1, rfl, rfl, hp, rfl, ?_⟩
        refine ⟨_, rfl, p, _, 1, .int nb, rfl, rfl, .of upd_same, at_of (j := 1) rfl (congrArg (fun z => some (V.int z)) hnb.symm), ?_⟩
        refine ⟨_, rfl, p, _, 1, .int nb, rfl, rfl, .of upd_same, at_of (j := 1) rfl (congrArg (fun z => some (V.int z)) hnb.symm), _, _, rfl, rfl, .inl ⟨by omega, by omega⟩, .inl ⟨_, rfl, _, _, rfl, rfl, pos2, _, _, rfl, rfl, div_ok (by decide) (by decide), _, rfl, _, _, rfl, rfl, (by show 0 < many; omega), ?_⟩⟩
        exact q1 _ _ (mod_lo _ (by omega)) (mod_hi _ (by omega)) F2
    · obtain ⟨a, b, ha, hb, hb2, hp⟩ := PL.at_
      obtain ⟨cs, hq⟩ := PL.cells
      refine ⟨_, rfl, p, _, 0, .int a, rfl, rfl, .of hp, at_of (j := 0) rfl rfl, rfl, _, rfl, ?_⟩
      refine ite2 (fun h1 => ?_) (fun h1 => iteF (hR _ _ ⟨_, _, _, rfl, Fr.refl PL⟩))
      refine ⟨_, rfl, p, _, 2, .ref q, rfl, rfl, .of hp, at_of (j := 2) rfl rfl, by show 0 ≤ 16777216; decide, fun e he => ?_⟩
      have FE : Fr p q H (upd H e (.lst [])) := Fr.new PL (.refl PL) he
      refine ⟨.list (cs.map .int), .list [], .lst (.of (same_upd he _ _ hq)) (dp_ints cs), .lst (.of upd_same) .nil, ?_, by decide, _, rfl, ?_⟩
      · exact PySem.W.ke_shaped_ints cs
      refine ite2 (fun h2 => ?_) (fun h2 => hR _ _ ⟨_, _, _, rfl, FE⟩)
      cases cs with
      | nil => exact absurd h2 (by decide)
      | cons c cs =>
      have hpe : e ≠ p := PL.p_ne he
      have hqe : e ≠ q := PL.q_ne he
      have hp1 : upd H e (.lst []) p = some (.lst [.int a, .int b, .ref q]) := by rw [upd_ne hpe.symm]; exact hp
      have hq1 : upd H e (.lst []) q = some (.lst ((c :: cs).map V.int)) := by rw [upd_ne hqe.symm]; exact hq
      refine ⟨_, rfl, p, _, 2, .ref q, rfl, rfl, .of hp1, at_of (j := 2) rfl rfl, .inl ⟨rfl, _, .of hq1⟩, q, _, 0, 0, .int c, rfl, rfl, hq1, by decide, by decide, seq0 _, rfl, .inl ⟨c, rfl, ?_⟩⟩
      have F1 := FE.cell cs
      generalize hH1 : upd (upd H e (.lst [])) q (.lst (cs.map V.int)) = H1 at F1
      have hH1' : upd (upd H e (.lst [])) q (.lst (((c :: cs).map V.int).eraseIdx 0)) = H1 := hH1
      rw [hH1']
      have hp2 : H1 p = some (.lst [.int a, .int b, .ref q]) := by rw [← hH1, upd_ne PL.ne]; exact hp1
      refine ⟨_, rfl, _, _, rfl, rfl, _, rfl, ?_⟩
      refine ite2 (fun h3 => ?_) (fun h3 => ?_)
      all_goals rw [decide_eq_true_eq] at h3
      all_goals first
        | refine ⟨_, rfl, _, _, rfl, rfl, .inl (by decide), ?_⟩
        | refine ⟨_, _, rfl, rfl, _, rfl, _, _, rfl, rfl, .inl (by decide), _, _, rfl, rfl, ?_⟩
        | refine ⟨_, rfl, _, rfl, _, _, rfl, rfl, .inl (by decide), _, _, rfl, rfl, ?_⟩
      all_goals refine ⟨_, rfl, _, _, rfl, rfl, ⟨by decide, by decide, by decide⟩, _, _, rfl, rfl, _, rfl, ?_⟩
      all_goals refine ite2 (fun h4 => ?_) (fun h4 => ?_)
      all_goals first
        | refine ⟨_, rfl, _, rfl, p, _, 0, 0, rfl, rfl, hp2, rfl, ?_⟩
        | refine ⟨_, rfl, p, _, 0, 0, rfl, rfl, hp2, rfl, ?_⟩
      all_goals refine ⟨_, rfl, p, _, 1, .int b, rfl, rfl, .of upd_same, at_of (j := 1) rfl rfl, ?_⟩
      all_goals refine ⟨_, rfl, _, _, rfl, rfl, .inr (by decide), _, _, rfl, rfl, .inl ⟨_, rfl, _, _, rfl, rfl, (by show (0 : Int) < 2147483629; decide), _, _, rfl, rfl, ?_⟩⟩
      all_goals refine ⟨_, rfl, p, _, 1, 1, rfl, rfl, upd_same, rfl, ?_⟩
      all_goals refine hR _ _ ⟨_, _, _, rfl, ?_⟩
      all_goals refine Fr.set (F1.set (a := _) (b := b) ?_ hb hb2) ?_ (m3_lo _) (m3_hi _)
      all_goals omega
end
end K75
set_option maxHeartbeats 2000000
/-! k75: what is drawn: picks, names, amounts -/
namespace K75
open PySem PySem.Spec PyProof.Rows L2 L2H
/-- things to pick from -/
def Thg (K : PySem.W.Frag) (H : Hp) (p q : Addr) (t : V) (xs : List V) : Prop :=
  (∃ z : Str, t = .str z ∧ xs = (tl z).map fun c => .str ⟨#[c]⟩) ∨ ∃ l, t = .ref l ∧ (SqT K H l xs ∨ (H l = some (.lst xs) ∧ l ≠ p ∧ l ≠ q))
theorem repL_all {c : Nat} (h : alB c = true) : ∀ n, (repL [c] n).all alB = true
  | 0 => rfl
  | n + 1 => by
    have ih := repL_all h n
    unfold repL at *
    rw [List.replicate_succ, List.flatten_cons, List.all_append, ih, List.all_cons, h]
    rfl
theorem tl_app (x y : Str) : tl (x ++ y) = tl x ++ tl y := Array.toList_append
theorem len_app (x y : Str) : (x ++ y).length = x.length + y.length := by rw [slen, tl_app, List.length_append, slen, slen]
section
variable {P : Program} {w : World} {K : PySem.W.Frag} {mg : Str → Option Value} {base : Heap}
abbrev ns__law_pick : List Str := ["pool", "things"]
theorem sc51 : FnScope ["pool", "things"] ["pool", "things"] (defScope (top 51)) := ⟨rfl, rfl, rfl, by decide +kernel, rfl, by decide +kernel, by decide +kernel⟩
def sp__law_pick (K : PySem.W.Frag) : Sp := fun vs H Q _ => ∃ p q t xs, vs = [.ref p, t] ∧ Pool H p q ∧ Thg K H p q t xs ∧ 1 ≤ xs.length ∧ xs.length ≤ 1000 ∧ ∀ (i : Nat) v H', xs[i]? = some v → Fr p q H H' → Q v H'
theorem d__law_pick (T : TxtX w K mg) : Def P w K mg base CX0 2 "_law_pick" ["pool", "things"] (sp__law_pick K) := by
  obtain ⟨f, fd, F, m, b⟩ := T.a51
  refine ⟨f, fd, m, F.kp, b, F.ok sc51 (fun vs H Q E h => ?_) (fun cdv A outer s H vs Q E hr h => ?_)⟩
  · obtain ⟨p, q, t, xs, rfl, _⟩ := h; rfl
  · have nd := sc51.nd
    have hu := hr.units
    have hu1 : (A.deeper (envOfC "_law_pick" (defScope (top 51)) s.heap.objs.size f cdv)).units + 1 < cLine := by omega
    obtain ⟨p, q, t, xs, rfl, PL, ht, l1, l2, q1⟩ := h
    refine ⟨_, (pss_one (ps_ret (pe_ix ix_seq (pv 1) (pe_def (d__law_draw T) (hr.mono (by decide)) (pa_cons (pv 0) (pa_cons (pe_callB call_len (by rfl) T.b.len (by decide +kernel) (pa_cons (pv 1) pa_nil)) pa_nil))) (fun _ _ => rfl)))), ?_⟩
    have at1 : ∀ d : Int, 0 ≤ d → d < (xs.length : Int) → ∃ (i : Nat) (v : V), d = (i : Int) ∧ xs[i]? = some v := fun d h0 h1 => ⟨d.toNat, _, by omega, List.getElem?_eq_getElem (by omega)⟩
    rcases ht with ⟨z, rfl, rfl⟩ | ⟨l, rfl, ht⟩
    · rw [List.length_map] at l1 l2
      have lz : z.length = (tl z).length := slen z
      refine ⟨_, rfl, _, rfl, _, rfl, _, _, rfl, ⟨by rw [lz]; show (tl z).length ≤ 16777216; omega, rfl⟩, p, q, _, rfl, PL, by rw [lz]; omega, by rw [lz]; omega, fun d H1 h0 h1 F => ?_⟩
      obtain ⟨i, v, rfl, hv⟩ := at1 d h0 (by rw [List.length_map]; omega)
      obtain ⟨c, hc, rfl⟩ := map_get hv
      exact .inr (.inr ⟨z, _, c, rfl, rfl, by rw [lz]; show (tl z).length ≤ 16777216; omega, atI_nat hc, q1 i _ H1 hv F⟩)
    · refine ⟨_, rfl, _, rfl, _, rfl, _, xs.length, rfl, ?_, p, q, _, rfl, PL, by omega, by omega, fun d H1 h0 h1 F => ?_⟩
      · rcases ht with ht | ⟨ht, _⟩
        · exact .inr ⟨xs, ht, rfl⟩
        · exact .inl ⟨xs, .of ht, rfl⟩
      · obtain ⟨i, v, rfl, hv⟩ := at1 d h0 h1
        rcases ht with ht | ⟨ht, n1, n2⟩
        · exact .inr (.inl ⟨l, xs, _, v, rfl, rfl, F.sqT PL ht, at_of (j := i) rfl hv, q1 i v H1 hv F⟩)
        · exact .inl ⟨l, xs, _, v, rfl, rfl, .of (F.keep _ _ n1 n2 ht), at_of (j := i) rfl hv, q1 i v H1 hv F⟩
abbrev ns__law_amount : List Str := ["pool", "way"]
theorem sc53 : FnScope ["pool", "way"] ["pool"] (defScope (top 53)) := ⟨rfl, rfl, rfl, by decide +kernel, rfl, by decide +kernel, by decide +kernel⟩
def sp__law_amount (K : PySem.W.Frag) : Sp := fun vs H Q _ => ∃ p q, vs = [.ref p] ∧ Pool H p q ∧ ∀ n H', -1000000000 ≤ n → n ≤ 1000000000 → Fr p q H H' → Q (.int n) H'
theorem d__law_amount (T : TxtX w K mg) : Def P w K mg base CX0 2 "_law_amount" ["pool"] (sp__law_amount K) := by
  obtain ⟨f, fd, F, m, b⟩ := T.a53
  refine ⟨f, fd, m, F.kp, b, F.ok sc53 (fun vs H Q E h => ?_) (fun cdv A outer s H vs Q E hr h => ?_)⟩
  · obtain ⟨p, q, rfl, _⟩ := h; rfl
  · have nd := sc53.nd
    have hu := hr.units
    have hu1 : (A.deeper (envOfC "_law_amount" (defScope (top 53)) s.heap.objs.size f cdv)).units + 1 < cLine := by omega
    obtain ⟨p, q, rfl, PL, q1⟩ := h
    refine ⟨_, (pss_cons (ps_set (i := 1) nd rfl (Or.inl rfl) (pe_def (d__law_draw T) (hr.mono (by decide)) (pa_cons (pv 0) (pa_cons pe_int pa_nil))))
      (pss_cons (ps_if (pt_cmpR op_lt (pv 1) pe_int (nomark _)) (pss_one (ps_ret (pe_op op_mul (pe_op op_sub pe_int (pe_op op_mul pe_int (pv 1))) (pe_op op_pow pe_int pe_int)))) pss_nil)
      (pss_one (ps_ret (pe_ifExp (pt_cmpR op_eq (pv 1) pe_int (nomark _)) (pe_op op_sub (pe_def (d__law_draw T) (hr.mono (by decide)) (pa_cons (pv 0) (pa_cons (pe_op op_add (pe_op op_mul pe_int (pe_op op_pow pe_int pe_int)) pe_int) pa_nil))) (pe_op op_pow pe_int pe_int)) (pe_op op_sub (pe_def (d__law_draw T) (hr.mono (by decide)) (pa_cons (pv 0) (pa_cons pe_int pa_nil))) pe_int)))))), ?_⟩
    refine ⟨_, rfl, p, q, 8, rfl, PL, by decide, by decide, fun d H1 h0 h1 F => ?_⟩
    have e9 : (10 : Int) ^ (9 : Int).toNat = 1000000000 := by decide
    refine ⟨_, rfl, _, _, rfl, rfl, _, rfl, ?_⟩
    refine ite2 (fun h2 => ?_) (fun h2 => ?_)
    · rw [decide_eq_true_eq] at h2
      refine ⟨_, rfl, _, _, rfl, rfl, .inl (by decide), _, _, rfl, rfl, _, _, rfl, rfl, ⟨by decide, by decide, by decide⟩, _, _, rfl, rfl, .inr (by decide), ?_⟩
      have : d = 0 ∨ d = 1 := by omega
      refine q1 _ H1 ?_ ?_ F
      all_goals rw [e9]
      all_goals rcases this with rfl | rfl <;> decide
    · rw [decide_eq_true_eq] at h2
      refine ⟨_, rfl, rfl, _, rfl, ?_⟩
      refine ite2 (fun h3 => ?_) (fun h3 => ?_)
      · refine ⟨_, rfl, _, _, rfl, rfl, ⟨by decide, by decide, by decide⟩, _, _, rfl, rfl, .inl (by decide), _, _, rfl, rfl, p, q, _, rfl, F.pool, by decide, by decide, fun d2 H2 h4 h5 F2 => ?_⟩
        refine ⟨_, _, rfl, rfl, ⟨by decide, by decide, by decide⟩, _, _, rfl, rfl, ?_⟩
        rw [e9] at h5
        refine q1 _ H2 ?_ ?_ (F.trans F2)
        all_goals rw [e9]
        all_goals omega
      · refine ⟨_, rfl, p, q, 19, rfl, F.pool, by decide, by decide, fun d2 H2 h4 h5 F2 => ⟨_, _, rfl, rfl, q1 _ H2 (by omega) (by omega) (F.trans F2)⟩⟩
abbrev ns__law_amounts : List Str := ["pool", "width", "place"]
theorem sc54 : FnScope ["pool", "width", "place"] ["pool", "width"] (defScope (top 54)) := ⟨rfl, rfl, rfl, by decide +kernel, rfl, by decide +kernel, by decide +kernel⟩
def sp__law_amounts (K : PySem.W.Frag) : Sp := fun vs H Q _ => ∃ p q, ∃ wd : Nat, vs = [.ref p, .int wd] ∧ Pool H p q ∧ wd ≤ 3 ∧ ∀ (ns : List Int) v H', ns.length = wd → (∀ n ∈ ns, -1000000000 ≤ n ∧ n ≤ 1000000000) → Dp K H' v (.tuple (ns.map .int)) → Fr p q H H' → Q v H'
theorem d__law_amounts (T : TxtX w K mg) : Def P w K mg base CX0 3 "_law_amounts" ["pool", "width"] (sp__law_amounts K) := by
  obtain ⟨f, fd, F, m, b⟩ := T.a54
  refine ⟨f, fd, m, F.kp, b, F.ok sc54 (fun vs H Q E h => ?_) (fun cdv A outer s H vs Q E hr h => ?_)⟩
  · obtain ⟨p, q, wd, rfl, _⟩ := h; rfl
  · have nd := sc54.nd
    have hu := hr.units
    have hu1 : (A.deeper (envOfC "_law_amounts" (defScope (top 54)) s.heap.objs.size f cdv)).units + 1 < cLine := by omega
    obtain ⟨p, q, wd, rfl, PL, hw, q1⟩ := h
    refine ⟨_, (pss_one (ps_ret (pe_callTy call_tuple_of (by rfl) T.b.tuple (by decide +kernel) (pa_cons (pe_lc (own := [("place", 2)]) (g := (gName 2)) (tt := tYes) rfl nd (pi_range1 (by rfl) T.b.range (pa_cons (pv 1) pa_nil)) (blkOk_by (own := [("place", 2)]) (N := ns__law_amounts) (sc := defScope (top 54)) (by decide +kernel)) (fun _ _ _ _ _ => (pg_name (i := 2) nd rfl (Or.inl rfl))) (fun _ _ _ _ _ => pts_nil) (fun _ _ _ _ _ => (pe_def (d__law_amount T) (hr.mono (by decide)) (pa_cons (pv 0) pa_nil)))) pa_nil)))), ?_⟩
    refine ⟨_, rfl, (wd : Int), rfl, by omega, by omega, fun D hD => ?_⟩
    refine lc_range (fun i H' => Fr p q H H' ∧ ∃ ns : List Int, H' D = some (.lst (ns.map V.int)) ∧ ns.length = i ∧ ∀ n ∈ ns, -1000000000 ≤ n ∧ n ≤ 1000000000) ⟨Fr.new PL (.refl PL) hD, [], upd_same, rfl, fun _ h => nomatch h⟩ ?_ ?_
    · rintro i H1 hi ⟨F, ns, hA, hl, hn⟩
      refine ⟨rfl, ?_⟩
      refine ⟨_, rfl, p, q, rfl, F.pool, fun n H2 h1 h2 F2 => ⟨_, F2.keep _ _ (PL.p_ne hD) (PL.q_ne hD) hA, by rw [List.length_map]; show _ < 16777216; omega, Fr.new PL (F.trans F2) hD, ns ++ [n], ?_, ?_, ?_⟩⟩
      · rw [upd_same, List.map_append]
        rfl
      · rw [List.length_append, hl]
        rfl
      · intro m hm
        rcases List.mem_append.mp hm with z | z
        · exact hn m z
        · rw [List.mem_singleton.mp z]
          exact ⟨h1, h2⟩
    · rintro H1 ⟨F, ns, hA, hl, hn⟩
      refine ⟨D, _, rfl, .inl ⟨.of hA, fun t ht => q1 ns _ _ (by omega) hn (.tup (.inl (.inl upd_same)) (dp_ints ns)) ?_⟩⟩
      exact F.more (same_upd ht)
abbrev ns__law_name : List Str := ["pool", "most", "sign", "many", "filler", "place"]
theorem sc52 : FnScope ["pool", "most", "sign", "many", "filler", "place"] ["pool", "most"] (defScope (top 52)) := ⟨rfl, rfl, rfl, by decide +kernel, rfl, by decide +kernel, by decide +kernel⟩
def sp__law_name (K : PySem.W.Frag) : Sp := fun vs H Q _ => ∃ p q, ∃ mo : Nat, vs = [.ref p, .int mo] ∧ Pool H p q ∧ 1 ≤ mo ∧ mo ≤ 20 ∧ ∀ x H', sg mo (tl x) = true → Fr p q H H' → Q (.str x) H'
theorem d__law_name (T : TxtX w K mg) : Def P w K mg base CX0 3 "_law_name" ["pool", "most"] (sp__law_name K) := by
  obtain ⟨f, fd, F, m, b⟩ := T.a52
  refine ⟨f, fd, m, F.kp, b, F.ok sc52 (fun vs H Q E h => ?_) (fun cdv A outer s H vs Q E hr h => ?_)⟩
  · obtain ⟨p, q, mo, rfl, _⟩ := h; rfl
  · have nd := sc52.nd
    have hu := hr.units
    have hu1 : (A.deeper (envOfC "_law_name" (defScope (top 52)) s.heap.objs.size f cdv)).units + 1 < cLine := by omega
    obtain ⟨p, q, mo, rfl, PL, hm1, hm2, q1⟩ := h
    refine ⟨_, (pss_cons (ps_par (i := 2) (j := 3) (by rfl) nd rfl rfl (by decide) rfl rfl (pa_cons (pe_def (d__law_pick T) (hr.mono (by decide)) (pa_cons (pv 0) (pa_cons pe_str pa_nil))) (pa_cons (pe_op op_add pe_int (pe_def (d__law_draw T) (hr.mono (by decide)) (pa_cons (pv 0) (pa_cons (pv 1) pa_nil)))) pa_nil)) (by rfl))
      (pss_cons (ps_par (i := 4) (j := 5) (by rfl) nd rfl rfl (by decide) rfl rfl (pa_cons (pe_def (d__law_pick T) (hr.mono (by decide)) (pa_cons (pv 0) (pa_cons pe_str pa_nil))) (pa_cons (pe_def (d__law_draw T) (hr.mono (by decide)) (pa_cons (pv 0) (pa_cons (pv 3) pa_nil))) pa_nil)) (by rfl))
      (pss_one (ps_ret (pe_op op_add_str (pe_op op_add_str (pe_op op_rep_str (pv 4) (pv 5)) (pv 2)) (pe_op op_rep_str (pv 4) (pe_op op_sub (pe_op op_sub (pv 3) pe_int) (pv 5)))))))), ?_⟩
    have hL : (tl ("abcdefghijklmnopqrstuvwxyz0123456789" : Str)).length = 36 := by decide +kernel
    have hM : tl ("am0" : Str) = [97, 109, 48] := by decide +kernel
    refine ⟨_, rfl, p, q, _, _, rfl, PL, .inl ⟨_, rfl, rfl⟩, by rw [List.length_map, hL]; decide, by rw [List.length_map, hL]; decide, fun i v H1 hv F1 => ?_⟩
    obtain ⟨c, hc, rfl⟩ := map_get hv
    have hcb : alB c = true := by rw [← S36]; exact decide_eq_true (List.mem_of_getElem? hc)
    refine ⟨_, rfl, _, rfl, p, q, _, rfl, F1.pool, by omega, by omega, fun d H2 h0 h1 F2 => ⟨_, _, rfl, rfl, ?_⟩⟩
    refine ⟨_, _, rfl, ?_⟩
    have F12 := F1.trans F2
    refine ⟨_, rfl, p, q, _, _, rfl, F12.pool, .inl ⟨_, rfl, rfl⟩, by rw [List.length_map, hM]; decide, by rw [List.length_map, hM]; decide, fun i2 v2 H3 hv2 F3 => ?_⟩
    obtain ⟨c2, hc2, rfl⟩ := map_get hv2
    have hc2b : alB c2 = true := by
      have hm := List.mem_of_getElem? hc2
      rw [hM] at hm
      simp only [List.mem_cons, List.not_mem_nil, or_false] at hm
      rcases hm with rfl | rfl | rfl <;> decide
    have F123 := F12.trans F3
    refine ⟨_, rfl, _, rfl, p, q, 1 + d, rfl, F123.pool, by omega, by omega, fun e H4 h2 h3 F4 => ⟨_, _, rfl, ?_⟩⟩
    have k1 : (repL [c2] e.toNat).length = e.toNat := by rw [repL_len]; simp
    have k2 : (repL [c2] (1 + d - 1 - e).toNat).length = (1 + d - 1 - e).toNat := by rw [repL_len]; simp
    have l1 : (SX.S (repL [c2] e.toNat)).length ≤ 20 := by rw [SX.S_len, k1]; omega
    have l2 : (SX.S (repL [c2] (1 + d - 1 - e).toNat)).length ≤ 20 := by rw [SX.S_len, k2]; omega
    have lc : (⟨#[c]⟩ : Str).length = 1 := rfl
    refine ⟨_, rfl, _, rfl, _, e, rfl, rfl, h2, by omega, (by show 1 ≤ 1000; decide), ?_⟩
    refine ⟨_, rfl, SX.S (repL [c2] e.toNat), ⟨#[c]⟩, rfl, rfl, by rw [lc]; show _ ≤ 16777216; omega, ?_⟩
    refine ⟨_, rfl, _, rfl, _, _, rfl, rfl, _, rfl, _, _, rfl, rfl, _, (1 + d - 1 - e), rfl, rfl, by omega, by omega, (by show 1 ≤ 1000; decide), ?_⟩
    refine ⟨_, SX.S (repL [c2] (1 + d - 1 - e).toNat), rfl, rfl, by rw [len_app, lc]; show _ ≤ 16777216; omega, ?_⟩
    refine q1 _ H4 ?_ (F123.trans F4)
    have et : tl (SX.S (repL [c2] e.toNat) ++ (⟨#[c]⟩ : Str) ++ SX.S (repL [c2] (1 + d - 1 - e).toNat)) = repL [c2] e.toNat ++ [c] ++ repL [c2] (1 + d - 1 - e).toNat := by
      rw [tl_app, tl_app]
    rw [et]
    unfold sg
    rw [List.all_append, List.all_append, repL_all hc2b, repL_all hc2b, List.all_cons, hcb, List.length_append, List.length_append, k1, k2]
    simp only [List.length_cons, List.length_nil, List.all_nil, Bool.and_true, Bool.and_eq_true, decide_eq_true_eq]
    omega
end
end K75
set_option maxHeartbeats 2000000
/-! k75: tables, maps of tables -/
namespace K75
open PySem PySem.Spec PyProof.Rows L2 L2H
theorem Fr.free {p q t : Addr} {H H' : Hp} (F : Fr p q H H') (h : H' t = none) : H t = none := by
  cases e : H t with
  | none => rfl
  | some o =>
    by_cases a : t = p
    · obtain ⟨_, _, _, _, _, z⟩ := F.pool.at_
      rw [a, z] at h
      cases h
    · by_cases c : t = q
      · obtain ⟨_, z⟩ := F.pool.cells
        rw [c, z] at h
        cases h
      · rw [F.keep _ _ a c e] at h
        cases h
/-- the keys are names -/
def NK (kvs : List (Key × V)) : Prop := ∃ ks : List Str, kvs.map (·.1) = ks.map Sum.inr ∧ ∀ x ∈ ks, sg 3 (tl x) = true
theorem keys_put (kvs : List (Key × V)) (k : Key) (v : V) : (putK kvs k v).map (·.1) = kvs.map (·.1) ∨ (putK kvs k v).map (·.1) = kvs.map (·.1) ++ [k] := by
  unfold putK
  split
  · left
    rw [List.map_map]
    refine List.map_congr_left fun kv _ => ?_
    show (if kv.1 = k then (kv.1, v) else kv).1 = kv.1
    split <;> rfl
  · right
    rw [List.map_append]
    rfl
theorem NK.put {kvs : List (Key × V)} (h : NK kvs) {x : Str} (hx : sg 3 (tl x) = true) (v : V) : NK (putK kvs (Sum.inr x) v) := by
  obtain ⟨ks, e, hk⟩ := h
  rcases keys_put kvs (Sum.inr x) v with z | z
  · exact ⟨ks, z.trans e, hk⟩
  · refine ⟨ks ++ [x], by rw [z, e, List.map_append]; rfl, fun y hy => ?_⟩
    rcases List.mem_append.mp hy with a | a
    · exact hk y a
    · rw [List.mem_singleton.mp a]
      exact hx
/-- a table at t, its rows at r -/
def TabR (H : Hp) (t r : Addr) : Prop := ∃ (wd : Nat) (mo : Int), 1 ≤ wd ∧ wd ≤ 2 ∧ H t = some (.tup [.int wd, .int mo, .ref r]) ∧ ∃ kvs : List (Key × V), H r = some (.dK kvs) ∧ NK kvs ∧ kvs.length ≤ 8
theorem TabR.fr {p q t r : Addr} {H H' : Hp} (P : Pool H p q) (F : Fr p q H H') (h : TabR H t r) : TabR H' t r := by
  obtain ⟨wd, mo, h1, h2, ht, kvs, hr, hn, hl⟩ := h
  exact ⟨wd, mo, h1, h2, F.tup P ht, kvs, F.dct P hr, hn, hl⟩
theorem TabR.same {t r : Addr} {H H' : Hp} (s : Same H H') (h : TabR H t r) : TabR H' t r := by
  obtain ⟨wd, mo, h1, h2, ht, kvs, hr, hn, hl⟩ := h
  exact ⟨wd, mo, h1, h2, s _ _ ht, kvs, s _ _ hr, hn, hl⟩
/-- tables by their sources, at m -/
def Maps (H : Hp) (m : Addr) (n : Nat) : Prop := ∃ kvs : List (Key × V), H m = some (.dK kvs) ∧ kvs.length ≤ n ∧ ∀ kv ∈ kvs, ∃ x t r, kv = (Sum.inr x, V.ref t) ∧ srcL (tl x) = true ∧ r ≠ m ∧ TabR H t r
theorem Maps.fr {p q m : Addr} {n : Nat} {H H' : Hp} (P : Pool H p q) (F : Fr p q H H') (h : Maps H m n) : Maps H' m n := by
  obtain ⟨kvs, hm, hl, hk⟩ := h
  refine ⟨kvs, F.dct P hm, hl, fun kv hkv => ?_⟩
  obtain ⟨x, t, r, e, hx, hr, ht⟩ := hk kv hkv
  exact ⟨x, t, r, e, hx, hr, ht.fr P F⟩
theorem Maps.same {m : Addr} {n : Nat} {H H' : Hp} (s : Same H H') (h : Maps H m n) : Maps H' m n := by
  obtain ⟨kvs, hm, hl, hk⟩ := h
  refine ⟨kvs, s _ _ hm, hl, fun kv hkv => ?_⟩
  obtain ⟨x, t, r, e, hx, hr, ht⟩ := hk kv hkv
  exact ⟨x, t, r, e, hx, hr, ht.same s⟩
theorem mem_put {kvs : List (Key × V)} {k : Key} {v : V} {kv : Key × V} (h : kv ∈ putK kvs k v) : kv = (k, v) ∨ kv ∈ kvs := by
  unfold putK at h
  split at h
  · obtain ⟨kv', h1, h2⟩ := List.mem_map.mp h
    by_cases e : kv'.1 = k
    · rw [if_pos e] at h2
      rw [← h2, e]
      exact .inl rfl
    · rw [if_neg e] at h2
      rw [← h2]
      exact .inr h1
  · rcases List.mem_append.mp h with a | a
    · exact .inr a
    · exact .inl (List.mem_singleton.mp a)
theorem TabR.put {H : Hp} {m t r : Addr} {kvs kvs' : List (Key × V)} (hm : H m = some (.dK kvs)) (hr : r ≠ m) (h : TabR H t r) : TabR (upd H m (.dK kvs')) t r := by
  obtain ⟨wd, mo, h1, h2, ht, ks, hr', hn, hl⟩ := h
  exact ⟨wd, mo, h1, h2, by rw [upd_ne (by rintro rfl; rw [hm] at ht; cases ht)]; exact ht, ks, by rw [upd_ne hr]; exact hr', hn, hl⟩
theorem Maps.put {H : Hp} {m t r : Addr} {n : Nat} {kvs : List (Key × V)} {x : Str} (hm : H m = some (.dK kvs)) (hl : kvs.length ≤ n) (hk : ∀ kv ∈ kvs, ∃ x t r, kv = (Sum.inr x, V.ref t) ∧ srcL (tl x) = true ∧ r ≠ m ∧ TabR H t r)
    (hx : srcL (tl x) = true) (hr : r ≠ m) (ht : TabR H t r) : Maps (upd H m (.dK (putK kvs (Sum.inr x) (.ref t)))) m (n + 1) := by
  refine ⟨_, upd_same, by have := length_putK kvs (Sum.inr x) (V.ref t); omega, fun kv hkv => ?_⟩
  rcases mem_put hkv with rfl | hkv
  · exact ⟨x, t, r, rfl, hx, hr, ht.put hm hr⟩
  · obtain ⟨x', t', r', e, hx', hr', ht'⟩ := hk kv hkv
    exact ⟨x', t', r', e, hx', hr', ht'.put hm hr'⟩
theorem sg_mono {a b : Nat} {l : List Nat} (h : sg a l = true) (hab : a ≤ b) : sg b l = true := by
  unfold sg at *
  rw [Bool.and_eq_true, Bool.and_eq_true, decide_eq_true_eq, decide_eq_true_eq] at *
  exact ⟨⟨h.1.1, by omega⟩, h.2⟩
theorem sg_len {a : Nat} {l : List Nat} (h : sg a l = true) : 1 ≤ l.length ∧ l.length ≤ a := by
  unfold sg at h
  rw [Bool.and_eq_true, Bool.and_eq_true, decide_eq_true_eq, decide_eq_true_eq] at h
  exact h.1
theorem src_t {x : Str} (h : sg 6 (tl x) = true) : srcL (tl (("t." : Str) ++ x)) = true := by
  have e : tl ("t." : Str) = [116, 46] := by decide +kernel
  rw [tl_app, e]
  show ((116 == 116 || 116 == 115) && sg 6 (tl x)) = true
  rw [h]
  rfl
theorem src_s {x : Str} (h : sg 6 (tl x) = true) : srcL (tl (("s." : Str) ++ x)) = true := by
  have e : tl ("s." : Str) = [115, 46] := by decide +kernel
  rw [tl_app, e]
  show ((115 == 116 || 115 == 115) && sg 6 (tl x)) = true
  rw [h]
  rfl
section
variable {P : Program} {w : World} {K : PySem.W.Frag} {mg : Str → Option Value} {base : Heap}
abbrev ns__law_table : List Str := ["pool", "many", "width", "rows", "turn", "name"]
theorem sc55 : FnScope ["pool", "many", "width", "rows", "turn", "name"] ["pool", "many"] (defScope (top 55)) := ⟨rfl, rfl, rfl, by decide +kernel, rfl, by decide +kernel, by decide +kernel⟩
def sp__law_table (K : PySem.W.Frag) : Sp := fun vs H Q _ => ∃ p q, ∃ m : Nat, vs = [.ref p, .int m] ∧ Pool H p q ∧ m ≤ 4 ∧ ∀ t r H', H r = none → H t = none → TabR H' t r → Fr p q H H' → Q (.ref t) H'
theorem d__law_table (T : TxtX w K mg) : Def P w K mg base CX0 4 "_law_table" ["pool", "many"] (sp__law_table K) := by
  obtain ⟨f, fd, F, m, b⟩ := T.a55
  refine ⟨f, fd, m, F.kp, b, F.ok sc55 (fun vs H Q E h => ?_) (fun cdv A outer s H vs Q E hr h => ?_)⟩
  · obtain ⟨p, q, m, rfl, _⟩ := h; rfl
  · have nd := sc55.nd
    have hu := hr.units
    have hu1 : (A.deeper (envOfC "_law_table" (defScope (top 55)) s.heap.objs.size f cdv)).units + 1 < cLine := by omega
    obtain ⟨p, q, m, rfl, PL, hm, q1⟩ := h
    refine ⟨_, (pss_cons (ps_par (i := 2) (j := 3) (by rfl) nd rfl rfl (by decide) rfl rfl (pa_cons (pe_op op_add pe_int (pe_def (d__law_draw T) (hr.mono (by decide)) (pa_cons (pv 0) (pa_cons pe_int pa_nil)))) (pa_cons pe_dnewK pa_nil)) (by rfl))
      (pss_cons (ps_for PassesOwn.never rfl (pi_range1 (by rfl) T.b.range (pa_cons (pv 1) pa_nil)) (pg_name (i := 4) nd rfl (Or.inl rfl)) (pss_cons (ps_set (i := 5) nd rfl (Or.inl rfl) (pe_def (d__law_name T) (hr.mono (by decide)) (pa_cons (pv 0) (pa_cons pe_int pa_nil))))
      (pss_one (ps_dput hu1 (pv 3) (pv 5) (pe_def (d__law_amounts T) (hr.mono (by decide)) (pa_cons (pv 0) (pa_cons (pv 2) pa_nil))) rfl))))
      (pss_one (ps_ret (pe_tup (pa_cons (pv 2) (pa_cons (pe_callB (call_min2 rfl) (by rfl) T.b.min (by decide +kernel) (pa_cons pe_int (pa_cons (pe_op op_add (pe_callB call_lenD (by rfl) T.b.len (by decide +kernel) (pa_cons (pv 3) pa_nil)) (pe_op op_mul (pe_def (d__law_draw T) (hr.mono (by decide)) (pa_cons (pv 0) (pa_cons pe_int pa_nil))) (pe_def (d__law_draw T) (hr.mono (by decide)) (pa_cons (pv 0) (pa_cons pe_int pa_nil))))) pa_nil))) (pa_cons (pv 3) pa_nil)))))))), ?_⟩
    refine ⟨_, rfl, p, q, 2, rfl, PL, by decide, by decide, fun d H1 h0 h1 F1 => ⟨_, _, rfl, rfl, fun r hr1 => ⟨_, _, rfl, ?_⟩⟩⟩
    obtain ⟨k, rfl⟩ : ∃ k : Nat, d = (k : Int) := ⟨d.toNat, by omega⟩
    have hrH : H r = none := F1.free hr1
    refine ⟨_, rfl, (m : Int), rfl, by omega, by omega, for_range (fun i σ H2 => ∃ u1 u2 kvs, σ = [some (.ref p), some (.int m), some (.int (1 + k)), some (.ref r), u1, u2] ∧ Fr p q H H2 ∧ H2 r = some (.dK kvs) ∧ NK kvs ∧ kvs.length ≤ i) ⟨none, none, [], rfl, Fr.new PL F1 hrH, upd_same, ⟨[], rfl, fun _ h => nomatch h⟩, Nat.le_refl _⟩ ?_ ?_⟩
    · rintro i σ H2 hi ⟨u1, u2, kvs, rfl, F, hr, hk, hl⟩
      refine ⟨_, rfl, p, q, 3, rfl, F.pool, by decide, by decide, fun x H3 hx F3 => ?_⟩
      refine ⟨_, rfl, _, rfl, p, q, 1 + k, rfl, F3.pool, by omega, fun ns v H4 hnl hn hv F4 => ⟨_, rfl, _, rfl, r, _, rfl, .k (k := Sum.inr x) (F4.dct F3.pool (F3.dct F.pool hr)) (by show _ < 16777216; omega), ?_⟩⟩
      refine ⟨_, _, putK kvs (Sum.inr x) v, rfl, Fr.new PL (F.trans (F3.trans F4)) hrH, upd_same, hk.put hx v, ?_⟩
      have := length_putK kvs (Sum.inr x) v
      omega
    · rintro σ H2 ⟨u1, u2, kvs, rfl, F, hr, hk, hl⟩
      have hl' : kvs.length ≤ m := by simpa using hl
      refine ⟨_, rfl, _, rfl, r, kvs, rfl, hr, ?_⟩
      refine ⟨_, rfl, p, q, 4, rfl, F.pool, by decide, by decide, fun d1 H3 h2 h3 F3 => ?_⟩
      refine ⟨_, rfl, p, q, 200, rfl, F3.pool, by decide, by decide, fun d2 H4 h4 h5 F4 => ?_⟩
      refine ⟨_, _, rfl, rfl, .inl ⟨by omega, by omega⟩, _, _, rfl, rfl, _, _, rfl, ?_⟩
      refine ⟨_, rfl, (by show 3 ≤ 16777216; decide), fun t ht => ?_⟩
      have F5 := F.trans (F3.trans F4)
      have s1 : Same H4 (upd H4 t (.tup [.int (1 + (k : Int)), .int (if (kvs.length : Int) + d1 * d2 < 400 then (kvs.length : Int) + d1 * d2 else 400), .ref r])) := same_upd ht
      have htH : H t = none := F5.free ht
      exact q1 t r _ hrH htH ⟨1 + k, _, by omega, by omega, upd_same, kvs, s1 _ _ (F4.dct F3.pool (F3.dct F.pool hr)), hk, by omega⟩ (F5.more s1)
abbrev ns__law_maps : List Str := ["pool", "sources", "rows", "found", "turn", "name"]
theorem sc56 : FnScope ["pool", "sources", "rows", "found", "turn", "name"] ["pool", "sources", "rows"] (defScope (top 56)) := ⟨rfl, rfl, rfl, by decide +kernel, rfl, by decide +kernel, by decide +kernel⟩
def sp__law_maps (K : PySem.W.Frag) : Sp := fun vs H Q _ => ∃ p q, vs = [.ref p, .int 2, .int 2] ∧ Pool H p q ∧ ∀ m H', H m = none → Maps H' m 8 → Fr p q H H' → Q (.ref m) H'
theorem d__law_maps (T : TxtX w K mg) : Def P w K mg base CX0 5 "_law_maps" ["pool", "sources", "rows"] (sp__law_maps K) := by
  obtain ⟨f, fd, F, m, b⟩ := T.a56
  refine ⟨f, fd, m, F.kp, b, F.ok sc56 (fun vs H Q E h => ?_) (fun cdv A outer s H vs Q E hr h => ?_)⟩
  · obtain ⟨p, q, rfl, _⟩ := h; rfl
  · have nd := sc56.nd
    have hu := hr.units
    have hu1 : (A.deeper (envOfC "_law_maps" (defScope (top 56)) s.heap.objs.size f cdv)).units + 1 < cLine := by omega
    obtain ⟨p, q, rfl, PL, q1⟩ := h
    refine ⟨_, (pss_cons (ps_set (i := 3) nd rfl (Or.inl rfl) pe_dnewK)
      (pss_cons (ps_for PassesOwn.never rfl (pi_range1 (by rfl) T.b.range (pa_cons (pe_op op_add pe_int (pe_def (d__law_draw T) (hr.mono (by decide)) (pa_cons (pv 0) (pa_cons (pv 1) pa_nil)))) pa_nil)) (pg_name (i := 4) nd rfl (Or.inl rfl)) (pss_cons (ps_set (i := 5) nd rfl (Or.inl rfl) (pe_def (d__law_name T) (hr.mono (by decide)) (pa_cons (pv 0) (pa_cons pe_int pa_nil))))
      (pss_cons (ps_dput hu1 (pv 3) (pe_op op_add_str pe_str (pv 5)) (pe_def (d__law_table T) (hr.mono (by decide)) (pa_cons (pv 0) (pa_cons (pe_def (d__law_draw T) (hr.mono (by decide)) (pa_cons (pv 0) (pa_cons (pe_op op_add (pv 2) pe_int) pa_nil))) pa_nil))) rfl)
      (pss_one (ps_if (pt_cmpR op_eq (pe_def (d__law_draw T) (hr.mono (by decide)) (pa_cons (pv 0) (pa_cons pe_int pa_nil))) pe_int (nomark _)) (pss_one (ps_dput hu1 (pv 3) (pe_op op_add_str pe_str (pe_def (d__law_name T) (hr.mono (by decide)) (pa_cons (pv 0) (pa_cons pe_int pa_nil)))) (pe_dget hu1 (pv 3) (pe_op op_add_str pe_str (pv 5)) (fun _ _ => rfl)) rfl)) pss_nil)))))
      (pss_one (ps_ret (pv 3))))), ?_⟩
    refine fun m hm => ?_
    have L2' : ∀ x : Str, sg 2 (tl x) = true → (("t." : Str)).length + x.length ≤ 16777216 ∧ (("s." : Str)).length + x.length ≤ 16777216 := fun x hx => by
      have e1 : (("t." : Str)).length = 2 := by decide +kernel
      have e2 : (("s." : Str)).length = 2 := by decide +kernel
      have := (sg_len hx).2
      rw [e1, e2, slen]
      omega
    refine ⟨_, rfl, _, rfl, p, q, 2, rfl, PL.same (same_upd hm), by decide, by decide, fun d H1 h0 h1 F1 => ⟨_, _, rfl, rfl, ?_⟩⟩
    obtain ⟨k, rfl⟩ : ∃ k : Nat, d = (k : Int) := ⟨d.toNat, by omega⟩
    have F0 : Fr p q H H1 := (Fr.of_same PL (same_upd hm)).trans F1
    refine ⟨(1 + k : Int), rfl, by omega, by omega, for_range (fun i σ H2 => ∃ u1 u2, σ = [some (.ref p), some (.int 2), some (.int 2), some (.ref m), u1, u2] ∧ Fr p q H H2 ∧ Maps H2 m (2 * i)) ⟨none, none, rfl, F0, [], F1.dct (PL.same (same_upd hm)) upd_same, Nat.zero_le _, fun _ h => nomatch h⟩ ?_ ?_⟩
    · rintro i σ H2 hi ⟨u1, u2, rfl, F, hM⟩
      refine ⟨_, rfl, p, q, 2, rfl, F.pool, by decide, by decide, fun x H3 hx F3 => ?_⟩
      refine ⟨_, rfl, _, rfl, _, rfl, _, _, rfl, rfl, p, q, 2 + 1, rfl, F3.pool, by decide, by decide, fun d2 H4 h2 h3 F4 => ?_⟩
      obtain ⟨k2, rfl⟩ : ∃ k2 : Nat, d2 = (k2 : Int) := ⟨d2.toNat, by omega⟩
      refine ⟨p, q, k2, rfl, F4.pool, by omega, fun t r H5 hr ht hT F5 => ?_⟩
      have F345 := F3.trans (F4.trans F5)
      have hM5 := hM.fr F.pool F345
      obtain ⟨kvs, hm5, hl5, hk5⟩ := hM5
      have hm4 : H4 m = some (.dK kvs) := by
        obtain ⟨kvs', a, _, _⟩ := hM
        have a4 := F4.dct F3.pool (F3.dct F.pool a)
        have a5 := F5.dct F4.pool a4
        rw [hm5] at a5
        rw [a4, ← a5]
      have hrm : r ≠ m := by rintro rfl; rw [hr] at hm4; cases hm4
      have hx6 := sg_mono hx (by decide : 2 ≤ 6)
      refine ⟨_, rfl, _, rfl, _, _, rfl, rfl, (L2' x hx).1, m, _, rfl, .k (k := Sum.inr _) hm5 (by show _ < 16777216; omega), ?_⟩
      have hM6 := Maps.put (x := ("t." : Str) ++ x) hm5 hl5 hk5 (src_t hx6) hrm hT
      have F6 : Fr p q H (upd H5 m (.dK (putK kvs (Sum.inr (("t." : Str) ++ x)) (.ref t)))) := Fr.new PL (F.trans F345) hm
      have hT6 : TabR (upd H5 m (.dK (putK kvs (Sum.inr (("t." : Str) ++ x)) (.ref t)))) t r := hT.put hm5 hrm
      have hm6 : (upd H5 m (.dK (putK kvs (Sum.inr (("t." : Str) ++ x)) (.ref t)))) m = some (.dK (putK kvs (Sum.inr (("t." : Str) ++ x)) (.ref t))) := upd_same
      have hv6 : valV (putK kvs (Sum.inr (("t." : Str) ++ x)) (V.ref t)) (Sum.inr (("t." : Str) ++ x)) = some (.ref t) := by rw [valV_put, if_pos rfl]
      generalize upd H5 m (.dK (putK kvs (Sum.inr (("t." : Str) ++ x)) (.ref t))) = H6 at hM6 F6 hT6 hm6 ⊢
      generalize putK kvs (Sum.inr (("t." : Str) ++ x)) (V.ref t) = kvs6 at hm6 hv6
      refine ⟨_, rfl, p, q, 2, rfl, F6.pool, by decide, by decide, fun d3 H7 h4 h5 F7 => ⟨rfl, _, rfl, ?_⟩⟩
      have hM7 := hM6.fr F6.pool F7
      refine ite2 (fun h6 => ?_) (fun h6 => ⟨_, _, rfl, F6.trans F7, ?_⟩)
      · have hm7 := F7.dct F6.pool hm6
        have dg : DGet H7 m (.str (("t." : Str) ++ x)) (some (.ref t)) := by
          have := DGet.k (k := Sum.inr (("t." : Str) ++ x)) hm7
          rw [hv6] at this
          exact this
        refine ⟨_, rfl, _, rfl, _, _, rfl, rfl, (L2' x hx).1, m, .ref t, rfl, dg, ?_⟩
        refine ⟨_, rfl, _, rfl, p, q, 2, rfl, F7.pool, by decide, by decide, fun y H8 hy F8 => ?_⟩
        obtain ⟨kvs8, hm8, hl8, hk8⟩ := hM7.fr F7.pool F8
        have hT8 := (hT6.fr F6.pool F7).fr F7.pool F8
        refine ⟨_, _, rfl, rfl, (L2' y hy).2, m, _, rfl, .k (k := Sum.inr _) hm8 (by show _ < 16777216; omega), ?_⟩
        refine ⟨_, _, rfl, Fr.new PL (F6.trans (F7.trans F8)) hm, Maps.put (x := ("s." : Str) ++ y) hm8 (by omega) hk8 (src_s (sg_mono hy (by decide))) hrm hT8⟩
      · obtain ⟨z, a, b, c⟩ := hM7
        exact ⟨z, a, by omega, c⟩
    · rintro σ H2 ⟨u1, u2, rfl, F, hM⟩
      have hi : (1 + k : Int).toNat ≤ 2 := by omega
      obtain ⟨kvs, e1, e2, e3⟩ := hM
      exact ⟨_, rfl, q1 m H2 hm ⟨kvs, e1, by omega, e3⟩ F⟩
abbrev ns__law_some_name : List Str := ["pool", "maps", "source", "rows"]
theorem sc57 : FnScope ["pool", "maps", "source", "rows"] ["pool", "maps", "source"] (defScope (top 57)) := ⟨rfl, rfl, rfl, by decide +kernel, rfl, by decide +kernel, by decide +kernel⟩
def sp__law_some_name (K : PySem.W.Frag) : Sp := fun vs H Q _ => ∃ p q m x n, vs = [.ref p, .ref m, .str x] ∧ Pool H p q ∧ Maps H m n ∧ ∀ y H', sg 3 (tl y) = true → Fr p q H H' → Q (.str y) H'
theorem d__law_some_name (T : TxtX w K mg) : Def P w K mg base CX0 4 "_law_some_name" ["pool", "maps", "source"] (sp__law_some_name K) := by
  obtain ⟨f, fd, F, m, b⟩ := T.a57
  refine ⟨f, fd, m, F.kp, b, F.ok sc57 (fun vs H Q E h => ?_) (fun cdv A outer s H vs Q E hr h => ?_)⟩
  · obtain ⟨p, q, m, x, n, rfl, _⟩ := h; rfl
  · have nd := sc57.nd
    have hu := hr.units
    have hu1 : (A.deeper (envOfC "_law_some_name" (defScope (top 57)) s.heap.objs.size f cdv)).units + 1 < cLine := by omega
    obtain ⟨p, q, m, x, n, rfl, PL, hM, q1⟩ := h
    refine ⟨_, (pss_cons (ps_set (i := 3) nd rfl (Or.inl rfl) (pe_ifExp (pt_cmp (pc_din hu1 (pv 2) (pv 1)) rfl) (pe_ix ix_tup (pe_dget hu1 (pv 1) (pv 2) (fun _ _ => rfl)) pe_int (fun _ _ => rfl)) pe_dnewK))
      (pss_one (ps_ret (pe_ifExp (PW.pt (pw_and (pt_cmpR (op_ne_dictE (Nat.lt_of_le_of_lt (Nat.le_add_right _ _) hu)) (pv 3) pe_dnewK (nomark _)) (pw_and1 (pt_cmpR op_gt (pe_def (d__law_draw T) (hr.mono (by decide)) (pa_cons (pv 0) (pa_cons pe_int pa_nil))) pe_int (nomark _))))) (pe_def (d__law_pick T) (hr.mono (by decide)) (pa_cons (pv 0) (pa_cons (pe_callB (call_sortedD rfl) (by rfl) T.b.sorted (by decide +kernel) (pa_cons (pv 3) pa_nil)) pa_nil))) (pe_def (d__law_name T) (hr.mono (by decide)) (pa_cons (pv 0) (pa_cons pe_int pa_nil))))))), ?_⟩
    obtain ⟨kvs, hm, hl, hk⟩ := hM
    refine seq_mid (fun σ H1 => ∃ r, σ = [some (.ref p), some (.ref m), some (.str x), some (.ref r)] ∧ Fr p q H H1 ∧ ∃ ks, H1 r = some (.dK ks) ∧ NK ks ∧ ks.length ≤ 8) ?_ (fun hR => ?_)
    · rintro σ H1 ⟨r, rfl, F, ks, hr, hn, hkl⟩
      have name1 : ∀ H2, Fr p q H H2 → tDef (sp__law_name K) (tCons (tVar 0) (tCons (tC (.int 3)) tNil)) [some (.ref p), some (.ref m), some (.str x), some (.ref r)] H2 (fun v H' => Q v H') := fun H2 F2 =>
        ⟨_, rfl, p, q, 3, rfl, F2.pool, by decide, by decide, fun y H3 hy F3 => q1 y H3 hy (F2.trans F3)⟩
      refine ⟨_, rfl, fun e he => ⟨r, e, ks, rfl, rfl, same_upd he _ _ hr, upd_same, ?_⟩⟩
      have F1 := F.more (same_upd (o := .dK []) he)
      refine ⟨_, rfl, ?_⟩
      refine ite2 (fun h1 => ?_) (fun h1 => iteF (name1 _ F1))
      refine ⟨_, rfl, p, q, 4, rfl, F1.pool, by decide, by decide, fun d H2 h2 h3 F2 => ⟨_, _, rfl, rfl, _, rfl, ?_⟩⟩
      have F12 := F1.trans F2
      refine ite2 (fun h4 => ?_) (fun h4 => name1 _ F12)
      obtain ⟨ns, hns, hsg⟩ := hn
      have hr2 := F2.dct F1.pool (same_upd (o := .dK []) he _ _ hr)
      have hnl : ns.length = ks.length := by
        have := congrArg List.length hns
        rw [List.length_map, List.length_map] at this
        exact this.symm
      refine ⟨_, rfl, _, rfl, r, ks, ns, rfl, .inl hr2, hns, by omega, fun ys l hp _ hl2 => ?_⟩
      have hyl : ys.length = ns.length := hp.length_eq
      have h1' : 1 ≤ ks.length := by
        cases ks with
        | nil => exact absurd h1 (by decide)
        | cons _ _ => simp
      have F3 : Fr p q H (upd H2 l (.lst (ys.map V.str))) := F12.more (same_upd hl2)
      refine ⟨p, q, .ref l, ys.map V.str, rfl, F3.pool, .inr ⟨l, rfl, .inr ⟨upd_same, F12.pool.p_ne hl2, F12.pool.q_ne hl2⟩⟩, by rw [List.length_map]; omega, by rw [List.length_map]; omega, fun i v H4 hv F4 => ?_⟩
      obtain ⟨y, hy, rfl⟩ := map_get hv
      exact q1 y H4 (hsg y (hp.mem_iff.mp (List.mem_of_getElem? hy))) (F3.trans F4)
    · refine ⟨_, rfl, _, rfl, m, _, rfl, .k (k := Sum.inr x) hm, _, rfl, ?_⟩
      refine ite2 (fun h1 => ?_) (fun h1 => fun r hr => hR _ _ ⟨r, rfl, Fr.new PL (.refl PL) hr, [], upd_same, ⟨[], rfl, fun _ h => nomatch h⟩, by decide⟩)
      obtain ⟨v, hv⟩ := Option.isSome_iff_exists.mp h1
      have hmem : (Sum.inr x, v) ∈ kvs := by
        unfold valV at hv
        obtain ⟨kv, e1, e2⟩ := Option.map_eq_some_iff.mp hv
        have a := List.find?_some e1
        have b := List.mem_of_find?_eq_some e1
        have c : kv.1 = Sum.inr x := of_decide_eq_true a
        rw [← c, ← e2]
        exact b
      obtain ⟨x', t, r, e, hx', hrm, wd, mo, h2, h3, ht, ks, hr, hn, hkl⟩ := hk _ hmem
      have ev : v = .ref t := (Prod.mk.inj e).2
      subst ev
      have dg : DGet H m (.str x) (some (.ref t)) := by
        have := DGet.k (k := Sum.inr x) hm
        rw [hv] at this
        exact this
      exact ⟨_, rfl, _, rfl, m, .ref t, rfl, dg, t, _, 2, .ref r, rfl, rfl, .inl (.inl ht), at_of (j := 2) rfl rfl, hR _ _ ⟨r, rfl, .refl PL, ks, hr, hn, hkl⟩⟩
end
end K75
set_option maxHeartbeats 2000000
/-! k75: store deeds that are drawn -/
namespace K75
open PySem PySem.Spec PyProof.Rows L2 L2H
/-- a store deed at v -/
def DeedAt (K : PySem.W.Frag) (H : Hp) (v : V) : Prop := ∃ x ps ks, SDeed x ps ks ∧ Dp K H v (.tuple (.str x :: ps))
theorem ite_ne {a b : Str} {A B : Prop} (h : a ≠ b) (hb : B) : if decide (V.str a = V.str b) = true then A else B := by
  rw [decide_eq_false fun z => h (V.str.inj z)]
  exact iteF hb
theorem ite_eqs {a : Str} {A B : Prop} (ha : A) : if decide (V.str a = V.str a) = true then A else B := by
  rw [decide_eq_true rfl]
  exact iteT ha
theorem deed_mk {K : PySem.W.Frag} {H : Hp} {t : Addr} {x : Str} {vs : List V} {ds : List PyData} {ks : List Kd} (ht : H t = none) (hd : DpAll K H vs ds) (hs : SDeed x ds ks) : DeedAt K (upd H t (.tup (.str x :: vs))) (.ref t) :=
  ⟨x, ds, ks, hs, .tup (.inl (.inl upd_same)) (.cons (.str x) (dpAll_same (same_upd ht) hd))⟩
theorem sd_mk {x : Str} {ds : List PyData} {ks : List Kd} (h1 : kds x = some ks) (h2 : allOk ks ds = true) (h3 : x ≠ "clear") : SDeed x ds ks := ⟨h1, h2, fun z => h3 z.1⟩
theorem ok_nums {ns : List Int} (h : ns.length = 1 ∨ ns.length = 2) (hb : ∀ n ∈ ns, -1000000000 ≤ n ∧ n ≤ 1000000000) : okK .nums (.tuple (ns.map .int)) = true := by
  have ha : (ns.map PyData.int).all (okI (-1000000000) 1000000000) = true := by
    rw [List.all_map, List.all_eq_true]
    intro n hn
    show (decide (-1000000000 ≤ n) && decide (n ≤ 1000000000)) = true
    rw [decide_eq_true (hb n hn).1, decide_eq_true (hb n hn).2]
    rfl
  show ((decide ((ns.map PyData.int).length = 1) && (ns.map PyData.int).all _) || (decide ((ns.map PyData.int).length = 2) && (ns.map PyData.int).all _)) = true
  rw [ha, List.length_map]
  rcases h with e | e <;> rw [e] <;> rfl
theorem ok_int {lo hi i : Int} (h1 : lo ≤ i) (h2 : i ≤ hi) : okI lo hi (.int i) = true := by
  show (decide (lo ≤ i) && decide (i ≤ hi)) = true
  rw [decide_eq_true h1, decide_eq_true h2]
  rfl
theorem and_ok {a b : Bool} (h1 : a = true) (h2 : b = true) : (a && b) = true := by rw [h1, h2]; rfl
theorem lt_tri : ∀ (a b : List Nat), ¬ a < b → ¬ b < a → a = b
  | [], [], _, _ => rfl
  | [], b :: r, h, _ => absurd (List.nil_lt_cons b r) h
  | a :: r, [], _, h => absurd (List.nil_lt_cons a r) h
  | a :: r, b :: t, h1, h2 => by
    rw [List.cons_lt_cons_iff] at h1 h2
    have e : a = b := by omega
    subst e
    rw [lt_tri r t (fun z => h1 (.inr ⟨rfl, z⟩)) (fun z => h2 (.inr ⟨rfl, z⟩))]
section
variable {P : Program} {w : World} {K : PySem.W.Frag} {mg : Str → Option Value} {base : Heap}
abbrev ns__law_row_deed : List Str := ["pool", "maps", "word", "table", "source", "name", "width", "other", "i", "j", "low", "high"]
theorem sc58 : FnScope ["pool", "maps", "word", "table", "source", "name", "width", "other", "i", "j", "low", "high"] ["pool", "maps", "word", "table"] (defScope (top 58)) := ⟨rfl, rfl, rfl, by decide +kernel, rfl, by decide +kernel, by decide +kernel⟩
def sp__law_row_deed (K : PySem.W.Frag) : Sp := fun vs H Q _ => ∃ p q m n x tb, vs = [.ref p, .ref m, .str x, .str tb] ∧ Pool H p q ∧ Maps H m n ∧ n ≤ 8 ∧ sg 6 (tl tb) = true ∧ (x = "put" ∨ x = "drop" ∨ x = "rename" ∨ x = "shift" ∨ x = "post" ∨ x = "clear") ∧ ∀ v H', DeedAt K H' v → Fr p q H H' → Q v H'
theorem d__law_row_deed (T : TxtX w K mg) : Def P w K mg base CX0 5 "_law_row_deed" ["pool", "maps", "word", "table"] (sp__law_row_deed K) := by
  obtain ⟨f, fd, F, m, b⟩ := T.a58
  refine ⟨f, fd, m, F.kp, b, F.ok sc58 (fun vs H Q E h => ?_) (fun cdv A outer s H vs Q E hr h => ?_)⟩
  · obtain ⟨p, q, m, n, x, tb, rfl, _⟩ := h; rfl
  · have nd := sc58.nd
    have hu := hr.units
    have hu1 : (A.deeper (envOfC "_law_row_deed" (defScope (top 58)) s.heap.objs.size f cdv)).units + 1 < cLine := by omega
    obtain ⟨p, q, m, n, x, tb, rfl, PL, hM, hn8, htb, hx, q1⟩ := h
    refine ⟨_, (pss_cons (ps_par (i := 4) (j := 5) (by rfl) nd rfl rfl (by decide) rfl rfl (pa_cons (pe_op op_add_str pe_str (pv 3)) (pa_cons (pe_def (d__law_some_name T) (hr.mono (by decide)) (pa_cons (pv 0) (pa_cons (pv 1) (pa_cons (pe_op op_add_str pe_str (pv 3)) pa_nil)))) pa_nil)) (by rfl))
      (pss_cons (ps_set (i := 6) nd rfl (Or.inl rfl) (pe_ifExp (pt_cmp (pc_din hu1 (pv 4) (pv 1)) rfl) (pe_ix ix_tup (pe_dget hu1 (pv 1) (pv 4) (fun _ _ => rfl)) pe_int (fun _ _ => rfl)) pe_int))
      (pss_cons (ps_if (pt_cmpR op_eq (pv 2) pe_str (nomark _)) (pss_one (ps_ret (pe_tup (pa_cons pe_str (pa_cons (pv 3) (pa_cons (pv 5) (pa_cons (pe_def (d__law_amounts T) (hr.mono (by decide)) (pa_cons (pv 0) (pa_cons (pe_ifExp (pt_cmpR op_gt (pe_def (d__law_draw T) (hr.mono (by decide)) (pa_cons (pv 0) (pa_cons pe_int pa_nil))) pe_int (nomark _)) (pv 6) (pe_op op_sub pe_int (pv 6))) pa_nil))) pa_nil))))))) pss_nil)
      (pss_cons (ps_if (pt_cmpR op_eq (pv 2) pe_str (nomark _)) (pss_one (ps_ret (pe_tup (pa_cons pe_str (pa_cons (pv 3) (pa_cons (pv 5) pa_nil)))))) pss_nil)
      (pss_cons (ps_if (pt_cmpR op_eq (pv 2) pe_str (nomark _)) (pss_one (ps_ret (pe_tup (pa_cons pe_str (pa_cons (pv 3) (pa_cons (pv 5) (pa_cons (pe_def (d__law_some_name T) (hr.mono (by decide)) (pa_cons (pv 0) (pa_cons (pv 1) (pa_cons (pe_ifExp (pt_cmpR op_gt (pe_def (d__law_draw T) (hr.mono (by decide)) (pa_cons (pv 0) (pa_cons pe_int pa_nil))) pe_int (nomark _)) pe_str (pv 4)) pa_nil)))) pa_nil))))))) pss_nil)
      (pss_cons (ps_if (pt_cmpR op_eq (pv 2) pe_str (nomark _)) (pss_one (ps_ret (pe_tup (pa_cons pe_str (pa_cons (pv 3) (pa_cons (pv 5) (pa_cons (pe_op op_fdivW (pe_def (d__law_draw T) (hr.mono (by decide)) (pa_cons (pv 0) (pa_cons pe_int pa_nil))) pe_int) (pa_cons (pe_op op_mul (pe_def (d__law_amount T) (hr.mono (by decide)) (pa_cons (pv 0) pa_nil)) (pe_op op_add pe_int (pe_def (d__law_draw T) (hr.mono (by decide)) (pa_cons (pv 0) (pa_cons pe_int pa_nil))))) pa_nil)))))))) pss_nil)
      (pss_cons (ps_if (pt_cmpR op_eq (pv 2) pe_str (nomark _)) (pss_cons (ps_set (i := 7) nd rfl (Or.inl rfl) (pe_def (d__law_pick T) (hr.mono (by decide)) (pa_cons (pv 0) (pa_cons (pe_op op_cat (pe_callB (call_sortedD rfl) (by rfl) T.b.sorted (by decide +kernel) (pa_cons (pv 1) pa_nil)) (pe_lst (pa_cons (pv 4) (pa_cons pe_str pa_nil)))) pa_nil))))
      (pss_cons (ps_par (i := 8) (j := 9) (by rfl) nd rfl rfl (by decide) rfl rfl (pa_cons (pe_op op_fdivW (pe_def (d__law_draw T) (hr.mono (by decide)) (pa_cons (pv 0) (pa_cons pe_int pa_nil))) pe_int) (pa_cons (pe_op op_fdivW (pe_def (d__law_draw T) (hr.mono (by decide)) (pa_cons (pv 0) (pa_cons pe_int pa_nil))) pe_int) pa_nil)) (by rfl))
      (pss_one (ps_ret (pe_tup (pa_cons pe_str (pa_cons (pv 3) (pa_cons (pv 5) (pa_cons (pv 8) (pa_cons (pv 7) (pa_cons (pe_def (d__law_some_name T) (hr.mono (by decide)) (pa_cons (pv 0) (pa_cons (pv 1) (pa_cons (pv 7) pa_nil)))) (pa_cons (pv 9) (pa_cons (pe_def (d__law_pick T) (hr.mono (by decide)) (pa_cons (pv 0) (pa_cons (pe_lst (pa_cons pe_int (pa_cons (pe_un un_neg pe_int) pa_nil))) pa_nil))) pa_nil))))))))))))) pss_nil)
      (pss_cons (ps_asg (pe_callB cr_sortedS (by rfl) T.b.sorted (by decide +kernel) (pa_cons (pe_lst (pa_cons (pe_def (d__law_name T) (hr.mono (by decide)) (pa_cons (pv 0) (pa_cons pe_int pa_nil))) (pa_cons (pe_op op_add_str (pe_def (d__law_some_name T) (hr.mono (by decide)) (pa_cons (pv 0) (pa_cons (pv 1) (pa_cons (pv 4) pa_nil)))) pe_str) pa_nil))) pa_nil)) (pg_lst rfl (pgs_cons (pg_name (i := 10) nd rfl (Or.inl rfl)) (pgs_cons (pg_name (i := 11) nd rfl (Or.inl rfl)) pgs_nil))))
      (pss_cons (ps_set (i := 11) nd rfl (Or.inl rfl) (pe_ifExp (PW.pt (pw_or (pt_cmpR op_eq (pv 10) (pv 11) (nomark _)) (pw_or1 (pt_cmpR op_eq (pe_def (d__law_draw T) (hr.mono (by decide)) (pa_cons (pv 0) (pa_cons pe_int pa_nil))) pe_int (nomark _))))) pe_non (pv 11)))
      (pss_one (ps_ret (pe_tup (pa_cons pe_str (pa_cons (pv 3) (pa_cons (pe_ifExp (pt_cmpR op_eq (pe_def (d__law_draw T) (hr.mono (by decide)) (pa_cons (pv 0) (pa_cons pe_int pa_nil))) pe_int (nomark _)) pe_non (pv 10)) (pa_cons (pv 11) pa_nil)))))))))))))))), ?_⟩
    have et : (("t." : Str)).length = 2 := by decide +kernel
    have htl := sg_len htb
    have lt1 : (("t." : Str)).length + tb.length ≤ 16777216 := by rw [et, slen]; omega
    refine ⟨_, rfl, _, _, rfl, rfl, lt1, _, rfl, _, rfl, _, rfl, _, _, rfl, rfl, lt1, p, q, m, ("t." : Str) ++ tb, n, rfl, PL, hM, fun nm H1 hnm F1 => ⟨_, _, rfl, ?_⟩⟩
    have hM1 := hM.fr PL F1
    dsimp only
    refine seq_mid (fun σ H2 => H2 = H1 ∧ ∃ wd : Nat, 1 ≤ wd ∧ wd ≤ 2 ∧ σ = [some (.ref p), some (.ref m), some (.str x), some (.str tb), some (.str (("t." : Str) ++ tb)), some (.str nm), some (.int wd), none, none, none, none, none]) ?_ (fun hR => ?_)
    · rintro σ H1 ⟨rfl, wd, hw1, hw2, rfl⟩
      have okt : okK .name (.str tb) = true := htb
      have okr : okK .row (.str nm) = true := sg_mono hnm (by decide)
      have P1 := F1.pool
      have dpt : ∀ H', Dp K H' (.str tb) (.str tb) := fun _ => .str tb
      rcases hx with rfl | rfl | rfl | rfl | rfl | rfl
      · -- put
        refine ⟨_, rfl, rfl, _, rfl, ite_eqs ?_⟩
        have go : ∀ (w2 : Nat) (H3 : Hp), (w2 = 1 ∨ w2 = 2) → Fr p q H H3 → ∀ (ns : List Int) v H', ns.length = w2 → (∀ n ∈ ns, -1000000000 ≤ n ∧ n ≤ 1000000000) → Dp K H' v (.tuple (ns.map .int)) → Fr p q H3 H' → ∀ t, H' t = none → Q (.ref t) (upd H' t (.tup [.str "put", .str tb, .str nm, v])) := by
          intro w2 H3 hw F3 ns v H' hl hb hv F4 t ht
          refine q1 _ _ (deed_mk ht (.cons (.str tb) (.cons (.str nm) (.cons hv .nil))) (sd_mk (ks := [.name, .row, .nums]) (by decide +kernel) ?_ (by decide +kernel))) ((F3.trans F4).more (same_upd ht))
          exact and_ok okt (and_ok okr (and_ok (ok_nums (by omega) hb) rfl))
        refine ⟨_, rfl, _, rfl, _, rfl, _, rfl, p, q, 8, rfl, P1, by decide, by decide, fun d H3 h0 h1 F3 => ⟨_, _, rfl, rfl, _, rfl, ?_⟩⟩
        have F13 := F1.trans F3
        refine ite2 (fun h1 => ?_) (fun h1 => ?_)
        · exact ⟨_, rfl, p, q, wd, rfl, F3.pool, by omega, fun ns v H4 hl hb hv F4 => ⟨(by show 4 ≤ 16777216; decide), fun t ht => go wd H3 (by omega) F13 ns v H4 hl hb hv F4 t ht⟩⟩
        · refine ⟨_, rfl, _, _, rfl, rfl, p, q, 3 - wd, ?_, F3.pool, by omega, fun ns v H4 hl hb hv F4 => ⟨(by show 4 ≤ 16777216; decide), fun t ht => go (3 - wd) H3 (by omega) F13 ns v H4 hl hb hv F4 t ht⟩⟩
          have : ((3 - wd : Nat) : Int) = 3 - (wd : Int) := by omega
          rw [this]
      · -- drop
        refine ⟨_, rfl, rfl, _, rfl, ite_ne (by decide +kernel) ?_⟩
        refine ⟨_, rfl, rfl, _, rfl, ite_eqs ?_⟩
        refine ⟨_, rfl, _, rfl, (by show 3 ≤ 16777216; decide), fun t ht => ?_⟩
        exact q1 _ _ (deed_mk ht (.cons (.str tb) (.cons (.str nm) .nil)) (sd_mk (ks := [.name, .row]) (by decide +kernel) (and_ok okt (and_ok okr rfl)) (by decide +kernel))) (F1.more (same_upd ht))
      · -- rename
        refine ⟨_, rfl, rfl, _, rfl, ite_ne (by decide +kernel) ?_⟩
        refine ⟨_, rfl, rfl, _, rfl, ite_ne (by decide +kernel) ?_⟩
        refine ⟨_, rfl, rfl, _, rfl, ite_eqs ?_⟩
        have go : ∀ (H3 : Hp), Fr p q H H3 → ∀ (y : Str) H', sg 3 (tl y) = true → Fr p q H3 H' → ∀ t, H' t = none → Q (.ref t) (upd H' t (.tup [.str "rename", .str tb, .str nm, .str y])) := by
          intro H3 F3 y H' hy F4 t ht
          have oky : okK .row (.str y) = true := sg_mono hy (by decide)
          exact q1 _ _ (deed_mk ht (.cons (.str tb) (.cons (.str nm) (.cons (.str y) .nil))) (sd_mk (ks := [.name, .row, .row]) (by decide +kernel) (and_ok okt (and_ok okr (and_ok oky rfl))) (by decide +kernel))) ((F3.trans F4).more (same_upd ht))
        refine ⟨_, rfl, _, rfl, _, rfl, _, rfl, _, rfl, p, q, 5, rfl, P1, by decide, by decide, fun d H3 h0 h1 F3 => ⟨_, _, rfl, rfl, _, rfl, ?_⟩⟩
        have F13 := F1.trans F3
        have hM3 := hM.fr PL F13
        refine ite2 (fun h1 => ?_) (fun h1 => ?_)
        · exact ⟨p, q, m, _, n, rfl, F3.pool, hM3, fun y H4 hy F4 => ⟨(by show 4 ≤ 16777216; decide), fun t ht => go H3 F13 y H4 hy F4 t ht⟩⟩
        · exact ⟨_, rfl, p, q, m, _, n, rfl, F3.pool, hM3, fun y H4 hy F4 => ⟨(by show 4 ≤ 16777216; decide), fun t ht => go H3 F13 y H4 hy F4 t ht⟩⟩
      · -- shift
        refine ⟨_, rfl, rfl, _, rfl, ite_ne (by decide +kernel) ?_⟩
        refine ⟨_, rfl, rfl, _, rfl, ite_ne (by decide +kernel) ?_⟩
        refine ⟨_, rfl, rfl, _, rfl, ite_ne (by decide +kernel) ?_⟩
        refine ⟨_, rfl, rfl, _, rfl, ite_eqs ?_⟩
        refine ⟨_, rfl, _, rfl, _, rfl, p, q, 3, rfl, P1, by decide, by decide, fun d H3 h0 h1 F3 => ⟨_, _, rfl, rfl, div_ok (by decide) (by decide), ?_⟩⟩
        refine ⟨_, rfl, p, q, rfl, F3.pool, fun a H4 h2 h3 F4 => ?_⟩
        refine ⟨_, rfl, p, q, 2, rfl, F4.pool, by decide, by decide, fun e H5 h4 h5 F5 => ⟨_, _, rfl, rfl, ?_⟩⟩
        refine ⟨_, _, rfl, rfl, .inl ⟨by omega, by omega⟩, (by show 5 ≤ 16777216; decide), fun t ht => ?_⟩
        have okp : okK .place (.int (d / 2)) = true := ok_int (by omega) (by omega)
        have oks : okK .step (.int (a * (1 + e))) = true := by
          have : e = 0 ∨ e = 1 := by omega
          refine ok_int ?_ ?_ <;> rcases this with rfl | rfl <;> omega
        exact q1 _ _ (deed_mk ht (.cons (.str tb) (.cons (.str nm) (.cons (.int _) (.cons (.int _) .nil)))) (sd_mk (ks := [.name, .row, .place, .step]) (by decide +kernel) (and_ok okt (and_ok okr (and_ok okp (and_ok oks rfl)))) (by decide +kernel))) ((F1.trans (F3.trans (F4.trans F5))).more (same_upd ht))
      · -- post
        refine ⟨_, rfl, rfl, _, rfl, ite_ne (by decide +kernel) ?_⟩
        refine ⟨_, rfl, rfl, _, rfl, ite_ne (by decide +kernel) ?_⟩
        refine ⟨_, rfl, rfl, _, rfl, ite_ne (by decide +kernel) ?_⟩
        refine ⟨_, rfl, rfl, _, rfl, ite_ne (by decide +kernel) ?_⟩
        refine ⟨_, rfl, rfl, _, rfl, ite_eqs ?_⟩
        obtain ⟨kvs, hm, hl, hk⟩ := hM1
        obtain ⟨ks, hks, hsrc⟩ : ∃ ks : List Str, kvs.map (·.1) = ks.map Sum.inr ∧ ∀ z ∈ ks, srcL (tl z) = true := by
          clear hm hl
          induction kvs with
          | nil => exact ⟨[], rfl, fun _ h => nomatch h⟩
          | cons kv r ih =>
            obtain ⟨ks, e, h⟩ := ih fun kv hkv => hk kv (List.mem_cons_of_mem _ hkv)
            obtain ⟨z, t, r', e', hz, _⟩ := hk kv (List.mem_cons_self ..)
            refine ⟨z :: ks, by rw [List.map_cons, e, e']; rfl, fun y hy => ?_⟩
            rcases List.mem_cons.mp hy with rfl | hy
            · exact hz
            · exact h y hy
        have hkl : ks.length = kvs.length := by
          have := congrArg List.length hks
          rw [List.length_map, List.length_map] at this
          exact this.symm
        refine ⟨_, rfl, _, rfl, m, kvs, ks, rfl, .inl hm, hks, by omega, fun ys l hp _ hl2 => ?_⟩
        refine ⟨_, rfl, (by show 2 ≤ 16777216; decide), fun l2 hl3 => ?_⟩
        have hyl : ys.length = ks.length := hp.length_eq
        refine ⟨l, l2, _, _, rfl, rfl, same_upd hl3 _ _ upd_same, upd_same, by rw [List.length_map]; show ys.length + 2 ≤ 16777216; omega, fun l3 hl4 => ?_⟩
        have FL : Fr p q H (upd (upd (upd H1 l (.lst (ys.map V.str))) l2 (.lst [.str (("t." : Str) ++ tb), .str "s.none"])) l3 (.lst (ys.map V.str ++ [.str (("t." : Str) ++ tb), .str "s.none"]))) := ((F1.more (same_upd hl2)).more (same_upd hl3)).more (same_upd hl4)
        have FL0 : Fr p q H (upd (upd H1 l (.lst (ys.map V.str))) l2 (.lst [.str (("t." : Str) ++ tb), .str "s.none"])) := (F1.more (same_upd hl2)).more (same_upd hl3)
        refine ⟨p, q, .ref l3, _, rfl, FL.pool, .inr ⟨l3, rfl, .inr ⟨upd_same, FL0.pool.p_ne hl4, FL0.pool.q_ne hl4⟩⟩, by rw [List.length_append]; show 1 ≤ _ + 2; omega, by rw [List.length_append, List.length_map]; show _ + 2 ≤ 1000; omega, fun i v H3 hv F3 => ?_⟩
        obtain ⟨z, rfl, hz⟩ : ∃ z, v = .str z ∧ srcL (tl z) = true := by
          rcases List.mem_append.mp (List.mem_of_getElem? hv) with a | a
          · obtain ⟨y, hy, rfl⟩ := List.mem_map.mp a
            exact ⟨y, rfl, hsrc y (hp.mem_iff.mp hy)⟩
          · rcases List.mem_cons.mp a with rfl | a
            · exact ⟨_, rfl, src_t htb⟩
            · rw [List.mem_singleton.mp a]
              exact ⟨_, rfl, by decide +kernel⟩
        have FL3 := FL.trans F3
        refine ⟨_, rfl, p, q, 3, rfl, FL3.pool, by decide, by decide, fun d1 H4 h0 h1 F4 => ⟨_, _, rfl, rfl, div_ok (by decide) (by decide), ?_⟩⟩
        have FL4 := FL3.trans F4
        refine ⟨_, rfl, p, q, 3, rfl, FL4.pool, by decide, by decide, fun d2 H5 h2 h3 F5 => ⟨_, _, rfl, rfl, div_ok (by decide) (by decide), _, _, rfl, ?_⟩⟩
        have FL5 := FL4.trans F5
        refine ⟨_, rfl, _, rfl, _, rfl, _, rfl, _, rfl, _, rfl, _, rfl, p, q, m, z, n, rfl, FL5.pool, hM.fr PL FL5, fun y H6 hy F6 => ?_⟩
        have FL6 := FL5.trans F6
        refine ⟨_, rfl, _, rfl, _, rfl, (by show 2 ≤ 16777216; decide), fun l4 hl5 => ?_⟩
        have FL7 := FL6.more (same_upd (o := .lst [.int 1, .int (-1)]) hl5)
        refine ⟨p, q, .ref l4, _, rfl, FL7.pool, .inr ⟨l4, rfl, .inr ⟨upd_same, FL6.pool.p_ne hl5, FL6.pool.q_ne hl5⟩⟩, by decide, by decide, fun i2 v2 H7 hv2 F7 => ⟨(by show 8 ≤ 16777216; decide), fun t ht => ?_⟩⟩
        obtain ⟨g, rfl, hg⟩ : ∃ g, v2 = .int g ∧ okK .sgn (.int g) = true := by
          rcases List.mem_cons.mp (List.mem_of_getElem? hv2) with rfl | a
          · exact ⟨1, rfl, rfl⟩
          · rw [List.mem_singleton.mp a]
            exact ⟨-1, rfl, rfl⟩
        have ok1 : okK .place (.int (d1 / 2)) = true := ok_int (by omega) (by omega)
        have ok2 : okK .place (.int (d2 / 2)) = true := ok_int (by omega) (by omega)
        have oks : okK .src (.str z) = true := hz
        have oky : okK .row (.str y) = true := sg_mono hy (by decide)
        exact q1 _ _ (deed_mk ht (.cons (.str tb) (.cons (.str nm) (.cons (.int _) (.cons (.str z) (.cons (.str y) (.cons (.int _) (.cons (.int g) .nil))))))) (sd_mk (ks := [.name, .row, .place, .src, .row, .place, .sgn]) (by decide +kernel) (and_ok okt (and_ok okr (and_ok ok1 (and_ok oks (and_ok oky (and_ok ok2 (and_ok hg rfl))))))) (by decide +kernel))) ((FL7.trans F7).more (same_upd ht))
      · -- clear
        refine ⟨_, rfl, rfl, _, rfl, ite_ne (by decide +kernel) ?_⟩
        refine ⟨_, rfl, rfl, _, rfl, ite_ne (by decide +kernel) ?_⟩
        refine ⟨_, rfl, rfl, _, rfl, ite_ne (by decide +kernel) ?_⟩
        refine ⟨_, rfl, rfl, _, rfl, ite_ne (by decide +kernel) ?_⟩
        refine ⟨_, rfl, rfl, _, rfl, ite_ne (by decide +kernel) ?_⟩
        refine ⟨_, rfl, p, q, 3, rfl, P1, by decide, by decide, fun a H3 ha F3 => ?_⟩
        have F13 := F1.trans F3
        refine ⟨_, rfl, _, rfl, _, rfl, p, q, m, _, n, rfl, F13.pool, hM.fr PL F13, fun b H4 hb F4 => ?_⟩
        have F14 := F13.trans F4
        have hbl := sg_len hb
        have e1 : ("a" : Str).length = 1 := by decide +kernel
        refine ⟨_, _, rfl, rfl, by rw [slen b, e1]; show _ ≤ 16777216; omega, (by show 2 ≤ 16777216; decide), fun l hl => ?_⟩
        have okA : sg 12 (tl a) = true := sg_mono ha (by decide)
        have okB : sg 12 (tl (b ++ ("a" : Str))) = true := by
          have e2 : tl ("a" : Str) = [97] := by decide +kernel
          unfold sg at hb ⊢
          rw [tl_app, e2, List.all_append, List.length_append]
          rw [Bool.and_eq_true, Bool.and_eq_true, decide_eq_true_eq, decide_eq_true_eq] at hb
          rw [hb.2]
          have : ([97] : List Nat).length = 1 := rfl
          rw [this, decide_eq_true (by omega), decide_eq_true (by omega)]
          rfl
        refine ⟨l, [a, b ++ ("a" : Str)], rfl, .of upd_same, by show 2 < 64; decide, fun ys l2 hp hs hl2 => ?_⟩
        obtain ⟨y1, y2, rfl⟩ : ∃ y1 y2, ys = [y1, y2] := by
          match ys, hp.length_eq with
          | [y1, y2], _ => exact ⟨y1, y2, rfl⟩
        have okm : ∀ y ∈ [y1, y2], sg 12 (tl y) = true := by
          intro y hy
          rcases List.mem_cons.mp (hp.mem_iff.mp hy) with rfl | z
          · exact okA
          · rw [List.mem_singleton.mp z]
            exact okB
        have hlt : ¬ tl y2 < tl y1 := by
          have h1 : (!ltCps (tl y2) (tl y1) && true) = true := hs
          rw [Bool.and_true, ltCps_eq, Bool.not_eq_true', decide_eq_false_iff_not] at h1
          exact h1
        refine ⟨l2, _, rfl, .of upd_same, rfl, _, _, rfl, _, _, rfl, rfl, ?_⟩
        have F5 := (F14.more (same_upd hl)).more (same_upd (o := .lst ([y1, y2].map V.str)) hl2)
        generalize upd (upd H4 l (HO.lst [V.str a, V.str (b ++ ("a" : Str))])) l2 (HO.lst ([y1, y2].map V.str)) = H5 at F5 ⊢
        dsimp only
        refine seq_mid (fun σ H6 => Fr p q H H6 ∧ ∃ hv, (hv = V.non ∨ (hv = .str y2 ∧ tl y1 < tl y2)) ∧ σ = [some (.ref p), some (.ref m), some (.str "clear"), some (.str tb), some (.str (("t." : Str) ++ tb)), some (.str nm), some (.int wd), none, none, none, some (.str y1), some hv]) ?_ (fun hR => ?_)
        · rintro σ H6 ⟨F6, hv, hhv, rfl⟩
          obtain ⟨dh, hdh, okh, hfl⟩ : ∃ dh, (∀ H', Dp K H' hv dh) ∧ okK .bound dh = true ∧ ∀ dt dl, (dl = PyData.none ∨ dl = .str y1) → flat2 [dt, dl, dh] = false := by
            rcases hhv with rfl | ⟨rfl, hlt2⟩
            · exact ⟨.none, fun _ => .non, rfl, fun dt dl h => by rcases h with rfl | rfl <;> rfl⟩
            · refine ⟨.str y2, fun _ => .str y2, okm y2 (by simp), fun dt dl h => ?_⟩
              rcases h with rfl | rfl
              · rfl
              · show (!decide (tl y1 < tl y2)) = false
                rw [decide_eq_true hlt2]
                rfl
          have go : ∀ (H7 : Hp) (lv : V) (dl : PyData), Fr p q H6 H7 → (∀ H', Dp K H' lv dl) → okK .bound dl = true → (dl = PyData.none ∨ dl = .str y1) → ∀ t, H7 t = none → Q (.ref t) (upd H7 t (.tup [.str "clear", .str tb, lv, hv])) := by
            intro H7 lv dl F7 hdl okl hd t ht
            refine q1 _ _ (deed_mk ht (.cons (.str tb) (.cons (hdl _) (.cons (hdh _) .nil))) ⟨(by decide +kernel : kds "clear" = some [.name, .bound, .bound]), and_ok okt (and_ok okl (and_ok okh rfl)), fun z => ?_⟩) ((F6.trans F7).more (same_upd ht))
            rw [hfl _ _ hd] at z
            exact absurd z.2 Bool.false_ne_true
          refine ⟨_, rfl, _, rfl, p, q, 3, rfl, F6.pool, by decide, by decide, fun d H7 h0 h1 F7 => ⟨rfl, _, rfl, ?_⟩⟩
          refine ite2 (fun h1 => ?_) (fun h1 => ?_)
          · exact ⟨_, rfl, (by show 4 ≤ 16777216; decide), fun t ht => go H7 .non .none F7 (fun _ => .non) rfl (.inl rfl) t ht⟩
          · exact ⟨_, rfl, _, rfl, (by show 4 ≤ 16777216; decide), fun t ht => go H7 (.str y1) (.str y1) F7 (fun _ => .str y1) (okm y1 (by simp)) (.inr rfl) t ht⟩
        · refine ⟨_, rfl, _, rfl, rfl, _, rfl, ?_⟩
          refine ite2 (fun h1 => ?_) (fun h1 => ?_)
          · exact iteT (hR _ _ ⟨F5, .non, .inl rfl, rfl⟩)
          · refine ⟨_, rfl, p, q, 3, rfl, F5.pool, by decide, by decide, fun d H6 h2 h3 F6 => ⟨rfl, _, rfl, ?_⟩⟩
            refine ite2 (fun h4 => ?_) (fun h4 => ?_)
            · exact hR _ _ ⟨F5.trans F6, .non, .inl rfl, rfl⟩
            · refine ⟨_, rfl, hR _ _ ⟨F5.trans F6, .str y2, .inr ⟨rfl, ?_⟩, rfl⟩⟩
              by_cases z : tl y1 < tl y2
              · exact z
              · have e := lt_tri _ _ z hlt
                have e2 : y1 = y2 := by rw [str_of_tl y1, e, ← str_of_tl y2]
                rw [str_eq, decide_eq_true_eq] at h1
                exact absurd e2 h1
    · obtain ⟨kvs, hm, hl, hk⟩ := hM1
      refine ⟨_, rfl, _, rfl, m, _, rfl, .k (k := Sum.inr _) hm, _, rfl, ?_⟩
      refine ite2 (fun h1 => ?_) (fun h1 => hR _ _ ⟨rfl, 1, by decide, by decide, rfl⟩)
      obtain ⟨v, hv⟩ := Option.isSome_iff_exists.mp h1
      have hmem : (Sum.inr (("t." : Str) ++ tb), v) ∈ kvs := by
        unfold valV at hv
        obtain ⟨kv, e1, e2⟩ := Option.map_eq_some_iff.mp hv
        have a := List.find?_some e1
        have b := List.mem_of_find?_eq_some e1
        have c : kv.1 = Sum.inr (("t." : Str) ++ tb) := of_decide_eq_true a
        rw [← c, ← e2]
        exact b
      obtain ⟨x', t, r, e, hx', hrm, wd, mo, h2, h3, ht, ks, hr, hn, hkl⟩ := hk _ hmem
      have ev : v = .ref t := (Prod.mk.inj e).2
      subst ev
      have dg : DGet H1 m (.str (("t." : Str) ++ tb)) (some (.ref t)) := by
        have := DGet.k (k := Sum.inr (("t." : Str) ++ tb)) hm
        rw [hv] at this
        exact this
      exact ⟨_, rfl, _, rfl, m, .ref t, rfl, dg, t, _, 0, .int wd, rfl, rfl, .inl (.inl ht), at_of (j := 0) rfl rfl, hR _ _ ⟨rfl, wd, h2, h3, rfl⟩⟩
end
end K75
set_option maxHeartbeats 2000000
/-! k75: store deeds that are drawn, of every word -/
namespace K75
open PySem PySem.Spec PyProof.Rows L2 L2H
def ws12 : List Str := ["make", "end", "call", "snap", "clone", "fade", "put", "drop", "rename", "shift", "post", "clear"]
theorem slice_t (x : Str) (i : Nat) : Txt.slice x none (some (i : Int)) = SX.S ((tl x).take i) := by
  have := SX.slice_to (a := tl x) (i := (i : Int)) (by omega)
  rw [← str_of_tl x] at this
  exact this
theorem slice_f (x : Str) (i : Nat) : Txt.slice x (some (i : Int)) none = SX.S ((tl x).drop i) := by
  have := SX.slice_from (a := tl x) (i := (i : Int)) (by omega)
  rw [← str_of_tl x] at this
  exact this
theorem gn_mid {i : Nat} {v : V} {A R : TS} {D : Ends} {σ : L2.St} {H : Hp} (C : L2.St → Hp → Prop) (hR : ∀ σ' H', C σ' H' → R D σ' H') (hA : (∀ σ' H', C σ' H' → R D σ' H') → A { D with nx := R D } (σ.set i (some v)) H) : gName i v σ H (tSeq A R D) := hA hR
theorem src_drop {x : Str} (h : srcL (tl x) = true) : sg 6 ((tl x).drop 2) = true := by
  obtain ⟨a, r, e, _, hr⟩ := srcL_cases h
  rw [e]
  exact hr
theorem canAll {ds : List PyData} (h : ∀ d ∈ ds, d.canLay0 = true) : PyData.canLayAll0 ds = true := by
  induction ds with
  | nil => simp [PyData.canLayAll0]
  | cons d r ih => simp [PyData.canLayAll0, h d (List.mem_cons_self ..), ih fun x hx => h x (List.mem_cons_of_mem _ hx)]
theorem depAll {ds : List PyData} {n : Nat} (h : ∀ d ∈ ds, d.depth ≤ n) : PyData.depthAll ds ≤ n := by
  induction ds with
  | nil => simp [PyData.depthAll]
  | cons d r ih =>
    have h1 := h d (List.mem_cons_self ..)
    have h2 := ih fun x hx => h x (List.mem_cons_of_mem _ hx)
    simp only [PyData.depthAll]
    omega
theorem shaped_list {ds : List PyData} {n : Nat} (hn : n < 60) (h : ∀ d ∈ ds, d.canLay0 = true ∧ d.depth ≤ n) : SeqAt.shaped (.list ds) = true := by
  have h1 := canAll fun d hd => (h d hd).1
  have h2 := depAll fun d hd => (h d hd).2
  have e1 : PyData.canLay0 (.list ds) = true := by simp only [PyData.canLay0, h1]
  have e2 : PyData.depth (.list ds) = PyData.depthAll ds + 1 := by simp only [PyData.depth]
  show (PyData.canLay0 (.list ds) && decide (PyData.depth (.list ds) ≤ 64)) = true
  rw [e1, e2, decide_eq_true (by omega)]
  rfl
theorem shaped_tup {ds : List PyData} {n : Nat} (hn : n < 60) (h : ∀ d ∈ ds, d.canLay0 = true ∧ d.depth ≤ n) : SeqAt.shaped (.tuple ds) = true := by
  have h1 := canAll fun d hd => (h d hd).1
  have h2 := depAll fun d hd => (h d hd).2
  have e1 : PyData.canLay0 (.tuple ds) = true := by simp only [PyData.canLay0, h1]
  have e2 : PyData.depth (.tuple ds) = PyData.depthAll ds + 1 := by simp only [PyData.depth]
  show (PyData.canLay0 (.tuple ds) && decide (PyData.depth (.tuple ds) ≤ 64)) = true
  rw [e1, e2, decide_eq_true (by omega)]
  rfl
theorem can_str {x : Str} (h : ∀ c ∈ tl x, c < 1114112) : (PyData.str x).canLay0 = true ∧ (PyData.str x).depth ≤ 0 := by
  refine ⟨?_, by simp only [PyData.depth]; exact Nat.le_refl _⟩
  have e : PyData.strOk x = true := by
    show x.cps.all (fun c => decide (c < 0x110000)) = true
    rw [← Array.all_toList, List.all_eq_true]
    intro c hc
    exact decide_eq_true (h c hc)
  simp only [PyData.canLay0, e]
theorem alB_lt {c : Nat} (h : alB c = true) : c < 1114112 := by
  unfold alB at h
  rw [Bool.or_eq_true, Bool.and_eq_true, Bool.and_eq_true, decide_eq_true_eq, decide_eq_true_eq, decide_eq_true_eq, decide_eq_true_eq] at h
  omega
theorem sg_lt {m : Nat} {l : List Nat} (h : sg m l = true) : ∀ c ∈ l, c < 1114112 := by
  unfold sg at h
  rw [Bool.and_eq_true] at h
  exact fun c hc => alB_lt (List.all_eq_true.mp h.2 c hc)
theorem dp_strs {K : PySem.W.Frag} {H : Hp} : ∀ xs : List Str, DpAll K H (xs.map V.str) (xs.map .str)
  | [] => .nil
  | x :: r => .cons (.str x) (dp_strs r)
theorem shaped_strs {xs : List Str} (h : ∀ x ∈ xs, ∀ c ∈ tl x, c < 1114112) : SeqAt.shaped (.list (xs.map PyData.str)) = true := shaped_list (n := 0) (by decide) fun d hd => by
  obtain ⟨x, hx, rfl⟩ := List.mem_map.mp hd
  exact can_str (h x hx)
theorem eqv_nil (ds : List PyData) : PyData.eqv (.list ds) (.list []) = ds.isEmpty := by
  cases ds <;> simp [PyData.eqv, PyData.eqvAll]
section
variable {P : Program} {w : World} {K : PySem.W.Frag} {mg : Str → Option Value} {base : Heap}
abbrev ns__law_store_deed : List Str := ["pool", "maps", "words", "word", "kind", "standing", "source", "name"]
theorem sc59 : FnScope ["pool", "maps", "words", "word", "kind", "standing", "source", "name"] ["pool", "maps", "words"] (defScope (top 59)) := ⟨rfl, rfl, rfl, by decide +kernel, rfl, by decide +kernel, by decide +kernel⟩
def sp__law_store_deed (K : PySem.W.Frag) : Sp := fun vs H Q _ => ∃ p q m n l, vs = [.ref p, .ref m, .ref l] ∧ Pool H p q ∧ Maps H m n ∧ n ≤ 8 ∧ H l = some (.lst (ws12.map V.str)) ∧ l ≠ p ∧ l ≠ q ∧ ∀ v H', DeedAt K H' v → Fr p q H H' → Q v H'
theorem d__law_store_deed (T : TxtX w K mg) : Def P w K mg base CX0 6 "_law_store_deed" ["pool", "maps", "words"] (sp__law_store_deed K) := by
  obtain ⟨f, fd, F, m, b⟩ := T.a59
  refine ⟨f, fd, m, F.kp, b, F.ok sc59 (fun vs H Q E h => ?_) (fun cdv A outer s H vs Q E hr h => ?_)⟩
  · obtain ⟨p, q, m, n, l, rfl, _⟩ := h; rfl
  · have nd := sc59.nd
    have hu := hr.units
    have hu1 : (A.deeper (envOfC "_law_store_deed" (defScope (top 59)) s.heap.objs.size f cdv)).units + 1 < cLine := by omega
    obtain ⟨p, q, m, n, l, rfl, PL, hM, hn8, hl, hlp, hlq, q1⟩ := h
    refine ⟨_, (pss_cons (ps_set (i := 3) nd rfl (Or.inl rfl) (pe_def (d__law_pick T) (hr.mono (by decide)) (pa_cons (pv 0) (pa_cons (pv 2) pa_nil))))
      (pss_cons (ps_set (i := 4) nd rfl (Or.inr rfl) (pe_ifExp (pt_cmpR op_in_seq (pv 3) (pe_lst (pa_cons pe_str (pa_cons pe_str pa_nil))) rfl) pe_str pe_str))
      (pss_cons (ps_setLc (i := 5) (own := [("source", 6)]) (g := (gName 6)) (tt := _) rfl nd rfl rfl (sw_true rfl rfl rfl (by decide +kernel)) (pi_list (pe_callB (call_sortedD rfl) (by rfl) T.b.sorted (by decide +kernel) (pa_cons (pv 1) pa_nil))) (blkOk_by (own := [("source", 6)]) (N := ns__law_store_deed) (sc := defScope (top 59)) (by decide +kernel)) (fun _ _ _ _ _ => (pg_name (i := 6) nd rfl (Or.inl rfl))) (fun _ _ _ _ _ => (pts_one (pt_cmpR op_eq (pe_slice C8.sl_txt (pv 6) po_none (po_some pe_int)) (pv 4) (nomark _)))) (fun _ _ _ _ _ => (pe_slice C8.sl_txt (pv 6) (po_some pe_int) po_none)))
      (pss_cons (ps_set (i := 7) nd rfl (Or.inl rfl) (pe_ifExp (PW.pt (pw_and (pt_cmpR (op_neD hu) (pv 5) (pe_lst pa_nil) (nomark _)) (pw_and1 (pt_cmpR op_gt (pe_def (d__law_draw T) (hr.mono (by decide)) (pa_cons (pv 0) (pa_cons pe_int pa_nil))) pe_int (nomark _))))) (pe_def (d__law_pick T) (hr.mono (by decide)) (pa_cons (pv 0) (pa_cons (pv 5) pa_nil))) (pe_def (d__law_name T) (hr.mono (by decide)) (pa_cons (pv 0) (pa_cons pe_int pa_nil)))))
      (pss_cons (ps_if (pt_cmpR op_eq (pv 3) pe_str (nomark _)) (pss_one (ps_ret (pe_tup (pa_cons pe_str (pa_cons (pe_def (d__law_name T) (hr.mono (by decide)) (pa_cons (pv 0) (pa_cons pe_int pa_nil))) (pa_cons (pe_op op_add pe_int (pe_def (d__law_draw T) (hr.mono (by decide)) (pa_cons (pv 0) (pa_cons pe_int pa_nil)))) (pa_cons (pe_def (d__law_pick T) (hr.mono (by decide)) (pa_cons (pv 0) (pa_cons (pe_lst (pa_cons pe_int (pa_cons pe_int (pa_cons pe_int (pa_cons pe_int (pa_cons pe_int pa_nil)))))) pa_nil))) pa_nil))))))) pss_nil)
      (pss_cons (ps_if (pt_cmpR op_in_seq (pv 3) (pe_lst (pa_cons pe_str (pa_cons pe_str pa_nil))) rfl) (pss_one (ps_ret (pe_tup (pa_cons (pv 3) (pa_cons (pv 7) pa_nil))))) pss_nil)
      (pss_cons (ps_if (pt_cmpR op_in_seq (pv 3) (pe_lst (pa_cons pe_str (pa_cons pe_str (pa_cons pe_str pa_nil)))) rfl) (pss_one (ps_ret (pe_tup (pa_cons (pv 3) (pa_cons (pv 7) (pa_cons (pe_def (d__law_name T) (hr.mono (by decide)) (pa_cons (pv 0) (pa_cons pe_int pa_nil))) pa_nil)))))) pss_nil)
      (pss_one (ps_ret (pe_def (d__law_row_deed T) (hr.mono (by decide)) (pa_cons (pv 0) (pa_cons (pv 1) (pa_cons (pv 3) (pa_cons (pv 7) pa_nil)))))))))))))), ?_⟩
    refine ⟨_, rfl, _, rfl, p, q, .ref l, _, rfl, PL, .inr ⟨l, rfl, .inr ⟨hl, hlp, hlq⟩⟩, by decide, by decide, fun i v H1 hv F1 => ?_⟩
    obtain ⟨x, hx, rfl⟩ := map_get hv
    have hxm := List.mem_of_getElem? hx
    dsimp only
    refine gn_mid (fun σ H2 => Fr p q H H2 ∧ ∃ kd, σ = [some (.ref p), some (.ref m), some (.ref l), some (.str x), some (.str kd), none, none, none]) ?_ (fun hR => ?_)
    · rintro σ H2 ⟨F2, kd, rfl⟩
      have hM2 := hM.fr PL F2
      refine seq_mid (fun σ H3 => Fr p q H H3 ∧ ∃ l2 u, ∃ xs : List Str, σ = [some (.ref p), some (.ref m), some (.ref l), some (.str x), some (.str kd), some (.ref l2), u, none] ∧ H3 l2 = some (.lst (xs.map V.str)) ∧ l2 ≠ p ∧ l2 ≠ q ∧ xs.length ≤ 8 ∧ ∀ y ∈ xs, sg 6 (tl y) = true) ?_ (fun hR2 => ?_)
      · rintro σ H3 ⟨F3, l2, u, xs, rfl, hl2, n1, n2, hxl, hxs⟩
        refine seq_mid (fun σ H4 => Fr p q H H4 ∧ ∃ u1 u2 u3 nm, σ = [some (.ref p), some (.ref m), some (.ref l), some (.str x), u1, u2, u3, some (.str nm)] ∧ sg 6 (tl nm) = true) ?_ (fun hR3 => ?_)
        · rintro σ H4 ⟨F4, u1, u2, u3, nm, rfl, hnm⟩
          have okn : okK .name (.str nm) = true := hnm
          have mk : x = "make" ∨ (x = "end" ∨ x = "fade") ∨ (x = "call" ∨ x = "snap" ∨ x = "clone") ∨ (x = "put" ∨ x = "drop" ∨ x = "rename" ∨ x = "shift" ∨ x = "post" ∨ x = "clear") := by
            have := hxm
            unfold ws12 at this
            simp only [List.mem_cons, List.not_mem_nil, or_false] at this
            rcases this with h | h | h | h | h | h | h | h | h | h | h | h <;> simp [h]
          by_cases hmk : x = "make"
          · subst hmk
            refine ⟨_, rfl, rfl, _, rfl, ite_eqs ?_⟩
            refine ⟨_, rfl, p, q, 2, rfl, F4.pool, by decide, by decide, fun y H5 hy F5 => ?_⟩
            refine ⟨_, rfl, p, q, 2, rfl, F5.pool, by decide, by decide, fun d H6 h0 h1 F6 => ⟨_, _, rfl, rfl, ?_⟩⟩
            refine ⟨_, rfl, (by show 5 ≤ 16777216; decide), fun l3 hl3 => ?_⟩
            have F456 := (F4.trans F5).trans F6
            have F7 := F456.more (same_upd (o := .lst [.int 0, .int 1, .int 13, .int 60, .int 400]) hl3)
            refine ⟨p, q, .ref l3, _, rfl, F7.pool, .inr ⟨l3, rfl, .inr ⟨upd_same, F456.pool.p_ne hl3, F456.pool.q_ne hl3⟩⟩, by decide, by decide, fun i v H8 hv F8 => ⟨(by show 4 ≤ 16777216; decide), fun t ht => ?_⟩⟩
            obtain ⟨g, rfl, hg⟩ : ∃ g, v = .int g ∧ okK .most (.int g) = true := by
              have := List.mem_of_getElem? hv
              simp only [List.mem_cons, List.not_mem_nil, or_false] at this
              rcases this with rfl | rfl | rfl | rfl | rfl
              · exact ⟨0, rfl, rfl⟩
              · exact ⟨1, rfl, rfl⟩
              · exact ⟨13, rfl, rfl⟩
              · exact ⟨60, rfl, rfl⟩
              · exact ⟨400, rfl, rfl⟩
            have oky : okK .name (.str y) = true := sg_mono hy (by decide)
            have okw : okK .width (.int (1 + d)) = true := ok_int (by omega) (by omega)
            exact q1 _ _ (deed_mk ht (.cons (.str y) (.cons (.int _) (.cons (.int g) .nil))) (sd_mk (ks := [.name, .width, .most]) (by decide +kernel) (and_ok oky (and_ok okw (and_ok hg rfl))) (by decide +kernel))) ((F7.trans F8).more (same_upd ht))
          · refine ⟨_, rfl, rfl, _, rfl, ite_ne hmk ?_⟩
            refine ⟨_, rfl, (by show 2 ≤ 16777216; decide), fun l3 hl3 => ⟨l3, _, rfl, .inl (.of upd_same), rfl, rfl, _, rfl, ?_⟩⟩
            have F5 := F4.more (same_upd (o := .lst [.str "end", .str "fade"]) hl3)
            rcases mk with h | h | h | h
            · exact absurd h hmk
            · have hi : (if false = true then !inV (.str x) [.str "end", .str "fade"] else inV (.str x) [.str "end", .str "fade"]) = true := by rcases h with rfl | rfl <;> decide +kernel
              rw [hi]
              refine iteT ⟨_, rfl, _, rfl, (by show 2 ≤ 16777216; decide), fun t ht => ?_⟩
              refine q1 _ _ (deed_mk ht (.cons (.str nm) .nil) (sd_mk (ks := [.name]) ?_ (and_ok okn rfl) ?_)) (F5.more (same_upd ht))
              · rcases h with rfl | rfl <;> decide +kernel
              · rcases h with rfl | rfl <;> decide +kernel
            · have hi : (if false = true then !inV (.str x) [.str "end", .str "fade"] else inV (.str x) [.str "end", .str "fade"]) = false := by rcases h with rfl | rfl | rfl <;> decide +kernel
              rw [hi]
              refine iteF ?_
              refine ⟨_, rfl, (by show 3 ≤ 16777216; decide), fun l4 hl4 => ⟨l4, _, rfl, .inl (.of upd_same), rfl, rfl, _, rfl, ?_⟩⟩
              have F6 := F5.more (same_upd (o := .lst [.str "call", .str "snap", .str "clone"]) hl4)
              have hi2 : (if false = true then !inV (.str x) [.str "call", .str "snap", .str "clone"] else inV (.str x) [.str "call", .str "snap", .str "clone"]) = true := by rcases h with rfl | rfl | rfl <;> decide +kernel
              rw [hi2]
              refine iteT ⟨_, rfl, _, rfl, _, rfl, p, q, 2, rfl, F6.pool, by decide, by decide, fun y H7 hy F7 => ⟨(by show 3 ≤ 16777216; decide), fun t ht => ?_⟩⟩
              have oky : okK .name (.str y) = true := sg_mono hy (by decide)
              refine q1 _ _ (deed_mk ht (.cons (.str nm) (.cons (.str y) .nil)) (sd_mk (ks := [.name, .name]) ?_ (and_ok okn (and_ok oky rfl)) ?_)) ((F6.trans F7).more (same_upd ht))
              · rcases h with rfl | rfl | rfl <;> decide +kernel
              · rcases h with rfl | rfl | rfl <;> decide +kernel
            · have hi : (if false = true then !inV (.str x) [.str "end", .str "fade"] else inV (.str x) [.str "end", .str "fade"]) = false := by rcases h with rfl | rfl | rfl | rfl | rfl | rfl <;> decide +kernel
              rw [hi]
              refine iteF ?_
              refine ⟨_, rfl, (by show 3 ≤ 16777216; decide), fun l4 hl4 => ⟨l4, _, rfl, .inl (.of upd_same), rfl, rfl, _, rfl, ?_⟩⟩
              have F6 := F5.more (same_upd (o := .lst [.str "call", .str "snap", .str "clone"]) hl4)
              have hi2 : (if false = true then !inV (.str x) [.str "call", .str "snap", .str "clone"] else inV (.str x) [.str "call", .str "snap", .str "clone"]) = false := by rcases h with rfl | rfl | rfl | rfl | rfl | rfl <;> decide +kernel
              rw [hi2]
              refine iteF ?_
              exact ⟨_, rfl, _, rfl, _, rfl, _, rfl, p, q, m, n, x, nm, rfl, F6.pool, hM.fr PL F6, hn8, hnm, h, fun v H7 hD F7 => q1 v H7 hD (F6.trans F7)⟩
        · refine ⟨_, rfl, Nat.zero_le _, fun e he => ?_⟩
          have F4 := F3.more (same_upd (o := .lst []) he)
          have hl2e : upd H3 e (.lst []) l2 = some (.lst (xs.map V.str)) := same_upd he _ _ hl2
          refine ⟨.list (xs.map .str), .list [], .lst (.of hl2e) (dp_strs xs), .lst (.of upd_same) .nil, shaped_strs (fun y hy => sg_lt (hxs y hy)), by decide, _, rfl, ?_⟩
          rw [eqv_nil]
          refine ite2 (fun h1 => ?_) (fun h1 => iteF ?_)
          · refine ⟨_, rfl, p, q, 8, rfl, F4.pool, by decide, by decide, fun d H5 h2 h3 F5 => ⟨_, _, rfl, rfl, _, rfl, ?_⟩⟩
            have F45 := F4.trans F5
            refine ite2 (fun h4 => ?_) (fun h4 => ?_)
            · have hne : 1 ≤ xs.length := by
                cases xs with
                | nil => exact absurd h1 (by decide)
                | cons _ _ => simp
              refine ⟨_, rfl, _, rfl, p, q, .ref l2, _, rfl, F45.pool, .inr ⟨l2, rfl, .inr ⟨F5.keep _ _ n1 n2 hl2e, n1, n2⟩⟩, by rw [List.length_map]; omega, by rw [List.length_map]; omega, fun i v H6 hv F6 => ?_⟩
              obtain ⟨y, hy, rfl⟩ := map_get hv
              exact hR3 _ _ ⟨F45.trans F6, _, _, _, y, rfl, hxs y (List.mem_of_getElem? hy)⟩
            · refine ⟨_, rfl, p, q, 2, rfl, F45.pool, by decide, by decide, fun y H6 hy F6 => hR3 _ _ ⟨F45.trans F6, _, _, _, y, rfl, sg_mono hy (by decide)⟩⟩
          · refine ⟨_, rfl, p, q, 2, rfl, F4.pool, by decide, by decide, fun y H6 hy F6 => hR3 _ _ ⟨F4.trans F6, _, _, _, y, rfl, sg_mono hy (by decide)⟩⟩
      · obtain ⟨kvs, hm, hkl, hk⟩ := hM2
        obtain ⟨ks, hks, hsrc⟩ : ∃ ks : List Str, kvs.map (·.1) = ks.map Sum.inr ∧ ∀ z ∈ ks, srcL (tl z) = true := by
          clear hm hkl
          induction kvs with
          | nil => exact ⟨[], rfl, fun _ h => nomatch h⟩
          | cons kv r ih =>
            obtain ⟨ks, e, h⟩ := ih fun kv hkv => hk kv (List.mem_cons_of_mem _ hkv)
            obtain ⟨z, t, r', e', hz, _⟩ := hk kv (List.mem_cons_self ..)
            refine ⟨z :: ks, by rw [List.map_cons, e, e']; rfl, fun y hy => ?_⟩
            rcases List.mem_cons.mp hy with rfl | hy
            · exact hz
            · exact h y hy
        have hkl2 : ks.length = kvs.length := by
          have := congrArg List.length hks
          rw [List.length_map, List.length_map] at this
          exact this.symm
        refine ⟨_, rfl, m, kvs, ks, rfl, .inl hm, hks, by omega, fun ys l1 hp _ hl1 => ⟨l1, rfl, ⟨_, .of upd_same⟩, fun D hD => ?_⟩⟩
        have F3 := F2.more (same_upd (o := .lst (ys.map V.str)) hl1)
        have hyl : ys.length = ks.length := hp.length_eq
        have hys : ∀ y ∈ ys, srcL (tl y) = true := fun y hy => hsrc y (hp.mem_iff.mp hy)
        refine lc_list (K := K) (a := l1) (xs := ys.map V.str) (fun i H' => Same (upd H2 l1 (.lst (ys.map V.str))) H' ∧ ∃ zs : List Str, H' D = some (.lst (zs.map V.str)) ∧ zs.length ≤ i ∧ ∀ z ∈ zs, sg 6 (tl z) = true) ⟨same_upd hD, [], upd_same, Nat.le_refl _, fun _ h => nomatch h⟩ (fun i H' _ ⟨s1, _⟩ => .of (s1 _ _ upd_same)) ?_ ?_
        · rintro i y H4 hy ⟨s1, zs, hA, hzl, hzs⟩
          obtain ⟨z, hz, rfl⟩ := map_get hy
          have hzm := hys z (List.mem_of_getElem? hz)
          have hi : i < ys.length := (List.getElem?_eq_some_iff.mp hz).1
          have hzlen : z.length ≤ 8 := by
            obtain ⟨a, r, e, _, hr⟩ := srcL_cases hzm
            have := (sg_len hr).2
            rw [slen, e]
            simp only [List.length_cons]
            omega
          refine ⟨rfl, ?_⟩
          refine ⟨_, rfl, _, rfl, _, rfl, by show z.length ≤ 16777216; omega, _, rfl, rfl, _, rfl, ?_⟩
          refine ite2 (fun h1 => ?_) (fun h1 => ⟨s1, zs, hA, by omega, hzs⟩)
          refine ⟨_, rfl, _, rfl, _, rfl, by show z.length ≤ 16777216; omega, _, hA, by rw [List.length_map]; show _ < 16777216; omega, same_upd2 s1 hD, zs ++ [SX.S ((tl z).drop 2)], ?_, ?_, ?_⟩
          · rw [upd_same, List.map_append]
            show some (HO.lst (zs.map V.str ++ [V.str (Txt.slice z (some 2) none)])) = _
            have e2 : Txt.slice z (some 2) none = SX.S ((tl z).drop 2) := slice_f z 2
            rw [e2]
            rfl
          · rw [List.length_append]
            show zs.length + 1 ≤ i + 1
            omega
          · intro y' hy'
            rcases List.mem_append.mp hy' with a | a
            · exact hzs y' a
            · rw [List.mem_singleton.mp a]
              exact src_drop hzm
        · rintro H4 ⟨s1, zs, hA, hzl, hzs⟩
          refine hR2 _ _ ⟨F3.more s1, D, _, zs, rfl, hA, F3.pool.p_ne hD, F3.pool.q_ne hD, by rw [List.length_map] at hzl; omega, hzs⟩
    · refine ⟨_, rfl, (by show 2 ≤ 16777216; decide), fun l1 hl1 => ⟨l1, _, rfl, .inl (.of upd_same), rfl, rfl, _, rfl, ?_⟩⟩
      have F2 := F1.more (same_upd (o := .lst [.str "clone", .str "fade"]) hl1)
      exact ite2 (fun h1 => hR _ _ ⟨F2, _, rfl⟩) (fun h1 => hR _ _ ⟨F2, _, rfl⟩)
end
end K75
set_option maxHeartbeats 2000000
/-! k75: the law's own judges -/
namespace K75
open PySem PySem.Spec PyProof.Rows L2 L2H
/-- a comprehension over a text -/
theorem lc_str {x : Str} {g : TG} {tt : TT} {te : TE} {vs : List Nat} {σ : L2.St} {H1 : Hp} {D : Addr} {Qd : Hp → Prop} (Pv : Nat → Hp → Prop) (h0 : Pv 0 (upd H1 D (.lst [])))
    (hs : ∀ i c H, (tl x)[i]? = some c → Pv i H → g (.str ⟨#[c]⟩) (wipe σ vs) H fun σ2 H2 => wipe σ2 vs = wipe σ vs ∧ tt σ2 H2 fun b H3 =>
      if b = true then te σ2 H3 fun y H4 => ∃ acc, H4 D = some (.lst acc) ∧ acc.length < sizeLine ∧ Pv (i + 1) (upd H4 D (.lst (acc ++ [y]))) else Pv (i + 1) H3) (hd : ∀ H, Pv (tl x).length H → Qd H) :
    ∃ W : Nat → Nat → Hp → Prop, (∃ m, W 0 m (upd H1 D (.lst []))) ∧ ∀ i m H, W i m H →
      ((Its x).stop i H ∧ Qd H) ∨ ((Its x).go i H ∧ ∃ Nx : Hp → Prop, (∀ H', Nx H' → ∃ m', m' < m ∧ W (i + 1) m' H') ∧ ∀ v H', (Its x).yld i H v H' → g v (wipe σ vs) H' fun σ2 H2 => wipe σ2 vs = wipe σ vs ∧ tt σ2 H2 fun b H3 =>
        if b = true then te σ2 H3 fun y H4 => ∃ acc, H4 D = some (.lst acc) ∧ acc.length < sizeLine ∧ Nx (upd H4 D (.lst (acc ++ [y]))) else Nx H3) := by
  have hl : (tl x).length = x.cps.size := Array.length_toList
  refine ⟨fun i m H => m + i = x.cps.size ∧ Pv i H, ⟨x.cps.size, rfl, h0⟩, fun i m H ⟨e, q⟩ => ?_⟩
  by_cases hi : i < x.cps.size
  · refine .inr ⟨hi, Pv (i + 1), fun H' q' => ⟨m - 1, by omega, by omega, q'⟩, ?_⟩
    rintro v H' ⟨rfl, c, hc, rfl⟩
    exact hs i c _ (by rw [← hc]; exact Array.getElem?_toList) q
  · have hi' : i = (tl x).length := by omega
    exact .inl ⟨Nat.le_of_not_lt hi, hd H (by rw [← hi']; exact q)⟩
/-- a thing whose signs are few and known -/
def okC : PyData → Prop
  | .str x => x.length ≤ 1000 ∧ ∀ c ∈ tl x, c < 1114112
  | _ => True
theorem okC_T {d : PyData} (h : okC d) : okT d := by cases d <;> first | exact trivial | exact h.1
def hasDot : PyData → Bool
  | .str x => decide ((tl x).take 1 = [46]) && sg 6 ((tl x).drop 1)
  | _ => false
theorem range_alB (c : Nat) : ((!decide ([c] < ([97] : List Nat)) && !decide (([122] : List Nat) < [c])) || (!decide ([c] < ([48] : List Nat)) && !decide (([57] : List Nat) < [c]))) = alB c := by
  have k : ∀ a b : Nat, decide ([a] < [b]) = decide (a < b) := fun a b => by
    by_cases h : a < b
    · rw [decide_eq_true h, decide_eq_true (List.cons_lt_cons_iff.mpr (.inl h))]
    · rw [decide_eq_false h, decide_eq_false fun z => by
        rcases List.cons_lt_cons_iff.mp z with z | ⟨_, z⟩
        · exact h z
        · exact absurd z (List.not_lt_nil _)]
  rw [k, k, k, k]
  unfold alB
  by_cases h1 : c < 97 <;> by_cases h2 : 122 < c <;> by_cases h3 : c < 48 <;> by_cases h4 : 57 < c <;>
    simp [h1, h2, h3, h4, decide_eq_true_eq] <;> omega
section
variable {P : Program} {w : World} {K : PySem.W.Frag} {mg : Str → Option Value} {base : Heap}
abbrev ns__law_tells : List Str := ["told", "due"]
theorem sc61 : FnScope ["told", "due"] ["told", "due"] (defScope (top 61)) := ⟨rfl, rfl, rfl, by decide +kernel, rfl, by decide +kernel, by decide +kernel⟩
def sp__law_tells (K : PySem.W.Frag) : Sp := fun vs H Q _ => ∃ a b : Bool, vs = [.bl a, .bl b] ∧ Q (.bl (a == b)) H
theorem d__law_tells (T : TxtX w K mg) : Def P w K mg base CX0 1 "_law_tells" ["told", "due"] (sp__law_tells K) := by
  obtain ⟨f, fd, F, m, b⟩ := T.a61
  refine ⟨f, fd, m, F.kp, b, F.ok sc61 (fun vs H Q E h => ?_) (fun cdv A outer s H vs Q E hr h => ?_)⟩
  · obtain ⟨a, b, rfl, _⟩ := h; rfl
  · have nd := sc61.nd
    have hu := hr.units
    have hu1 : (A.deeper (envOfC "_law_tells" (defScope (top 61)) s.heap.objs.size f cdv)).units + 1 < cLine := by omega
    obtain ⟨a, b, rfl, q⟩ := h
    refine ⟨_, (pss_one (ps_ret (pe_and (pe_callB call_isi (by rfl) T.b.isinstance (by decide +kernel) (pa_cons (pv 0) (pa_cons (pe_bltn (v := .ty "bool") (by rfl) T.b.bool (by decide +kernel) rfl) pa_nil))) (pe_one (pe_cmpR op_eq (pv 0) (pv 1) (nomark _)))))), ?_⟩
    refine ⟨_, rfl, _, _, _, _, _, rfl, .ty _, .base (.bl a), kitB' (.bool a), _, rfl, iteT ⟨_, rfl, _, rfl, rfl, ?_⟩⟩
    have e : decide (V.bl a = V.bl b) = (a == b) := by cases a <;> cases b <;> rfl
    rw [e]
    exact q
theorem h__law_tells (T : TxtX w K mg) : DefH P w K mg base CX0 1 "_law_tells" ["told", "due"] (sp__law_tells K) := by
  obtain ⟨f, fd, F, m, b⟩ := T.a61
  refine ⟨f, fd, m, F.kp, b, okH F sc61 (fun vs H Q E h => ?_) (fun cdv A outer s H vs Q E p hr hc h => ?_)⟩
  · obtain ⟨a, b, rfl, _⟩ := h; rfl
  · have nd := sc61.nd
    have hu : (A.deeper (envOfC "_law_tells" (defScope (top 61)) s.heap.objs.size f cdv)).units + 64 < cLine := by have := hr.un; omega
    have hu1 : (A.deeper (envOfC "_law_tells" (defScope (top 61)) s.heap.objs.size f cdv)).units + 1 < cLine := by omega
    obtain ⟨a, b, rfl, q⟩ := h
    refine ⟨_, (pss_one (ps_ret (pe_and (pe_callB call_isi (by rfl) T.b.isinstance (by decide +kernel) (pa_cons (pv 0) (pa_cons (pe_bltn (v := .ty "bool") (by rfl) T.b.bool (by decide +kernel) rfl) pa_nil))) (pe_one (pe_cmpR op_eq (pv 0) (pv 1) (nomark _)))))), ?_⟩
    refine ⟨_, rfl, _, _, _, _, _, rfl, .ty _, .base (.bl a), kitB' (.bool a), _, rfl, iteT ⟨_, rfl, _, rfl, rfl, ?_⟩⟩
    have e : decide (V.bl a = V.bl b) = (a == b) := by cases a <;> cases b <;> rfl
    rw [e]
    exact q
abbrev ns__law_has_signs : List Str := ["thing", "most", "sign"]
theorem sc60 : FnScope ["thing", "most", "sign"] ["thing", "most"] (defScope (top 60)) := ⟨rfl, rfl, rfl, by decide +kernel, rfl, by decide +kernel, by decide +kernel⟩
def sp__law_has_signs (K : PySem.W.Frag) : Sp := fun vs H Q _ => ∃ v d, ∃ m : Nat, vs = [v, .int m] ∧ Dp K H v d ∧ okC d ∧ ∀ H', Same H H' → Q (.bl (okS m d)) H'
theorem d__law_has_signs (T : TxtX w K mg) : Def P w K mg base CX0 1 "_law_has_signs" ["thing", "most"] (sp__law_has_signs K) := by
  obtain ⟨f, fd, F, m, b⟩ := T.a60
  refine ⟨f, fd, m, F.kp, b, F.ok sc60 (fun vs H Q E h => ?_) (fun cdv A outer s H vs Q E hr h => ?_)⟩
  · obtain ⟨v, d, m, rfl, _⟩ := h; rfl
  · have nd := sc60.nd
    have hu := hr.units
    have hu1 : (A.deeper (envOfC "_law_has_signs" (defScope (top 60)) s.heap.objs.size f cdv)).units + 1 < cLine := by omega
    obtain ⟨v, d, m, rfl, hv, ok, q⟩ := h
    refine ⟨_, (pss_cons (ps_if (PW.pt (pw_or (pt_not (pt_val (pe_callB call_isi (by rfl) T.b.isinstance (by decide +kernel) (pa_cons (pv 0) (pa_cons (pe_bltn (v := .ty "str") (by rfl) T.b.str (by decide +kernel) rfl) pa_nil))))) (pw_or1 (pt_not (pt_chain op_le op_le pe_int (pe_callB call_len (by rfl) T.b.len (by decide +kernel) (pa_cons (pv 0) pa_nil)) (pv 1)))))) (pss_one (ps_ret pe_bl)) pss_nil)
      (pss_one (ps_ret (pe_cmpR (op_eqD hu) (pe_lc (own := [("sign", 2)]) (g := (gName 2)) (tt := _) rfl nd (pi_str (pv 0)) (blkOk_by (own := [("sign", 2)]) (N := ns__law_has_signs) (sc := defScope (top 60)) (by decide +kernel)) (fun _ _ _ _ _ => (pg_name (i := 2) nd rfl (Or.inl rfl))) (fun _ _ _ _ _ => (pts_one (pt_not (PW.pt (pw_or (pt_chain op_le_str op_le_str pe_str (pv 2) pe_str) (pw_or1 (pt_chain op_le_str op_le_str pe_str (pv 2) pe_str))))))) (fun _ _ _ _ _ => (pv 2))) (pe_lst pa_nil) (nomark _))))), ?_⟩
    refine ⟨_, rfl, _, _, _, _, _, rfl, .ty _, tyX_of hv, kitS d, _, rfl, ?_⟩
    cases hd : isS d with
    | false =>
      refine iteT ?_
      have e : okS m d = false := by cases d <;> first | rfl | exact absurd hd Bool.noConfusion
      have q2 := q H (Same.refl _)
      rw [e] at q2
      exact q2
    | true =>
      refine iteF ?_
      cases hv <;> try (exact absurd hd Bool.noConfusion)
      rename_i x
      have hx : x.length ≤ 1000 := ok.1
      have hlen : x.length = (tl x).length := Array.length_toList.symm
      refine ⟨_, rfl, _, _, rfl, ⟨by show x.length ≤ 16777216; omega, rfl⟩, _, _, rfl, rfl, _, rfl, ?_⟩
      have bad : ¬ (1 ≤ x.length ∧ x.length ≤ m) → okS m (.str x) = false := fun h => by
        show (decide (1 ≤ (tl x).length) && decide ((tl x).length ≤ m) && (tl x).all alB) = false
        cases h3 : (decide (1 ≤ (tl x).length) && decide ((tl x).length ≤ m)) with
        | false => rfl
        | true =>
          rw [Bool.and_eq_true, decide_eq_true_eq, decide_eq_true_eq] at h3
          exact absurd (by omega) h
      have q0 := q H (Same.refl _)
      refine ite2 (fun h1 => ?_) (fun h1 => ?_)
      · rw [decide_eq_true_eq] at h1
        refine ⟨_, rfl, _, _, rfl, rfl, _, rfl, ?_⟩
        refine ite2 (fun h2 => ?_) (fun h2 => ?_)
        · rw [Bool.not_eq_true', decide_eq_false_iff_not] at h2
          rw [bad (by omega)] at q0
          exact q0
        · rw [Bool.not_eq_true', decide_eq_false_iff_not, Decidable.not_not] at h2
          have yes : okS m (.str x) = (tl x).all alB := by
            show (decide (1 ≤ (tl x).length) && decide ((tl x).length ≤ m) && (tl x).all alB) = (tl x).all alB
            rw [decide_eq_true (by omega), decide_eq_true (by omega)]
            rfl
          refine ⟨_, rfl, x, rfl, fun D hD => ?_⟩
          have ea : ("a" : Str).cps.toList = [97] := by decide +kernel
          have ez : ("z" : Str).cps.toList = [122] := by decide +kernel
          have e0 : ("0" : Str).cps.toList = [48] := by decide +kernel
          have e9 : ("9" : Str).cps.toList = [57] := by decide +kernel
          refine lc_str (fun i H' => Same H H' ∧ H' D = some (.lst ((((tl x).take i).filter fun c => !alB c).map fun c => V.str ⟨#[c]⟩))) ⟨same_upd hD, upd_same⟩ ?_ ?_
          · rintro i c H1 hci ⟨s1, hA⟩
            have hi : i < (tl x).length := (List.getElem?_eq_some_iff.mp hci).1
            have hT : alB c = true → Same H H1 ∧ H1 D = some (.lst ((((tl x).take (i + 1)).filter fun c => !alB c).map fun c => V.str ⟨#[c]⟩)) := fun h => ⟨s1, by rw [take_more hci, List.filter_append, hA]; simp [h]⟩
            have hF : alB c = false → Same H (upd H1 D (.lst (((((tl x).take i).filter fun c => !alB c).map fun c => V.str ⟨#[c]⟩) ++ [.str ⟨#[c]⟩]))) ∧ (upd H1 D (.lst (((((tl x).take i).filter fun c => !alB c).map fun c => V.str ⟨#[c]⟩) ++ [.str ⟨#[c]⟩]))) D = some (.lst ((((tl x).take (i + 1)).filter fun c => !alB c).map fun c => V.str ⟨#[c]⟩)) := fun h =>
              ⟨same_upd2 s1 hD, by rw [upd_same, take_more hci, List.filter_append]; simp [h]⟩
            have hsz : ((((tl x).take i).filter fun c => !alB c).map fun c => V.str (⟨#[c]⟩ : Str)).length < 16777216 := by
              rw [List.length_map]
              have h1 := List.length_filter_le (fun c => !alB c) ((tl x).take i)
              rw [List.length_take] at h1
              omega
            have ra := range_alB c
            refine ⟨rfl, ?_⟩
            refine ⟨_, rfl, _, _, rfl, rfl, _, rfl, ?_⟩
            rw [ea]
            have two : ∀ b1 b2 : Bool, (b1 && b2) = false → (!decide ([c] < ([97] : List Nat)) && !decide (([122] : List Nat) < [c])) = (b1 && b2) → alB c = (!decide ([c] < ([48] : List Nat)) && !decide (([57] : List Nat) < [c])) := fun b1 b2 h1 h2 => by
              rw [← ra, h2, h1]
              rfl
            have bF : ∀ b : Bool, ¬ b = true → b = false := fun b h => by cases b <;> simp_all
            have c1 : (!decide ([c] < ([97] : List Nat))) = true → ¬ (!decide (([122] : List Nat) < [c])) = true → alB c = (!decide ([c] < ([48] : List Nat)) && !decide (([57] : List Nat) < [c])) := fun h h' => by
              rw [← ra, h, bF _ h']
              rfl
            have c2 : ¬ (!decide ([c] < ([97] : List Nat))) = true → alB c = (!decide ([c] < ([48] : List Nat)) && !decide (([57] : List Nat) < [c])) := fun h => by
              rw [← ra, bF _ h]
              rfl
            refine ite2 (fun h3 => ⟨_, _, rfl, rfl, _, rfl, ?_⟩) (fun h3 => ⟨_, rfl, iteF ?_⟩)
            · rw [ez]
              refine ite2 (fun h4 => ?_) (fun h4 => ?_)
              · refine iteF (hT ?_)
                have h3' : (!decide ([c] < ([97] : List Nat))) = true := h3
                have h4' : (!decide (([122] : List Nat) < [c])) = true := h4
                rw [← ra, h3', h4']
                rfl
              · have c3 := c1 h3 h4
                refine ⟨_, rfl, _, _, rfl, rfl, _, rfl, ?_⟩
                rw [e0]
                refine ite2 (fun h5 => ⟨_, _, rfl, rfl, _, rfl, ?_⟩) (fun h5 => ⟨_, rfl, iteT ⟨_, rfl, _, hA, hsz, hF (by rw [c3, bF _ h5]; rfl)⟩⟩)
                rw [e9]
                have h5' : (!decide ([c] < ([48] : List Nat))) = true := h5
                cases h6 : (!decide (([57] : List Nat) < [c])) with
                | true =>
                  exact iteF (hT (by rw [c3, h5', h6]; rfl))
                | false =>
                  exact iteT ⟨_, rfl, _, hA, hsz, hF (by rw [c3, h5', h6]; rfl)⟩
            · have c3 := c2 h3
              refine ⟨_, rfl, _, _, rfl, rfl, _, rfl, ?_⟩
              rw [e0]
              refine ite2 (fun h5 => ⟨_, _, rfl, rfl, _, rfl, ?_⟩) (fun h5 => ⟨_, rfl, iteT ⟨_, rfl, _, hA, hsz, hF (by rw [c3, bF _ h5]; rfl)⟩⟩)
              rw [e9]
              have h5' : (!decide ([c] < ([48] : List Nat))) = true := h5
              cases h6 : (!decide (([57] : List Nat) < [c])) with
              | true =>
                exact iteF (hT (by rw [c3, h5', h6]; rfl))
              | false =>
                exact iteT ⟨_, rfl, _, hA, hsz, hF (by rw [c3, h5', h6]; rfl)⟩
          · rintro H1 ⟨s1, hA⟩
            rw [List.take_length] at hA
            refine ⟨Nat.zero_le _, fun e he => ?_⟩
            have s2 := s1.trans (same_upd (o := .lst []) he)
            have hA2 := same_upd (o := .lst []) he _ _ hA
            have hdp : DpAll K (upd H1 e (.lst [])) (((tl x).filter fun c => !alB c).map fun c => V.str ⟨#[c]⟩) ((((tl x).filter fun c => !alB c).map fun c => (⟨#[c]⟩ : Str)).map PyData.str) := by
              have := dp_strs (K := K) (H := upd H1 e (.lst [])) (((tl x).filter fun c => !alB c).map fun c => (⟨#[c]⟩ : Str))
              rw [List.map_map] at this
              exact this
            refine ⟨_, .list [], .lst (.of hA2) hdp, .lst (.of upd_same) .nil, shaped_strs (fun y hy c hc => ?_), by decide, ?_⟩
            · obtain ⟨c', hc', rfl⟩ := List.mem_map.mp hy
              have e1 : c = c' := List.mem_singleton.mp hc
              rw [e1]
              exact ok.2 c' (List.mem_filter.mp hc').1
            · rw [eqv_nil]
              have q2 := q _ s2
              rw [yes] at q2
              have e3 : ((((tl x).filter fun c => !alB c).map fun c => (⟨#[c]⟩ : Str)).map PyData.str).isEmpty = (tl x).all alB := by
                generalize tl x = l
                induction l with
                | nil => rfl
                | cons a r ih =>
                  cases ha : alB a with
                  | true =>
                    rw [List.filter_cons_of_neg (by simp [ha]), List.all_cons, ha]
                    exact ih
                  | false =>
                    rw [List.filter_cons_of_pos (by simp [ha]), List.all_cons, ha]
                    rfl
              rw [e3]
              exact q2
      · rw [decide_eq_true_eq] at h1
        refine ⟨_, rfl, iteT ?_⟩
        rw [bad (by omega)] at q0
        exact q0
abbrev ns__law_has_dot : List Str := ["thing"]
theorem sc63 : FnScope ["thing"] ["thing"] (defScope (top 63)) := ⟨rfl, rfl, rfl, by decide +kernel, rfl, by decide +kernel, by decide +kernel⟩
def sp__law_has_dot (K : PySem.W.Frag) : Sp := fun vs H Q _ => ∃ v d, vs = [v] ∧ Dp K H v d ∧ okC d ∧ ∀ H', Same H H' → Q (.bl (hasDot d)) H'
theorem d__law_has_dot (T : TxtX w K mg) : Def P w K mg base CX0 2 "_law_has_dot" ["thing"] (sp__law_has_dot K) := by
  obtain ⟨f, fd, F, m, b⟩ := T.a63
  refine ⟨f, fd, m, F.kp, b, F.ok sc63 (fun vs H Q E h => ?_) (fun cdv A outer s H vs Q E hr h => ?_)⟩
  · obtain ⟨v, d, rfl, _⟩ := h; rfl
  · have nd := sc63.nd
    have hu := hr.units
    have hu1 : (A.deeper (envOfC "_law_has_dot" (defScope (top 63)) s.heap.objs.size f cdv)).units + 1 < cLine := by omega
    obtain ⟨v, d, rfl, hv, ok, q⟩ := h
    refine ⟨_, (pss_one (ps_ret (pe_and (pe_callB call_isi (by rfl) T.b.isinstance (by decide +kernel) (pa_cons (pv 0) (pa_cons (pe_bltn (v := .ty "str") (by rfl) T.b.str (by decide +kernel) rfl) pa_nil))) (pe_and (pe_cmpR op_eq (pe_slice C8.sl_txt (pv 0) po_none (po_some pe_int)) pe_str (nomark _)) (pe_one (pe_def (d__law_has_signs T) (hr.mono (by decide)) (pa_cons (pe_slice C8.sl_txt (pv 0) (po_some pe_int) po_none) (pa_cons pe_int pa_nil)))))))), ?_⟩
    refine ⟨_, rfl, _, _, _, _, _, rfl, .ty _, tyX_of hv, kitS d, _, rfl, ?_⟩
    have q0 := q H (Same.refl _)
    cases hd : isS d with
    | false =>
      refine iteF ?_
      have e : hasDot d = false := by cases d <;> first | rfl | exact absurd hd Bool.noConfusion
      rw [e] at q0
      exact q0
    | true =>
      refine iteT ?_
      cases hv <;> try (exact absurd hd Bool.noConfusion)
      rename_i x
      have hx : x.length ≤ 1000 := ok.1
      have e1 : Txt.slice x none (some 1) = SX.S ((tl x).take 1) := slice_t x 1
      have e2 : Txt.slice x (some 1) none = SX.S ((tl x).drop 1) := slice_f x 1
      have e46 : ("." : Str) = SX.S [46] := by decide +kernel
      refine ⟨_, rfl, _, rfl, _, rfl, by show x.length ≤ 16777216; omega, rfl, _, rfl, ?_⟩
      rw [str_eq, e1, e46]
      have eS : decide (SX.S ((tl x).take 1) = SX.S [46]) = decide ((tl x).take 1 = [46]) := by
        by_cases z : (tl x).take 1 = [46]
        · rw [z]; simp
        · rw [decide_eq_false z]; exact decide_eq_false fun y => z (SX.S_inj y)
      rw [eS]
      have hdE : hasDot (.str x) = (decide ((tl x).take 1 = [46]) && sg 6 ((tl x).drop 1)) := rfl
      rw [hdE] at q q0
      refine ite2 (fun h1 => ?_) (fun h1 => ?_)
      · refine ⟨_, rfl, _, rfl, _, rfl, by show x.length ≤ 16777216; omega, _, .str (SX.S ((tl x).drop 1)), 6, rfl, ?_, ?_, fun H1 s1 => ?_⟩
        · show Dp K H (V.str (Txt.slice x (some 1) none)) _
          rw [e2]
          exact .str _
        · refine ⟨?_, fun c hc => ok.2 c (List.mem_of_mem_drop hc)⟩
          rw [SX.S_len, List.length_drop, ← slen]
          omega
        · have q2 := q H1 s1
          rw [h1] at q2
          exact q2
      · have e : decide ((tl x).take 1 = [46]) = false := by simpa using h1
        rw [e] at q0
        exact q0
abbrev ns__law_part_text : List Str := ["part", "number"]
theorem sc68 : FnScope ["part", "number"] ["part"] (defScope (top 68)) := ⟨rfl, rfl, rfl, by decide +kernel, rfl, by decide +kernel, by decide +kernel⟩
def sp__law_part_text (K : PySem.W.Frag) : Sp := fun vs H Q _ => ∃ v d, vs = [v] ∧ Dp K H v d ∧ okItem d ∧ ∀ H', Same H H' → Q (.str (SX.S (itx d))) H'
theorem d__law_part_text (T : TxtX w K mg) : Def P w K mg base CX0 1 "_law_part_text" ["part"] (sp__law_part_text K) := by
  obtain ⟨f, fd, F, m, b⟩ := T.a68
  refine ⟨f, fd, m, F.kp, b, F.ok sc68 (fun vs H Q E h => ?_) (fun cdv A outer s H vs Q E hr h => ?_)⟩
  · obtain ⟨v, d, rfl, _⟩ := h; rfl
  · have nd := sc68.nd
    have hu := hr.units
    have hu1 : (A.deeper (envOfC "_law_part_text" (defScope (top 68)) s.heap.objs.size f cdv)).units + 1 < cLine := by omega
    obtain ⟨v, d, rfl, hv, ok, q⟩ := h
    refine ⟨_, (pss_cons (ps_if (pt_cmpR op_isN (pv 0) pe_non (nomark _)) (pss_one (ps_ret pe_str)) pss_nil)
      (pss_cons (ps_if (pt_val (pe_callB call_isi (by rfl) T.b.isinstance (by decide +kernel) (pa_cons (pv 0) (pa_cons (pe_bltn (v := .ty "tuple") (by rfl) T.b.tuple (by decide +kernel) rfl) pa_nil)))) (pss_one (ps_ret (pe_join pe_str (pe_lc (own := [("number", 1)]) (g := (gName 1)) (tt := tYes) rfl nd (pi_tup (pv 0)) (blkOk_by (own := [("number", 1)]) (N := ns__law_part_text) (sc := defScope (top 68)) (by decide +kernel)) (fun _ _ _ _ _ => (pg_name (i := 1) nd rfl (Or.inl rfl))) (fun _ _ _ _ _ => pts_nil) (fun _ _ _ _ _ => (pe_callTy call_str_int (by rfl) T.b.str (by decide +kernel) (pa_cons (pv 1) pa_nil))))))) pss_nil)
      (pss_one (ps_ret (pe_ifExp (pt_val (pe_callB call_isi (by rfl) T.b.isinstance (by decide +kernel) (pa_cons (pv 0) (pa_cons (pe_bltn (v := .ty "str") (by rfl) T.b.str (by decide +kernel) rfl) pa_nil)))) (pv 0) (pe_callTy (CallR.or call_str_int SkE.call_str_str) (by rfl) T.b.str (by decide +kernel) (pa_cons (pv 0) pa_nil))))))), ?_⟩
    refine ⟨_, rfl, rfl, _, rfl, ?_⟩
    cases hv with
    | non =>
      have e : ("-" : Str) = SX.S [45] := by decide +kernel
      refine iteT ?_
      have q2 := q H (Same.refl _)
      show Q (.str "-") H
      rw [e]
      exact q2
    | bl b => exact ok.elim
    | lst a b => exact ok.elim
    | int i =>
      refine iteF ⟨_, rfl, _, _, _, _, _, rfl, .ty _, .base (.int i), kitT (.int i), _, rfl, iteF ⟨_, rfl, _, _, _, _, _, rfl, .ty _, .base (.int i), kitS (.int i), _, rfl, iteF ⟨_, rfl, .inl ⟨i, rfl, log_small ok, ?_⟩⟩⟩⟩
      have q2 := q H (Same.refl _)
      show Q (.str (Str.ofString (toString i))) H
      rw [str_int]
      exact q2
    | str x =>
      refine iteF ⟨_, rfl, _, _, _, _, _, rfl, .ty _, .base (.str x), kitT (.str x), _, rfl, iteF ⟨_, rfl, _, _, _, _, _, rfl, .ty _, .base (.str x), kitS (.str x), _, rfl, iteT ⟨_, rfl, ?_⟩⟩⟩
      have q2 := q H (Same.refl _)
      have e : SX.S (itx (.str x)) = x := SX.S_tl x
      rw [e] at q2
      exact q2
    | @tup a xs ds hs ha =>
      obtain ⟨ns, rfl, hl, hn⟩ := ok
      rw [ints_of ha] at hs
      refine iteF ⟨_, rfl, _, _, _, _, _, rfl, .ty _, tyX_of (.tup hs (dp_ints ns)), kitT (.tuple (ns.map .int)), _, rfl, iteT ?_⟩
      refine ⟨⟨_, rfl⟩, _, rfl, a, rfl, ⟨_, hs⟩, fun D hD => ?_⟩
      refine lc_tup (K := K) (a := a) (xs := ns.map V.int) (fun i H' => Same H H' ∧ H' D = some (.lst ((ns.take i).map fun n => V.str (SX.S (intL n))))) ⟨same_upd hD, upd_same⟩ (fun i H' _ ⟨s1, _⟩ => Same.sqT s1 hs) ?_ ?_
      · rintro i y H1 hy ⟨s1, hA⟩
        obtain ⟨n, hni, rfl⟩ := map_get hy
        have hm := List.mem_of_getElem? hni
        refine ⟨rfl, ?_⟩
        refine ⟨_, rfl, n, rfl, log_small (hn n hm), _, hA, ?_, same_upd2 s1 hD, ?_⟩
        · rw [List.length_map, List.length_take]
          show _ < 16777216
          omega
        · rw [upd_same, take_more hni, List.map_append, str_int]
          rfl
      · rintro H1 ⟨s1, hA⟩
        rw [List.length_map, List.take_length] at hA
        have e44 : ("," : Str) = SX.S [44] := by decide +kernel
        refine ⟨",", D, ns.map fun n => SX.S (intL n), rfl, rfl, .inl (.of (by rw [hA, List.map_map]; rfl)), ?_, ?_⟩
        · have := sum_le (ns.map fun n => SX.S (intL n)) 21 (by
            intro y hy
            obtain ⟨n, hm, rfl⟩ := List.mem_map.mp hy
            rw [SX.S_len]
            exact intL_len (hn n hm))
          rw [List.length_map] at this ⊢
          have e : (("," : Str)).length = 1 := by decide +kernel
          rw [e]
          omega
        · have e : Txt.join "," (ns.map fun n => SX.S (intL n)) = SX.S (TL.joinL [44] (ns.map intL)) := by
            rw [e44]
            have := join_S' 44 (ns.map intL)
            rw [List.map_map] at this
            exact this
          show Q (.str (Txt.join "," (ns.map fun n => SX.S (intL n)))) H1
          rw [e]
          have q2 := q H1 s1
          rw [itx_nums] at q2
          exact q2
end
end K75
set_option maxHeartbeats 2000000
/-! k75: kinds of parts, parts of a bad form -/
namespace K75
open PySem PySem.Spec PyProof.Rows L2 L2H
/-- the letter of a kind -/
def kl : Kd → Str
  | .name => "n" | .row => "r" | .width => "w" | .most => "m" | .nums => "v" | .place => "p" | .step => "b" | .src => "s" | .sgn => "g" | .bound => "e"
def kA : List (Key × V) := [(.inr "make", .str "n w m"), (.inr "end", .str "n"), (.inr "call", .str "n n"), (.inr "snap", .str "n n"), (.inr "clone", .str "n n"), (.inr "fade", .str "n"), (.inr "put", .str "n r v")]
def kB : List (Key × V) := [(.inr "drop", .str "n r"), (.inr "rename", .str "n r r"), (.inr "shift", .str "n r p b"), (.inr "post", .str "n r p s r p g"), (.inr "clear", .str "n e e")]
def kT : List (Key × V) := mergeK (mergeK [] kA) (mergeK [] kB)
def ktx (x : Str) : Str := match valV kT (Sum.inr x) with
  | some (.str z) => z
  | _ => ""
theorem kinds_ok : ∀ p ∈ words12, valV kT (Sum.inr p.1) = some (.str (ktx p.1)) ∧ (ktx p.1).length ≤ 100 ∧ Txt.split (ktx p.1) " " = p.2.map kl := by
  have h : words12.all (fun p => decide (valV kT (Sum.inr p.1) = some (.str (ktx p.1))) && decide ((ktx p.1).length ≤ 100) && decide (Txt.split (ktx p.1) " " = p.2.map kl)) = true := by decide +kernel
  intro p hp
  have := List.all_eq_true.mp h p hp
  rw [Bool.and_eq_true, Bool.and_eq_true, decide_eq_true_eq, decide_eq_true_eq, decide_eq_true_eq] at this
  exact ⟨this.1.1, this.1.2, this.2⟩
def badOk (k : Kd) (d : PyData) : Bool := !okK k d && noL d && (match d with | .str x => decide (x.length ≤ 1000) | _ => true)
theorem badOk_all {k : Kd} {ds : List PyData} (h : ds.all (badOk k) = true) : ∀ d ∈ ds, okK k d = false ∧ okT d ∧ noL d = true := by
  intro d hd
  have := List.all_eq_true.mp h d hd
  unfold badOk at this
  rw [Bool.and_eq_true, Bool.and_eq_true, Bool.not_eq_true'] at this
  refine ⟨this.1.1, ?_, this.1.2⟩
  cases d with
  | str x =>
    have h2 : decide (x.length ≤ 1000) = true := this.2
    exact (decide_eq_true_eq.mp h2 : x.length ≤ 1000)
  | _ => exact trivial
/-- the tuple at a holds parts that are not of the kind k -/
def GoodT (K : PySem.W.Frag) (H : Hp) (k : Kd) (a : Addr) : Prop := ∃ xs ds, H a = some (.tup xs) ∧ DpAll K H xs ds ∧ 1 ≤ ds.length ∧ ds.length ≤ 20 ∧ ds.all (badOk k) = true
theorem noLs_bad {k : Kd} {ds : List PyData} (h : ds.all (badOk k) = true) : noL.noLs ds = true := noLs_items ds fun d hd => (badOk_all h d hd).2.2
theorem GoodT.same {K : PySem.W.Frag} {H H' : Hp} {k : Kd} {a : Addr} (s : Same H H') (h : GoodT K H k a) : GoodT K H' k a := by
  obtain ⟨xs, ds, h1, h2, h3⟩ := h
  exact ⟨xs, ds, s _ _ h1, dpAll_same s h2, h3⟩
theorem GoodT.put {K : PySem.W.Frag} {H : Hp} {k : Kd} {a b : Addr} {kvs kvs' : List (Key × V)} (hb : H b = some (.dK kvs)) (h : GoodT K H k a) : GoodT K (upd H b (.dK kvs')) k a := by
  obtain ⟨xs, ds, h1, h2, h3, h4, h5⟩ := h
  have e1 : ∀ c ys, H c = some (.tup ys) → upd H b (.dK kvs') c = some (.tup ys) := fun c ys e => by rw [upd_ne (by rintro rfl; rw [hb] at e; cases e)]; exact e
  exact ⟨xs, ds, e1 _ _ h1, dpAll_tups e1 (fun c o u e => by rw [upd_ne (by rintro rfl; rw [hb] at e; cases e)]; exact e) (noLs_bad h5) h2, h3, h4, h5⟩
def AllG (K : PySem.W.Frag) (H : Hp) (kvs : List (Key × V)) : Prop := ∀ kv ∈ kvs, ∃ k a, kv = (Sum.inr (kl k), V.ref a) ∧ GoodT K H k a
theorem AllG.merge {K : PySem.W.Frag} {H : Hp} : ∀ {more kvs : List (Key × V)}, AllG K H kvs → AllG K H more → AllG K H (mergeK kvs more)
  | [], kvs, h, _ => h
  | kv :: r, kvs, h, h2 => by
    show AllG K H (mergeK (putK kvs kv.1 kv.2) r)
    refine AllG.merge (fun x hx => ?_) fun x hx => h2 x (List.mem_cons_of_mem _ hx)
    rcases mem_put hx with e | e
    · rw [e]
      exact h2 kv (List.mem_cons_self ..)
    · exact h x e
theorem has_merge {j : Key} : ∀ {more kvs : List (Key × V)}, (valV kvs j).isSome = true ∨ j ∈ more.map (·.1) → (valV (mergeK kvs more) j).isSome = true
  | [], kvs, h => by
    rcases h with h | h
    · exact h
    · cases h
  | kv :: r, kvs, h => by
    show (valV (mergeK (putK kvs kv.1 kv.2) r) j).isSome = true
    refine has_merge ?_
    rw [valV_put]
    by_cases e : j = kv.1
    · rw [if_pos e]
      exact .inl rfl
    · rw [if_neg e]
      rcases h with h | h
      · exact .inl h
      · rcases List.mem_cons.mp h with h | h
        · exact absurd h e
        · exact .inr h
theorem kl_inj : ∀ {a b : Kd}, kl a = kl b → a = b := by
  intro a b
  cases a <;> cases b <;> first | exact fun _ => rfl | (intro h; exact absurd h (by decide +kernel))
/-- the dict of bad parts, at b -/
def BadD (K : PySem.W.Frag) (H : Hp) (b : Addr) (ks : List Kd) : Prop := ∃ kvs, H b = some (.dK kvs) ∧ kvs.length ≤ ks.length ∧ AllG K H kvs ∧ ∀ k ∈ ks, (valV kvs (Sum.inr (kl k))).isSome = true
theorem BadD.same {K : PySem.W.Frag} {H H' : Hp} {b : Addr} {ks : List Kd} (s : Same H H') (h : BadD K H b ks) : BadD K H' b ks := by
  obtain ⟨kvs, h1, h2, h3, h4⟩ := h
  exact ⟨kvs, s _ _ h1, h2, fun kv hkv => let ⟨k, a, e, g⟩ := h3 kv hkv; ⟨k, a, e, g.same s⟩, h4⟩
theorem BadD.add {K : PySem.W.Frag} {H : Hp} {b : Addr} {ks ks2 : List Kd} {kvs B : List (Key × V)} (hb : H b = some (.dK kvs)) (hl : kvs.length ≤ ks.length) (hg : AllG K H kvs) (hk : ∀ k ∈ ks, (valV kvs (Sum.inr (kl k))).isSome = true)
    (hB : AllG K H B) (hk2 : B.map (·.1) = ks2.map fun k => Sum.inr (kl k)) : BadD K (upd H b (.dK (mergeK kvs (mergeK [] B)))) b (ks ++ ks2) := by
  have hBm : AllG K H (mergeK [] B) := AllG.merge (fun _ h => nomatch h) hB
  have hm := AllG.merge hg hBm
  have hbl : B.length = ks2.length := by
    have := congrArg List.length hk2
    rw [List.length_map, List.length_map] at this
    exact this
  refine ⟨_, upd_same, ?_, fun kv hkv => let ⟨k, a, e, g⟩ := hm kv hkv; ⟨k, a, e, g.put hb⟩, fun k hk' => ?_⟩
  · have h1 := length_mergeK (mergeK [] B) kvs
    have h2 := length_mergeK B []
    rw [List.length_nil] at h2
    rw [List.length_append]
    omega
  · refine has_merge ?_
    rcases List.mem_append.mp hk' with h | h
    · exact .inl (hk k h)
    · right
      have : (valV (mergeK [] B) (Sum.inr (kl k))).isSome = true := has_merge (.inr (by rw [hk2]; exact List.mem_map.mpr ⟨k, h, rfl⟩))
      obtain ⟨v, hv⟩ := Option.isSome_iff_exists.mp this
      exact valV_in hv
theorem bad_new {K : PySem.W.Frag} {p q b : Addr} {H H2 : Hp} {ks2 : List Kd} {B : List (Key × V)} (PL : Pool H p q) (hb : H b = none) (s : Same (upd H b (.dK [])) H2) (hB : AllG K H2 B) (hk2 : B.map (·.1) = ks2.map fun k => Sum.inr (kl k)) :
    Fr p q H (upd H2 b (.dK (mergeK [] B))) ∧ BadD K (upd H2 b (.dK (mergeK [] B))) b ks2 := by
  have s0 : Same H H2 := (same_upd hb).trans s
  have hb2 : H2 b = some (.dK []) := s _ _ upd_same
  have hbl : B.length = ks2.length := by
    have := congrArg List.length hk2
    rw [List.length_map, List.length_map] at this
    exact this
  have hBm : AllG K H2 (mergeK [] B) := AllG.merge (fun _ h => nomatch h) hB
  refine ⟨Fr.new PL (.of_same PL s0) hb, _, upd_same, ?_, fun kv hkv => let ⟨k, a, e, g⟩ := hBm kv hkv; ⟨k, a, e, g.put hb2⟩, fun k hk => has_merge (.inr (by rw [hk2]; exact List.mem_map.mpr ⟨k, hk, rfl⟩))⟩
  have h2 := length_mergeK B []
  rw [List.length_nil] at h2
  omega
theorem bad_step {K : PySem.W.Frag} {p q b o : Addr} {H H1 H2 : Hp} {ks ks2 : List Kd} {B : List (Key × V)} (PL : Pool H p q) (hb : H b = none) (F : Fr p q H H1) (hD : BadD K H1 b ks) (ho : H1 o = none) (s : Same (upd H1 o (.dK [])) H2) (hB : AllG K H2 B) (hk2 : B.map (·.1) = ks2.map fun k => Sum.inr (kl k))
    (h10 : ks.length + ks2.length ≤ 100) :
    ∃ kvs, b ≠ o ∧ (upd H2 o (.dK (mergeK [] B))) b = some (.dK kvs) ∧ kvs.length + (mergeK [] B).length ≤ 1000 ∧ Fr p q H (upd (upd H2 o (.dK (mergeK [] B))) b (.dK (mergeK kvs (mergeK [] B)))) ∧ BadD K (upd (upd H2 o (.dK (mergeK [] B))) b (.dK (mergeK kvs (mergeK [] B)))) b (ks ++ ks2) := by
  obtain ⟨kvs, h1, h2, h3, h4⟩ := hD
  have hbo : b ≠ o := by rintro rfl; rw [h1] at ho; cases ho
  have s1 : Same H1 H2 := (same_upd ho).trans s
  have ho2 : H2 o = some (.dK []) := s _ _ upd_same
  have hb2 : upd H2 o (.dK (mergeK [] B)) b = some (.dK kvs) := by rw [upd_ne hbo]; exact s1 _ _ h1
  have hbl : B.length = ks2.length := by
    have := congrArg List.length hk2
    rw [List.length_map, List.length_map] at this
    exact this
  have hl2 := length_mergeK B []
  rw [List.length_nil] at hl2
  have g1 : AllG K (upd H2 o (.dK (mergeK [] B))) kvs := fun kv hkv => let ⟨k, a, e, g⟩ := h3 kv hkv; ⟨k, a, e, (g.same s1).put ho2⟩
  have g2 : AllG K (upd H2 o (.dK (mergeK [] B))) B := fun kv hkv => let ⟨k, a, e, g⟩ := hB kv hkv; ⟨k, a, e, g.put ho2⟩
  refine ⟨kvs, hbo, hb2, by omega, ?_, BadD.add hb2 h2 g1 h4 g2 hk2⟩
  have F2 : Fr p q H (upd H2 o (.dK (mergeK [] B))) := Fr.new PL (F.more s1) (F.free ho)
  exact Fr.new PL F2 hb
section
variable {P : Program} {w : World} {K : PySem.W.Frag} {mg : Str → Option Value} {base : Heap}
abbrev ns__law_kinds : List Str := ["word", "kinds"]
theorem sc64 : FnScope ["word", "kinds"] ["word"] (defScope (top 64)) := ⟨rfl, rfl, rfl, by decide +kernel, rfl, by decide +kernel, by decide +kernel⟩
def sp__law_kinds (K : PySem.W.Frag) : Sp := fun vs H Q _ => ∃ x ks, vs = [.str x] ∧ kds x = some ks ∧ ∀ p H', H p = none → Same H H' → H' p = some (.lst ((ks.map kl).map V.str)) → Q (.ref p) H'
theorem d__law_kinds (T : TxtX w K mg) : Def P w K mg base CX0 1 "_law_kinds" ["word"] (sp__law_kinds K) := by
  obtain ⟨f, fd, F, m, b⟩ := T.a64
  refine ⟨f, fd, m, F.kp, b, F.ok sc64 (fun vs H Q E h => ?_) (fun cdv A outer s H vs Q E hr h => ?_)⟩
  · obtain ⟨x, ks, rfl, _⟩ := h; rfl
  · have nd := sc64.nd
    have hu := hr.units
    have hu1 : (A.deeper (envOfC "_law_kinds" (defScope (top 64)) s.heap.objs.size f cdv)).units + 1 < cLine := by omega
    obtain ⟨x, ks, rfl, hk, q⟩ := h
    refine ⟨_, (pss_cons (ps_set (i := 1) nd rfl (Or.inl rfl) (pe_disp (pps_cons pe_str pe_str (pps_cons pe_str pe_str (pps_cons pe_str pe_str (pps_cons pe_str pe_str (pps_cons pe_str pe_str (pps_cons pe_str pe_str (pps_cons pe_str pe_str pps_nil))))))) (by rfl) (by rfl) (fun z => by cases z) (by decide)))
      (pss_cons (ps_expr (pe_bm PySem.F.plainAttrs_dict PySem.F.slot_dict_update PySem.F.type_dict_update mt_update (pv 1) (pa_cons (pe_disp (pps_cons pe_str pe_str (pps_cons pe_str pe_str (pps_cons pe_str pe_str (pps_cons pe_str pe_str (pps_cons pe_str pe_str pps_nil))))) (by rfl) (by rfl) (fun z => by cases z) (by decide)) pa_nil)))
      (pss_one (ps_ret (pe_split (pe_dget hu1 (pv 1) (pv 0) (fun _ _ => rfl)) pe_str))))), ?_⟩
    refine fun p hp => ⟨upd_same, kA, rfl, by decide, ?_⟩
    obtain ⟨t1, t2, t3⟩ := kinds_ok _ (kds_mem hk)
    dsimp only at t1 t2 t3
    have s1 : Same H (upd (upd H p (.dK [])) p (.dK (mergeK [] kA))) := same_upd2 (same_upd hp) hp
    refine ⟨_, rfl, .inr (.inr (.inl ⟨rfl, .inl ⟨_, upd_same⟩⟩)), fun p2 hp2 => ⟨upd_same, kB, rfl, by decide, ?_⟩⟩
    have hp2' := s1.free hp2
    have ne : p ≠ p2 := by rintro rfl; rw [upd_same] at hp2; cases hp2
    have s2 := same_upd2 (o := .dK kT) (same_upd2 (o := .dK (mergeK [] kB)) (same_upd2 (o := .dK []) s1 hp2') hp2') hp
    refine ⟨p, p2, mergeK [] kA, mergeK [] kB, rfl, rfl, ne, by rw [upd_ne ne, upd_ne ne, upd_same], upd_same, by decide, ?_⟩
    refine ⟨_, rfl, _, rfl, p, .str (ktx x), rfl, ?_, ⟨_, rfl⟩, ktx x, " ", rfl, rfl, by decide +kernel, by show (ktx x).length + 2 ≤ 16777216; omega, fun l hl => ?_⟩
    · have dg := DGet.k (k := Sum.inr x) (a := p) (kvs := kT) (H := upd (upd (upd (upd (upd H p (.dK [])) p (.dK (mergeK [] kA))) p2 (.dK [])) p2 (.dK (mergeK [] kB))) p (.dK kT)) upd_same
      rw [t1] at dg
      exact dg
    · refine q l _ (s2.free hl) (s2.trans (same_upd hl)) ?_
      rw [t3]
      exact upd_same
abbrev ns__law_bad : List Str := ["pool", "kind", "bad"]
theorem sc65 : FnScope ["pool", "kind", "bad"] ["pool", "kind"] (defScope (top 65)) := ⟨rfl, rfl, rfl, by decide +kernel, rfl, by decide +kernel, by decide +kernel⟩
def sp__law_bad (K : PySem.W.Frag) : Sp := fun vs H Q _ => ∃ p q k, vs = [.ref p, .str (kl k)] ∧ Pool H p q ∧ ∀ v d H', okK k d = false → okT d → noL d = true → Dp K H' v d → Fr p q H H' → Q v H'
theorem d__law_bad (T : TxtX w K mg) : Def P w K mg base CX0 3 "_law_bad" ["pool", "kind"] (sp__law_bad K) := by
  obtain ⟨f, fd, F, m, b⟩ := T.a65
  refine ⟨f, fd, m, F.kp, b, F.ok sc65 (fun vs H Q E h => ?_) (fun cdv A outer s H vs Q E hr h => ?_)⟩
  · obtain ⟨p, q, k, rfl, _⟩ := h; rfl
  · have nd := sc65.nd
    have hu := hr.units
    have hu1 : (A.deeper (envOfC "_law_bad" (defScope (top 65)) s.heap.objs.size f cdv)).units + 1 < cLine := by omega
    obtain ⟨p, q, k, rfl, PL, q1⟩ := h
    refine ⟨_, (pss_cons (ps_set (i := 2) nd rfl (Or.inl rfl) (pe_disp (pps_cons pe_str (pe_tup (pa_cons pe_str (pa_cons pe_str (pa_cons pe_str (pa_cons pe_str (pa_cons pe_int (pa_cons pe_non pa_nil))))))) (pps_cons pe_str (pe_tup (pa_cons pe_str (pa_cons pe_str (pa_cons pe_str (pa_cons pe_str (pa_cons pe_non (pa_cons pe_int pa_nil))))))) pps_nil)) (by rfl) (by rfl) (fun z => by cases z) (by decide)))
      (pss_cons (ps_expr (pe_bm PySem.F.plainAttrs_dict PySem.F.slot_dict_update PySem.F.type_dict_update mt_update (pv 2) (pa_cons (pe_disp (pps_cons pe_str (pe_tup (pa_cons pe_int (pa_cons pe_int (pa_cons pe_bl (pa_cons pe_non (pa_cons pe_str pa_nil)))))) (pps_cons pe_str (pe_tup (pa_cons (pe_un un_neg pe_int) (pa_cons pe_int (pa_cons pe_bl (pa_cons pe_non pa_nil))))) (pps_cons pe_str (pe_tup (pa_cons (pe_un un_neg pe_int) (pa_cons pe_int (pa_cons pe_bl (pa_cons pe_non pa_nil))))) pps_nil))) (by rfl) (by rfl) (fun z => by cases z) (by decide)) pa_nil)))
      (pss_cons (ps_expr (pe_bm PySem.F.plainAttrs_dict PySem.F.slot_dict_update PySem.F.type_dict_update mt_update (pv 2) (pa_cons (pe_disp (pps_cons pe_str (pe_tup (pa_cons (pe_tup pa_nil) (pa_cons (pe_tup (pa_cons pe_int (pa_cons pe_int (pa_cons pe_int pa_nil)))) (pa_cons (pe_tup (pa_cons (pe_op op_add (pe_op op_pow pe_int pe_int) pe_int) pa_nil)) (pa_cons (pe_tup (pa_cons pe_int (pa_cons (pe_op op_sub (pe_un un_neg (pe_op op_pow pe_int pe_int)) pe_int) pa_nil))) (pa_cons (pe_tup (pa_cons pe_bl pa_nil)) (pa_cons (pe_tup (pa_cons pe_non pa_nil)) (pa_cons pe_int (pa_cons pe_non pa_nil))))))))) pps_nil) (by rfl) (by rfl) (fun z => by cases z) (by decide)) pa_nil)))
      (pss_cons (ps_expr (pe_bm PySem.F.plainAttrs_dict PySem.F.slot_dict_update PySem.F.type_dict_update mt_update (pv 2) (pa_cons (pe_disp (pps_cons pe_str (pe_tup (pa_cons (pe_op op_add (pe_op op_mul pe_int (pe_op op_pow pe_int pe_int)) pe_int) (pa_cons (pe_op op_sub (pe_op op_mul (pe_un un_neg pe_int) (pe_op op_pow pe_int pe_int)) pe_int) (pa_cons pe_non (pa_cons pe_bl pa_nil))))) (pps_cons pe_str (pe_tup (pa_cons pe_int (pa_cons pe_int (pa_cons (pe_un un_neg pe_int) (pa_cons pe_bl (pa_cons pe_non pa_nil)))))) pps_nil)) (by rfl) (by rfl) (fun z => by cases z) (by decide)) pa_nil)))
      (pss_cons (ps_expr (pe_bm PySem.F.plainAttrs_dict PySem.F.slot_dict_update PySem.F.type_dict_update mt_update (pv 2) (pa_cons (pe_disp (pps_cons pe_str (pe_tup (pa_cons pe_str (pa_cons pe_str (pa_cons pe_str (pa_cons pe_str (pa_cons pe_str (pa_cons pe_non pa_nil))))))) (pps_cons pe_str (pe_tup (pa_cons pe_str (pa_cons pe_str (pa_cons pe_int (pa_cons pe_str (pa_cons pe_bl pa_nil)))))) pps_nil)) (by rfl) (by rfl) (fun z => by cases z) (by decide)) pa_nil)))
      (pss_one (ps_ret (pe_def (d__law_pick T) (hr.mono (by decide)) (pa_cons (pv 0) (pa_cons (pe_dget hu1 (pv 2) (pv 1) (fun _ _ => rfl)) pa_nil)))))))))), ?_⟩
    refine seq_mid (fun σ H1 => ∃ b, σ = [some (.ref p), some (.str (kl k)), some (.ref b)] ∧ H b = none ∧ Fr p q H H1 ∧ BadD K H1 b [.name, .row]) ?_ (fun hR => ?_)
    · rintro σ H1 ⟨b, rfl, hb, F, hD⟩
      refine seq_mid (fun σ H1 => ∃ b, σ = [some (.ref p), some (.str (kl k)), some (.ref b)] ∧ H b = none ∧ Fr p q H H1 ∧ BadD K H1 b [.name, .row, .width, .most, .place]) ?_ (fun hR => ?_)
      · rintro σ H1 ⟨b, rfl, hb, F, hD⟩
        refine seq_mid (fun σ H1 => ∃ b, σ = [some (.ref p), some (.str (kl k)), some (.ref b)] ∧ H b = none ∧ Fr p q H H1 ∧ BadD K H1 b [.name, .row, .width, .most, .place, .nums]) ?_ (fun hR => ?_)
        · rintro σ H1 ⟨b, rfl, hb, F, hD⟩
          refine seq_mid (fun σ H1 => ∃ b, σ = [some (.ref p), some (.str (kl k)), some (.ref b)] ∧ H b = none ∧ Fr p q H H1 ∧ BadD K H1 b [.name, .row, .width, .most, .place, .nums, .step, .sgn]) ?_ (fun hR => ?_)
          · rintro σ H1 ⟨b, rfl, hb, F, hD⟩
            refine seq_mid (fun σ H1 => ∃ b, σ = [some (.ref p), some (.str (kl k)), some (.ref b)] ∧ H b = none ∧ Fr p q H H1 ∧ BadD K H1 b [.name, .row, .width, .most, .place, .nums, .step, .sgn, .src, .bound]) ?_ (fun hR => ?_)
            · rintro σ H1 ⟨b, rfl, hb, F, hD⟩
              obtain ⟨kvs, h1, h2, h3, h4⟩ := hD
              have hk : k ∈ [Kd.name, .row, .width, .most, .place, .nums, .step, .sgn, .src, .bound] := by cases k <;> simp
              obtain ⟨v, hv⟩ := Option.isSome_iff_exists.mp (h4 k hk)
              have hmem : (Sum.inr (kl k), v) ∈ kvs := by
                unfold valV at hv
                obtain ⟨kv, e1, e2⟩ := Option.map_eq_some_iff.mp hv
                have a := List.find?_some e1
                have b := List.mem_of_find?_eq_some e1
                have c : kv.1 = Sum.inr (kl k) := of_decide_eq_true a
                rw [← c, ← e2]
                exact b
              obtain ⟨k', a, e, g⟩ := h3 _ hmem
              obtain ⟨e1, e2⟩ := Prod.mk.inj e
              have ek : k = k' := kl_inj (Sum.inr.inj e1)
              subst ek
              subst e2
              obtain ⟨xs, ds, g1, g2, g3, g4, g5⟩ := g
              have dg : DGet H1 b (.str (kl k)) (some (.ref a)) := by
                have := DGet.k (k := Sum.inr (kl k)) h1
                rw [hv] at this
                exact this
              have hxl := dpAll_len g2
              refine ⟨_, rfl, _, rfl, _, rfl, b, .ref a, rfl, dg, p, q, .ref a, xs, rfl, F.pool, .inr ⟨a, rfl, .inl (.inl (.inl g1))⟩, by omega, by omega, fun i v H2 hv2 F2 => ?_⟩
              have hi : i < ds.length := by rw [← hxl]; exact (List.getElem?_eq_some_iff.mp hv2).1
              obtain ⟨d, hd⟩ : ∃ d, ds[i]? = some d := ⟨_, List.getElem?_eq_getElem hi⟩
              obtain ⟨v', hv', hvd⟩ := dpAll_get g2 hd
              rw [hv2] at hv'
              cases hv'
              obtain ⟨b1, b2, b3⟩ := badOk_all g5 d (List.mem_of_getElem? hd)
              exact q1 v d H2 b1 b2 b3 (F2.dp F.pool b3 hvd) (F.trans F2)
            · refine ⟨_, rfl, .inr (.inr (.inl ⟨rfl, .inl (let ⟨kvs, h, _⟩ := hD; ⟨kvs, h⟩)⟩)), fun o ho => ⟨(by show 6 ≤ 16777216; decide), fun t_src h_src => ⟨(by show 5 ≤ 16777216; decide), fun t_bound h_bound => ?_⟩⟩⟩
              have ss := (same_upd (o := .tup [.str "a", .str "t.", .str "t.abcdefg", .str "u.a", .str "t.A", .non]) h_src).trans (same_upd (o := .tup [.str "", .str "a.b", .int 5, .str "aaaaaaaaaaaaa", .bl true]) h_bound)
              have Gsrc := GoodT.same (same_upd (o := .tup [.str "", .str "a.b", .int 5, .str "aaaaaaaaaaaaa", .bl true]) h_bound) ((⟨_, [.str "a", .str "t.", .str "t.abcdefg", .str "u.a", .str "t.A", .none], upd_same, .cons (.str _) (.cons (.str _) (.cons (.str _) (.cons (.str _) (.cons (.str _) (.cons (.non) .nil))))), by decide, by decide, by decide +kernel⟩ : GoodT K (upd (upd H1 o (.dK [])) t_src (.tup [.str "a", .str "t.", .str "t.abcdefg", .str "u.a", .str "t.A", .non])) .src t_src))
              have Gbound := (⟨_, [.str "", .str "a.b", .int 5, .str "aaaaaaaaaaaaa", .bool true], upd_same, .cons (.str _) (.cons (.str _) (.cons (.int _) (.cons (.str _) (.cons (.bl _) .nil)))), by decide, by decide, by decide +kernel⟩ : GoodT K (upd (upd (upd H1 o (.dK [])) t_src (.tup [.str "a", .str "t.", .str "t.abcdefg", .str "u.a", .str "t.A", .non])) t_bound (.tup [.str "", .str "a.b", .int 5, .str "aaaaaaaaaaaaa", .bl true])) .bound t_bound)
              have hB : AllG K _ [(.inr (kl .src), .ref t_src), (.inr (kl .bound), .ref t_bound)] := fun kv hkv => by
                simp only [List.mem_cons, List.not_mem_nil, or_false] at hkv
                rcases hkv with rfl | rfl
                · exact ⟨.src, t_src, rfl, Gsrc⟩
                · exact ⟨.bound, t_bound, rfl, Gbound⟩
              obtain ⟨kvs, hbo, hb2, hl2, F2, hD2⟩ := bad_step (ks2 := [.src, .bound]) PL hb F hD ho ss hB rfl (by decide)
              refine ⟨ss _ _ upd_same, [(.inr (kl .src), .ref t_src), (.inr (kl .bound), .ref t_bound)], rfl, (by show 2 ≤ 15; decide), b, o, kvs, _, rfl, rfl, hbo, hb2, upd_same, hl2, ?_⟩
              exact hR _ _ ⟨b, rfl, hb, F2, hD2⟩
          · refine ⟨_, rfl, .inr (.inr (.inl ⟨rfl, .inl (let ⟨kvs, h, _⟩ := hD; ⟨kvs, h⟩)⟩)), fun o ho => ⟨_, _, rfl, rfl, ⟨by decide, by decide, by decide⟩, _, _, rfl, rfl, .inl (by decide), _, _, rfl, rfl, _, rfl, _, _, rfl, rfl, ⟨by decide, by decide, by decide⟩, _, _, rfl, rfl, .inl (by decide), _, _, rfl, rfl, (by show 4 ≤ 16777216; decide), fun t_step h_step => ⟨_, rfl, (by show 5 ≤ 16777216; decide), fun t_sgn h_sgn => ?_⟩⟩⟩
            have ss := (same_upd (o := .tup [.int (2 * 10 ^ (9 : Int).toNat + 1), .int (-2 * 10 ^ (9 : Int).toNat - 1), .non, .bl false]) h_step).trans (same_upd (o := .tup [.int 0, .int 2, .int (-2), .bl true, .non]) h_sgn)
            have Gstep := GoodT.same (same_upd (o := .tup [.int 0, .int 2, .int (-2), .bl true, .non]) h_sgn) ((⟨_, [.int (2 * 10 ^ (9 : Int).toNat + 1), .int (-2 * 10 ^ (9 : Int).toNat - 1), .none, .bool false], upd_same, .cons (.int _) (.cons (.int _) (.cons (.non) (.cons (.bl _) .nil))), by decide, by decide, by decide +kernel⟩ : GoodT K (upd (upd H1 o (.dK [])) t_step (.tup [.int (2 * 10 ^ (9 : Int).toNat + 1), .int (-2 * 10 ^ (9 : Int).toNat - 1), .non, .bl false])) .step t_step))
            have Gsgn := (⟨_, [.int 0, .int 2, .int (-2), .bool true, .none], upd_same, .cons (.int _) (.cons (.int _) (.cons (.int _) (.cons (.bl _) (.cons (.non) .nil)))), by decide, by decide, by decide +kernel⟩ : GoodT K (upd (upd (upd H1 o (.dK [])) t_step (.tup [.int (2 * 10 ^ (9 : Int).toNat + 1), .int (-2 * 10 ^ (9 : Int).toNat - 1), .non, .bl false])) t_sgn (.tup [.int 0, .int 2, .int (-2), .bl true, .non])) .sgn t_sgn)
            have hB : AllG K _ [(.inr (kl .step), .ref t_step), (.inr (kl .sgn), .ref t_sgn)] := fun kv hkv => by
              simp only [List.mem_cons, List.not_mem_nil, or_false] at hkv
              rcases hkv with rfl | rfl
              · exact ⟨.step, t_step, rfl, Gstep⟩
              · exact ⟨.sgn, t_sgn, rfl, Gsgn⟩
            obtain ⟨kvs, hbo, hb2, hl2, F2, hD2⟩ := bad_step (ks2 := [.step, .sgn]) PL hb F hD ho ss hB rfl (by decide)
            refine ⟨ss _ _ upd_same, [(.inr (kl .step), .ref t_step), (.inr (kl .sgn), .ref t_sgn)], rfl, (by show 2 ≤ 15; decide), b, o, kvs, _, rfl, rfl, hbo, hb2, upd_same, hl2, ?_⟩
            exact hR _ _ ⟨b, rfl, hb, F2, hD2⟩
        · refine ⟨_, rfl, .inr (.inr (.inl ⟨rfl, .inl (let ⟨kvs, h, _⟩ := hD; ⟨kvs, h⟩)⟩)), fun o ho => ⟨(by show 0 ≤ 16777216; decide), fun u1 g1 => ⟨(by show 3 ≤ 16777216; decide), fun u2 g2 => ⟨_, _, rfl, rfl, ⟨by decide, by decide, by decide⟩, _, _, rfl, rfl, (by show 1 ≤ 16777216; decide), fun u3 g3 => ⟨_, _, rfl, rfl, ⟨by decide, by decide, by decide⟩, _, rfl, _, _, rfl, rfl, (by show 2 ≤ 16777216; decide), fun u4 g4 => ⟨(by show 1 ≤ 16777216; decide), fun u5 g5 => ⟨(by show 1 ≤ 16777216; decide), fun u6 g6 => ⟨(by show 8 ≤ 16777216; decide), fun t_nums h_nums => ?_⟩⟩⟩⟩⟩⟩⟩⟩
          have z6 := same_upd (o := .tup [.ref u1, .ref u2, .ref u3, .ref u4, .ref u5, .ref u6, .int 5, .non]) h_nums
          have z5 := (same_upd (o := .tup [.non]) g6).trans z6
          have z4 := (same_upd (o := .tup [.bl true]) g5).trans z5
          have z3 := (same_upd (o := .tup [.int 1, .int (-(10 ^ (9 : Int).toNat) - 1)]) g4).trans z4
          have z2 := (same_upd (o := .tup [.int (10 ^ (9 : Int).toNat + 1)]) g3).trans z3
          have z1 := (same_upd (o := .tup [.int 1, .int 2, .int 3]) g2).trans z2
          have ss := (same_upd (o := .tup []) g1).trans z1
          have Gnums : GoodT K _ .nums t_nums := ⟨_, [.tuple [], .tuple [.int 1, .int 2, .int 3], .tuple [.int (10 ^ (9 : Int).toNat + 1)], .tuple [.int 1, .int (-(10 ^ (9 : Int).toNat) - 1)], .tuple [.bool true], .tuple [.none], .int 5, .none], upd_same, .cons (.tup (.inl (.inl (z1 _ _ upd_same))) .nil) (.cons (.tup (.inl (.inl (z2 _ _ upd_same))) (.cons (.int _) (.cons (.int _) (.cons (.int _) .nil)))) (.cons (.tup (.inl (.inl (z3 _ _ upd_same))) (.cons (.int _) .nil)) (.cons (.tup (.inl (.inl (z4 _ _ upd_same))) (.cons (.int _) (.cons (.int _) .nil))) (.cons (.tup (.inl (.inl (z5 _ _ upd_same))) (.cons (.bl _) .nil)) (.cons (.tup (.inl (.inl (z6 _ _ upd_same))) (.cons .non .nil)) (.cons (.int _) (.cons .non .nil))))))), by decide, by decide, by decide +kernel⟩
          have hB : AllG K _ [(.inr (kl .nums), .ref t_nums)] := fun kv hkv => by
            simp only [List.mem_cons, List.not_mem_nil, or_false] at hkv
            rcases hkv with rfl
            · exact ⟨.nums, t_nums, rfl, Gnums⟩
          obtain ⟨kvs, hbo, hb2, hl2, F2, hD2⟩ := bad_step (ks2 := [.nums]) PL hb F hD ho ss hB rfl (by decide)
          refine ⟨ss _ _ upd_same, [(.inr (kl .nums), .ref t_nums)], rfl, (by show 1 ≤ 15; decide), b, o, kvs, _, rfl, rfl, hbo, hb2, upd_same, hl2, ?_⟩
          exact hR _ _ ⟨b, rfl, hb, F2, hD2⟩
      · refine ⟨_, rfl, .inr (.inr (.inl ⟨rfl, .inl (let ⟨kvs, h, _⟩ := hD; ⟨kvs, h⟩)⟩)), fun o ho => ⟨(by show 5 ≤ 16777216; decide), fun t_width h_width => ⟨_, rfl, (by show 4 ≤ 16777216; decide), fun t_most h_most => ⟨_, rfl, (by show 4 ≤ 16777216; decide), fun t_place h_place => ?_⟩⟩⟩⟩
        have ss := ((same_upd (o := .tup [.int 0, .int 3, .bl true, .non, .str "1"]) h_width).trans (same_upd (o := .tup [.int (-1), .int 401, .bl false, .non]) h_most)).trans (same_upd (o := .tup [.int (-1), .int 2, .bl true, .non]) h_place)
        have Gwidth := GoodT.same (same_upd (o := .tup [.int (-1), .int 2, .bl true, .non]) h_place) (GoodT.same (same_upd (o := .tup [.int (-1), .int 401, .bl false, .non]) h_most) ((⟨_, [.int 0, .int 3, .bool true, .none, .str "1"], upd_same, .cons (.int _) (.cons (.int _) (.cons (.bl _) (.cons (.non) (.cons (.str _) .nil)))), by decide, by decide, by decide +kernel⟩ : GoodT K (upd (upd H1 o (.dK [])) t_width (.tup [.int 0, .int 3, .bl true, .non, .str "1"])) .width t_width)))
        have Gmost := GoodT.same (same_upd (o := .tup [.int (-1), .int 2, .bl true, .non]) h_place) ((⟨_, [.int (-1), .int 401, .bool false, .none], upd_same, .cons (.int _) (.cons (.int _) (.cons (.bl _) (.cons (.non) .nil))), by decide, by decide, by decide +kernel⟩ : GoodT K (upd (upd (upd H1 o (.dK [])) t_width (.tup [.int 0, .int 3, .bl true, .non, .str "1"])) t_most (.tup [.int (-1), .int 401, .bl false, .non])) .most t_most))
        have Gplace := (⟨_, [.int (-1), .int 2, .bool true, .none], upd_same, .cons (.int _) (.cons (.int _) (.cons (.bl _) (.cons (.non) .nil))), by decide, by decide, by decide +kernel⟩ : GoodT K (upd (upd (upd (upd H1 o (.dK [])) t_width (.tup [.int 0, .int 3, .bl true, .non, .str "1"])) t_most (.tup [.int (-1), .int 401, .bl false, .non])) t_place (.tup [.int (-1), .int 2, .bl true, .non])) .place t_place)
        have hB : AllG K _ [(.inr (kl .width), .ref t_width), (.inr (kl .most), .ref t_most), (.inr (kl .place), .ref t_place)] := fun kv hkv => by
          simp only [List.mem_cons, List.not_mem_nil, or_false] at hkv
          rcases hkv with rfl | rfl | rfl
          · exact ⟨.width, t_width, rfl, Gwidth⟩
          · exact ⟨.most, t_most, rfl, Gmost⟩
          · exact ⟨.place, t_place, rfl, Gplace⟩
        obtain ⟨kvs, hbo, hb2, hl2, F2, hD2⟩ := bad_step (ks2 := [.width, .most, .place]) PL hb F hD ho ss hB rfl (by decide)
        refine ⟨ss _ _ upd_same, [(.inr (kl .width), .ref t_width), (.inr (kl .most), .ref t_most), (.inr (kl .place), .ref t_place)], rfl, (by show 3 ≤ 15; decide), b, o, kvs, _, rfl, rfl, hbo, hb2, upd_same, hl2, ?_⟩
        exact hR _ _ ⟨b, rfl, hb, F2, hD2⟩
    · refine fun b hb => ⟨(by show 6 ≤ 16777216; decide), fun t_name h_name => ⟨(by show 6 ≤ 16777216; decide), fun t_row h_row => ?_⟩⟩
      have ss := (same_upd (o := .tup [.str "", .str "abcdefg", .str "A", .str "a.", .int 5, .non]) h_name).trans (same_upd (o := .tup [.str "", .str "aaaaaaaaaaaaa", .str "a.b", .str "-", .non, .int 7]) h_row)
      have Gname := GoodT.same (same_upd (o := .tup [.str "", .str "aaaaaaaaaaaaa", .str "a.b", .str "-", .non, .int 7]) h_row) ((⟨_, [.str "", .str "abcdefg", .str "A", .str "a.", .int 5, .none], upd_same, .cons (.str _) (.cons (.str _) (.cons (.str _) (.cons (.str _) (.cons (.int _) (.cons (.non) .nil))))), by decide, by decide, by decide +kernel⟩ : GoodT K (upd (upd H b (.dK [])) t_name (.tup [.str "", .str "abcdefg", .str "A", .str "a.", .int 5, .non])) .name t_name))
      have Grow := (⟨_, [.str "", .str "aaaaaaaaaaaaa", .str "a.b", .str "-", .none, .int 7], upd_same, .cons (.str _) (.cons (.str _) (.cons (.str _) (.cons (.str _) (.cons (.non) (.cons (.int _) .nil))))), by decide, by decide, by decide +kernel⟩ : GoodT K (upd (upd (upd H b (.dK [])) t_name (.tup [.str "", .str "abcdefg", .str "A", .str "a.", .int 5, .non])) t_row (.tup [.str "", .str "aaaaaaaaaaaaa", .str "a.b", .str "-", .non, .int 7])) .row t_row)
      have hB : AllG K _ [(.inr (kl .name), .ref t_name), (.inr (kl .row), .ref t_row)] := fun kv hkv => by
        simp only [List.mem_cons, List.not_mem_nil, or_false] at hkv
        rcases hkv with rfl | rfl
        · exact ⟨.name, t_name, rfl, Gname⟩
        · exact ⟨.row, t_row, rfl, Grow⟩
      obtain ⟨F2, hD2⟩ := bad_new (ks2 := [.name, .row]) PL hb ss hB rfl
      refine ⟨ss _ _ upd_same, [(.inr (kl .name), .ref t_name), (.inr (kl .row), .ref t_row)], rfl, (by show 2 ≤ 15; decide), ?_⟩
      exact hR _ _ ⟨b, rfl, hb, F2, hD2⟩
end
end K75
set_option maxHeartbeats 2000000
/-! k75: refused, unread -/
namespace K75
open PySem PySem.Spec PyProof.Rows L2 L2H
theorem hotN {X : Cx} {a : Addr} {oe : Obj} {cls : Value} {d : Option Addr} {pn : List (Addr × Obj)} (hz : L2N.Zn cls d oe) (hf : ∃ vs, oe.data = .fields vs) : HotC (X.suite a ((a, oe) :: pn)) := by
  obtain ⟨vs, hv⟩ := hf
  exact ⟨(a, oe), ⟨rfl, vs, hv, hz.2.2 vs hv⟩, List.mem_cons_self⟩
/-- isinstance(e, c), e the exception that the suite holds -/
theorem call_isX {X : Cx} {a : Addr} {oe : Obj} {cls : Value} {d : Option Addr} {pn : List (Addr × Obj)} (hz : Zc cls d oe) (hf : ∃ vs, oe.data = .fields vs) :
    CallR (X.suite a ((a, oe) :: pn)) (.builtin "isinstance") (fun xs H Q => ∃ C dd, cls = .ref C ∧ d = some dd ∧ ExcC X.K C ∧ (∃ fs, H dd = some (.xd fs)) ∧ rIsE X.K C a xs H Q) := by
  intro pins s σ H xs us Q I r h
  obtain ⟨C, dd, rfl, rfl, E, hx, q⟩ := h
  exact call_isD E hz hf pins s σ H xs us Q I r ⟨hx, q⟩
theorem xfC {K : PySem.W.Frag} {mg : Str → Option Value} {x : Str} {C fI : Addr} (T : PySem.WhatX.ErrTxt K mg x C fI) : XfC K C := ⟨T.ga, T.gg, T.exC, T.hdC⟩
section
variable {P : Program} {w : World} {K : PySem.W.Frag} {mg : Str → Option Value} {base : Heap}
abbrev ns__law_refused : List Str := ["thing", "index", "error"]
theorem sc66 : FnScope ["thing", "index", "error"] ["thing", "index"] (defScope (top 66)) := ⟨rfl, rfl, rfl, by decide +kernel, rfl, by decide +kernel, by decide +kernel⟩
def sp__law_refused (K : PySem.W.Frag) : Sp := fun vs H Q _ => ∃ v d i, vs = [v, .int i] ∧ Dp K H v d ∧ okF d ∧ 0 ≤ i ∧ firstBad d = i ∧ ∀ H', Same H H' → Q (.bl true) H'
theorem d__law_refused (T : TxtX w K mg) : Def P w K mg base CX0 8 "_law_refused" ["thing", "index"] (sp__law_refused K) := by
  obtain ⟨f, fd, F, m, b⟩ := T.a66
  refine ⟨f, fd, m, F.kp, b, F.ok sc66 (fun vs H Q E h => ?_) (fun cdv A outer s H vs Q E hr h => ?_)⟩
  · obtain ⟨v, d, i, rfl, _⟩ := h; rfl
  · have nd := sc66.nd
    have hu := hr.units
    have hu1 : (A.deeper (envOfC "_law_refused" (defScope (top 66)) s.heap.objs.size f cdv)).units + 1 < cLine := by omega
    obtain ⟨v, d, i, rfl, hv, ok, h0, hi, q⟩ := h
    obtain ⟨C, CR, eC⟩ := T.eD
    obtain ⟨fI, TE⟩ := eC.txt
    refine ⟨_, (pss_cons (L2N.ps_try_as1 (i := 2) rfl rfl nd rfl rfl ⟨rfl, by decide, Or.inl eC.gC⟩ (fun W pn xe tk _ => pss_one (ps_expr (pe_defXT tk (d_made_storedeed T) (hr.mono (by decide)) (pa_cons (pv 0) pa_nil)))) (fun a oe cls d pn hz hf => pss_one (ps_ret (pe_and (pe_cmpR op_eq (pe_xf (xfC TE) TE.noN hz.zc hf (pv 2)) (pv 1) (nomark _)) (pe_and (pe_callB (call_isX hz.zc hf) (by rfl) T.b.isinstance (by decide +kernel) (pa_cons (pv 2) (pa_cons (pe_glob (v := .ref CR) (by rfl) eC.gR rfl) pa_nil))) (pe_one (pe_defH (h__law_tells T) ((roomH_mark hr _).mono (by decide)) (hotN hz hf) (pa_cons (pe_defH (h_is_storedeed T.toTxt) ((roomH_mark hr _).mono (by decide)) (hotN hz hf) (pa_cons (pv 0) pa_nil)) (pa_cons pe_bl pa_nil)))))))))
      (pss_one (ps_ret pe_bl))), ?_⟩
    refine ⟨_, rfl, v, d, rfl, hv, ok, fun hneg => absurd hneg (by omega), fun hn C' hC' H1 dd s1 hdd => ?_⟩
    have eC' : C' = C := by
      rw [eC.gC] at hC'
      exact (Value.ref.inj (Option.some.inj hC')).symm
    subst eC'
    refine ⟨eC.te, fun a ha => ?_⟩
    refine ⟨_, rfl, rfl, rfl, dd, _, .int (firstBad d), rfl, hdd, rfl, _, rfl, rfl, _, rfl, ?_⟩
    rw [int_eq, decide_eq_true hi]
    refine iteT ⟨_, rfl, C', dd, rfl, rfl, eC.exc, ⟨_, hdd⟩, .ref CR, .ref CR, true, rfl, fun u hu' => hu', eC.kit, _, rfl, iteT ?_⟩
    refine ⟨_, rfl, v, d, rfl, dp_same s1 hv, ok, fun H2 s2 => ⟨_, _, rfl, ?_⟩⟩
    rw [decide_eq_false (by omega)]
    exact q H2 (s1.trans s2)
abbrev ns__law_unread : List Str := ["text", "error"]
theorem sc67 : FnScope ["text", "error"] ["text"] (defScope (top 67)) := ⟨rfl, rfl, rfl, by decide +kernel, rfl, by decide +kernel, by decide +kernel⟩
def sp__law_unread (K : PySem.W.Frag) : Sp := fun vs H Q _ => ∃ x, vs = [.str x] ∧ x.length ≤ 100000 ∧ (∀ p ∈ TL.spl [32] 0 [] (tl x), p.length ≤ 1000) ∧ (∀ h t, TL.spl [32] 0 [] (tl x) = h :: t → kds (SX.S h) ≠ none ∨ h = []) ∧ readWords (TL.spl [32] 0 [] (tl x)) = none ∧ ∀ H', Same H H' → Q (.bl true) H'
theorem d__law_unread (T : TxtX w K mg) : Def P w K mg base CX0 8 "_law_unread" ["text"] (sp__law_unread K) := by
  obtain ⟨f, fd, F, m, b⟩ := T.a67
  refine ⟨f, fd, m, F.kp, b, F.ok sc67 (fun vs H Q E h => ?_) (fun cdv A outer s H vs Q E hr h => ?_)⟩
  · obtain ⟨x, rfl, _⟩ := h; rfl
  · have nd := sc67.nd
    have hu := hr.units
    have hu1 : (A.deeper (envOfC "_law_unread" (defScope (top 67)) s.heap.objs.size f cdv)).units + 1 < cLine := by omega
    obtain ⟨x, rfl, h1, h2, h3, h4, q⟩ := h
    obtain ⟨C, CR, eC⟩ := T.eT
    obtain ⟨fI, TE⟩ := eC.txt
    refine ⟨_, (pss_cons (L2N.ps_try_as1 (i := 1) rfl rfl nd rfl rfl ⟨rfl, by decide, Or.inl eC.gC⟩ (fun W pn xe tk _ => pss_one (ps_expr (pe_defXT tk (d_read_storedeed T) (hr.mono (by decide)) (pa_cons (pv 0) pa_nil)))) (fun a oe cls d pn hz hf => pss_one (ps_ret (pe_and (pe_cmpR op_eq (pe_xf (xfC TE) TE.noN hz.zc hf (pv 1)) pe_int (nomark _)) (pe_one (pe_callB (call_isX hz.zc hf) (by rfl) T.b.isinstance (by decide +kernel) (pa_cons (pv 1) (pa_cons (pe_glob (v := .ref CR) (by rfl) eC.gR rfl) pa_nil))))))))
      (pss_one (ps_ret pe_bl))), ?_⟩
    refine ⟨_, rfl, x, rfl, h1, h2, h3, (fun d hd => by rw [h4] at hd; cases hd), fun hn C' hC' H1 dd s1 hdd => ?_⟩
    have eC' : C' = C := by
      rw [eC.gC] at hC'
      exact (Value.ref.inj (Option.some.inj hC')).symm
    subst eC'
    refine ⟨eC.te, fun a ha => ?_⟩
    refine ⟨_, rfl, rfl, rfl, dd, _, .int 0, rfl, hdd, rfl, rfl, _, rfl, ?_⟩
    refine iteT ⟨_, rfl, C', dd, rfl, rfl, eC.exc, ⟨_, hdd⟩, .ref CR, .ref CR, true, rfl, fun u hu' => hu', eC.kit, ?_⟩
    exact q H1 s1
end
end K75
set_option maxHeartbeats 2000000
/-! k75: lines near a deed's, the plain part -/
namespace K75
open PySem SX
theorem sg_len' {m : Nat} {l : List Nat} (h : sg m l = true) : 1 ≤ l.length ∧ l.length ≤ m := sg_len h
theorem intL21 {i : Int} (h1 : -2000000000 ≤ i) (h2 : i ≤ 2000000000) : (intL i).length ≤ 21 := intL_len (by omega)
theorem itx100 {k : Kd} {d : D} (h : okK k d = true) : (itx d).length ≤ 100 := by
  have num : lt k = 110 → (itx d).length ≤ 100 := fun hk => by
    obtain ⟨i, rfl, a, b⟩ := okK_int hk h
    have := intL21 a b
    show (intL i).length ≤ 100
    omega
  cases k with
  | name => obtain ⟨x, rfl, s⟩ := okS_str h; have := (sg_len s).2; show (tl x).length ≤ 100; omega
  | row => obtain ⟨x, rfl, s⟩ := okS_str h; have := (sg_len s).2; show (tl x).length ≤ 100; omega
  | src =>
    obtain ⟨x, rfl, s⟩ := okSrc_str h
    obtain ⟨a, r, e, _, hr⟩ := srcL_cases s
    have := (sg_len hr).2
    show (tl x).length ≤ 100
    rw [e]
    simp only [List.length_cons]
    omega
  | bound =>
    rcases okBd_cases h with rfl | ⟨x, rfl, s⟩
    · decide
    · have := (sg_len s).2
      show (tl x).length ≤ 100
      omega
  | nums =>
    obtain ⟨ns, rfl, hl, hb⟩ := nums_ints h
    rw [itx_nums]
    have := joinL_len [44] (ns.map intL) 21 (by
      intro p hp
      obtain ⟨n, hn, rfl⟩ := List.mem_map.mp hp
      exact intL21 (by have := hb n hn; omega) (by have := hb n hn; omega))
    rw [List.length_map, List.length_singleton] at this
    omega
  | width => exact num rfl
  | most => exact num rfl
  | place => exact num rfl
  | step => exact num rfl
  | sgn => exact num rfl
theorem okK_facts {k : Kd} {d : D} (h : okK k d = true) : okItem d ∧ okT d ∧ noL d = true ∧ d.canLay0 = true ∧ d.depth ≤ 1 := by
  have cs : ∀ {x : Str}, (∀ c ∈ tl x, c < 1114112) → (PyData.str x).canLay0 = true ∧ (PyData.str x).depth ≤ 1 := fun h => ⟨(can_str h).1, Nat.le_trans (can_str h).2 (by decide)⟩
  have ci : ∀ i : Int, (PyData.int i).canLay0 = true ∧ (PyData.int i).depth ≤ 1 := fun i => ⟨by simp only [PyData.canLay0], by simp only [PyData.depth]; omega⟩
  have num : lt k = 110 → okItem d ∧ okT d ∧ noL d = true ∧ d.canLay0 = true ∧ d.depth ≤ 1 := fun hk => by
    obtain ⟨i, rfl, a, b⟩ := okK_int hk h
    exact ⟨(by show i.natAbs < 2 ^ 64; omega), trivial, rfl, (ci i).1, (ci i).2⟩
  have str : ∀ {m : Nat}, okS m d = true → m ≤ 100 → okItem d ∧ okT d ∧ noL d = true ∧ d.canLay0 = true ∧ d.depth ≤ 1 := fun h hm => by
    obtain ⟨x, rfl, s⟩ := okS_str h
    have := (sg_len s).2
    have hl : x.length ≤ 1000 := by rw [slen]; omega
    exact ⟨hl, hl, rfl, (cs (sg_lt s)).1, (cs (sg_lt s)).2⟩
  cases k with
  | name => exact str h (by decide)
  | row => exact str h (by decide)
  | src =>
    obtain ⟨x, rfl, s⟩ := okSrc_str h
    obtain ⟨a, r, e, ha, hr⟩ := srcL_cases s
    have := (sg_len hr).2
    have hl : x.length ≤ 1000 := by rw [slen, e]; simp only [List.length_cons]; omega
    have hc : ∀ c ∈ tl x, c < 1114112 := by
      rw [e]
      intro c hc
      rcases List.mem_cons.mp hc with rfl | hc
      · omega
      · rcases List.mem_cons.mp hc with rfl | hc
        · omega
        · exact sg_lt hr c hc
    exact ⟨hl, hl, rfl, (cs hc).1, (cs hc).2⟩
  | bound =>
    rcases okBd_cases h with rfl | ⟨x, rfl, s⟩
    · exact ⟨trivial, trivial, rfl, by simp only [PyData.canLay0], by simp only [PyData.depth]; omega⟩
    · exact str (m := 12) s (by decide)
  | nums =>
    obtain ⟨ns, rfl, hl, hb⟩ := nums_ints h
    have e1 : PyData.canLay0 (.tuple (ns.map PyData.int)) = true := by
      simp only [PyData.canLay0]
      exact canAll fun d hd => by obtain ⟨n, _, rfl⟩ := List.mem_map.mp hd; exact (ci n).1
    have e2 : PyData.depth (.tuple (ns.map PyData.int)) ≤ 1 := by
      have := depAll (ds := ns.map PyData.int) (n := 0) fun d hd => by obtain ⟨n, _, rfl⟩ := List.mem_map.mp hd; simp only [PyData.depth]; omega
      simp only [PyData.depth]
      omega
    exact ⟨⟨ns, rfl, by omega, fun n hn => by have := hb n hn; omega⟩, trivial, noLs_ints ns, e1, e2⟩
  | width => exact num rfl
  | most => exact num rfl
  | place => exact num rfl
  | step => exact num rfl
  | sgn => exact num rfl
/-- a line that is not read as a deed -/
structure Near (y : Str) : Prop where
  len : y.length ≤ 100000
  parts : ∀ p ∈ TL.spl [32] 0 [] (tl y), p.length ≤ 1000
  head : ∀ h t, TL.spl [32] 0 [] (tl y) = h :: t → kds (S h) ≠ none ∨ h = []
  bad : readWords (TL.spl [32] 0 [] (tl y)) = none
theorem near_mk {h : List Nat} {t : List (List Nat)} (hf : ∀ p ∈ h :: t, 32 ∉ p) (hl : ∀ p ∈ h :: t, p.length ≤ 300) (hn : t.length ≤ 20) (hh : kds (S h) ≠ none ∨ h = []) (hb : readWords (h :: t) = none) : Near (S (TL.joinL [32] (h :: t))) := by
  have e : TL.spl [32] 0 [] (tl (S (TL.joinL [32] (h :: t)))) = h :: t := TL.spl_join (by simp) hf
  have hj := joinL_len [32] (h :: t) 300 hl
  refine ⟨?_, ?_, ?_, ?_⟩
  · rw [S_len]
    rw [List.length_cons, List.length_singleton] at hj
    have : (t.length + 1) * (300 + 1) ≤ 21 * 301 := Nat.mul_le_mul (by omega) (by omega)
    omega
  · rw [e]
    exact fun p hp => Nat.le_trans (hl p hp) (by decide)
  · rw [e]
    rintro h' t' e'
    rw [(List.cons.inj e').1.symm]
    exact hh
  · rw [e]
    exact hb
theorem lineWs_free {x : Str} {ps : List D} {ks : List Kd} (h : SDeed x ps ks) : ∀ p ∈ lineWs x ps, 32 ∉ p := by
  intro p hp
  rcases List.mem_cons.mp hp with rfl | hp
  · have : words12.all (fun p => !(tl p.1).contains 32) = true := by decide +kernel
    have := List.all_eq_true.mp this _ (kds_mem h.word)
    simpa using this
  · obtain ⟨d, hd, rfl⟩ := List.mem_map.mp hp
    obtain ⟨m, hm⟩ := List.mem_iff_getElem?.mp hd
    have hl := allOk_len h.parts
    obtain ⟨k, hk⟩ : ∃ k, ks[m]? = some k := ⟨_, List.getElem?_eq_getElem (by rw [← hl]; exact (List.getElem?_eq_some_iff.mp hm).1)⟩
    exact itx_free (allOk_at h.parts hk hm)
theorem lineWs_len {x : Str} {ps : List D} {ks : List Kd} (h : SDeed x ps ks) : ∀ p ∈ lineWs x ps, p.length ≤ 100 := by
  intro p hp
  rcases List.mem_cons.mp hp with rfl | hp
  · have := (len12 _ _ (kds_mem h.word)).2
    rw [slen] at this
    omega
  · obtain ⟨d, hd, rfl⟩ := List.mem_map.mp hp
    obtain ⟨m, hm⟩ := List.mem_iff_getElem?.mp hd
    have hl := allOk_len h.parts
    obtain ⟨k, hk⟩ : ∃ k, ks[m]? = some k := ⟨_, List.getElem?_eq_getElem (by rw [← hl]; exact (List.getElem?_eq_some_iff.mp hm).1)⟩
    exact itx100 (allOk_at h.parts hk hm)
theorem one_le {x : Str} {ks : List Kd} (h : kds x = some ks) : 1 ≤ ks.length := by
  have : words12.all (fun p => decide (1 ≤ p.2.length)) = true := by decide +kernel
  exact of_decide_eq_true (List.all_eq_true.mp this _ (kds_mem h))
section
variable {x : Str} {ps : List D} {ks : List Kd}
theorem SDeed.kS (h : SDeed x ps ks) : kds (S (tl x)) = some ks := by rw [S_tlk]; exact h.word
theorem SDeed.n7 (h : SDeed x ps ks) : 1 ≤ ps.length ∧ ps.length ≤ 7 ∧ ps.length = ks.length := by
  have h1 := (len12 _ _ (kds_mem h.word)).1
  have h2 := allOk_len h.parts
  have h3 := one_le h.word
  omega
theorem near_of (h : SDeed x ps ks) {t : List (List Nat)} (ht : ∀ p ∈ t, 32 ∉ p ∧ p.length ≤ 300) (hn : t.length ≤ 20) (hb : readWords (tl x :: t) = none) : Near (S (TL.joinL [32] (tl x :: t))) := by
  have f := lineWs_free h (tl x) (List.mem_cons_self ..)
  have l := lineWs_len h (tl x) (List.mem_cons_self ..)
  refine near_mk (fun p hp => ?_) (fun p hp => ?_) hn (.inl (by rw [h.kS]; exact Option.some_ne_none _)) hb
  · rcases List.mem_cons.mp hp with rfl | hp
    · exact f
    · exact (ht p hp).1
  · rcases List.mem_cons.mp hp with rfl | hp
    · omega
    · exact (ht p hp).2
theorem part_ok (h : SDeed x ps ks) : ∀ p ∈ ps.map itx, 32 ∉ p ∧ p.length ≤ 300 := fun p hp =>
  ⟨lineWs_free h p (List.mem_cons_of_mem _ hp), Nat.le_trans (lineWs_len h p (List.mem_cons_of_mem _ hp)) (by decide)⟩
theorem near1 (h : SDeed x ps ks) {z : List Nat} (hz : 32 ∉ z) (hz2 : z.length ≤ 300) : Near (S (TL.joinL [32] (lineWs x ps ++ [z]))) := by
  obtain ⟨h1, h2, h3⟩ := h.n7
  refine near_of h (t := ps.map itx ++ [z]) (fun p hp => ?_) (by rw [List.length_append, List.length_map]; show _ + 1 ≤ 20; omega) (words_len h.kS (by rw [List.length_append, List.length_map]; show _ + 1 ≠ _; omega))
  rcases List.mem_append.mp hp with a | a
  · exact part_ok h p a
  · rw [List.mem_singleton.mp a]
    exact ⟨hz, hz2⟩
theorem near2 (h : SDeed x ps ks) : Near (S (TL.joinL [32] ([] :: lineWs x ps))) := by
  obtain ⟨h1, h2, h3⟩ := h.n7
  refine near_mk (fun p hp => ?_) (fun p hp => ?_) (by unfold lineWs; rw [List.length_cons, List.length_map]; omega) (.inr rfl) words_empty
  · rcases List.mem_cons.mp hp with rfl | hp
    · simp
    · exact lineWs_free h p hp
  · rcases List.mem_cons.mp hp with rfl | hp
    · simp
    · exact Nat.le_trans (lineWs_len h p hp) (by decide)
theorem near4 (h : SDeed x ps ks) : Near (S (TL.joinL [32] ((lineWs x ps).take ps.length))) := by
  obtain ⟨h1, h2, h3⟩ := h.n7
  obtain ⟨n, hn⟩ : ∃ n, ps.length = n + 1 := ⟨ps.length - 1, by omega⟩
  rw [hn]
  refine near_of h (t := (ps.map itx).take n) (fun p hp => part_ok h p (List.mem_of_mem_take hp)) (by rw [List.length_take, List.length_map]; omega) (words_len h.kS (by rw [List.length_take, List.length_map]; omega))
theorem near5 (h : SDeed x ps ks) (j : Nat) (hj : j ≤ ps.length) : Near (S (TL.joinL [32] ((lineWs x ps).take (j + 1) ++ [[]] ++ (lineWs x ps).drop (j + 1)))) := by
  obtain ⟨h1, h2, h3⟩ := h.n7
  have e : (lineWs x ps).take (j + 1) ++ [[]] ++ (lineWs x ps).drop (j + 1) = tl x :: ((ps.map itx).take j ++ [[]] ++ (ps.map itx).drop j) := rfl
  rw [e]
  have hl : ((ps.map itx).take j ++ [[]] ++ (ps.map itx).drop j).length = ps.length + 1 := by
    rw [List.length_append, List.length_append, List.length_take, List.length_drop, List.length_map, List.length_singleton]
    omega
  refine near_of h (fun p hp => ?_) (by omega) (words_len h.kS (by omega))
  rcases List.mem_append.mp hp with a | a
  · rcases List.mem_append.mp a with a | a
    · exact part_ok h p (List.mem_of_mem_take a)
    · rw [List.mem_singleton.mp a]
      exact ⟨by simp, by simp⟩
  · exact part_ok h p (List.mem_of_mem_drop a)
theorem put_get {α : Type} {l : List α} {j : Nat} {z : α} (h : j ≤ l.length) : (l.take j ++ [z] ++ l.drop (j + 1))[j]? = some z := by
  rw [List.append_assoc, List.getElem?_append_right (by rw [List.length_take]; omega), List.length_take, Nat.min_eq_left h, Nat.sub_self]
  rfl
theorem put_len {α : Type} {l : List α} {j : Nat} {z : α} (h : j < l.length) : (l.take j ++ [z] ++ l.drop (j + 1)).length = l.length := by
  rw [List.length_append, List.length_append, List.length_take, List.length_drop, List.length_singleton]
  omega
theorem near6 (h : SDeed x ps ks) (j : Nat) {d : D} (hd : ps[j]? = some d) : Near (S (TL.joinL [32] ((lineWs x ps).take (j + 1) ++ [65 :: itx d] ++ (lineWs x ps).drop (j + 1 + 1)))) := by
  obtain ⟨h1, h2, h3⟩ := h.n7
  have hj := (List.getElem?_eq_some_iff.mp hd).1
  obtain ⟨k, hk⟩ : ∃ k, ks[j]? = some k := ⟨_, List.getElem?_eq_getElem (by omega)⟩
  have ok := allOk_at h.parts hk hd
  have e : (lineWs x ps).take (j + 1) ++ [65 :: itx d] ++ (lineWs x ps).drop (j + 1 + 1) = tl x :: ((ps.map itx).take j ++ [65 :: itx d] ++ (ps.map itx).drop (j + 1)) := rfl
  rw [e]
  have hl : ((ps.map itx).take j ++ [65 :: itx d] ++ (ps.map itx).drop (j + 1)).length = ps.length := by rw [put_len (by rw [List.length_map]; exact hj), List.length_map]
  have hm : itx d ∈ ps.map itx := List.mem_map.mpr ⟨d, List.mem_of_getElem? hd, rfl⟩
  refine near_of h (fun p hp => ?_) (by omega) (words_bad h.kS j hk (put_get (by rw [List.length_map]; omega)) (near_A ok))
  rcases List.mem_append.mp hp with a | a
  · rcases List.mem_append.mp a with a | a
    · exact part_ok h p (List.mem_of_mem_take a)
    · rw [List.mem_singleton.mp a]
      refine ⟨fun z => ?_, ?_⟩
      · rcases List.mem_cons.mp z with z | z
        · exact absurd z (by decide)
        · exact (part_ok h _ hm).1 z
      · have := itx100 ok
        rw [List.length_cons]
        omega
  · exact part_ok h p (List.mem_of_mem_drop a)
theorem last_num (h : SDeed x ps ks) (hx : x = "make" ∨ x = "shift" ∨ x = "post" ∨ x = "put") : ∃ k, ks[ks.length - 1]? = some k ∧ (lt k = 110 ∨ k = .nums) := by
  have hk := h.word
  rcases hx with rfl | rfl | rfl | rfl
  · have e : kds "make" = some [.name, .width, .most] := by decide +kernel
    rw [e] at hk
    cases hk
    exact ⟨.most, rfl, .inl rfl⟩
  · have e : kds "shift" = some [.name, .row, .place, .step] := by decide +kernel
    rw [e] at hk
    cases hk
    exact ⟨.step, rfl, .inl rfl⟩
  · have e : kds "post" = some [.name, .row, .place, .src, .row, .place, .sgn] := by decide +kernel
    rw [e] at hk
    cases hk
    exact ⟨.sgn, rfl, .inl rfl⟩
  · have e : kds "put" = some [.name, .row, .nums] := by decide +kernel
    rw [e] at hk
    cases hk
    exact ⟨.nums, rfl, .inr rfl⟩
theorem near7 (h : SDeed x ps ks) (hx : x = "make" ∨ x = "shift" ∨ x = "post" ∨ x = "put") {s : List Nat} (hs : s ∈ odd3) {d : D} (hd : ps[ps.length - 1]? = some d) : Near (S (TL.joinL [32] ((lineWs x ps).take ps.length ++ [s ++ itx d]))) := by
  obtain ⟨h1, h2, h3⟩ := h.n7
  obtain ⟨k, hk, hkn⟩ := last_num h hx
  rw [← h3] at hk
  have ok := allOk_at h.parts hk hd
  obtain ⟨n, hn⟩ : ∃ n, ps.length = n + 1 := ⟨ps.length - 1, by omega⟩
  have e : (lineWs x ps).take ps.length ++ [s ++ itx d] = tl x :: ((ps.map itx).take n ++ [s ++ itx d] ++ (ps.map itx).drop (n + 1)) := by
    rw [hn, List.drop_of_length_le (by rw [List.length_map]; omega), List.append_nil]
    rfl
  rw [e]
  have hl : ((ps.map itx).take n ++ [s ++ itx d] ++ (ps.map itx).drop (n + 1)).length = ps.length := by rw [put_len (by rw [List.length_map]; omega), List.length_map]
  have hm : itx d ∈ ps.map itx := List.mem_map.mpr ⟨d, List.mem_of_getElem? hd, rfl⟩
  have e1 : ps.length - 1 = n := by omega
  rw [e1] at hk
  have hsl : s.length ≤ 2 ∧ 32 ∉ s := by
    have : s = [43] ∨ s = [48] ∨ s = [45, 45] := by simpa [odd3] using hs
    rcases this with rfl | rfl | rfl <;> decide
  refine near_of h (fun p hp => ?_) (by omega) (words_bad h.kS n hk (put_get (by rw [List.length_map]; omega)) (near_odd hs hkn ok))
  rcases List.mem_append.mp hp with a | a
  · rcases List.mem_append.mp a with a | a
    · exact part_ok h p (List.mem_of_mem_take a)
    · rw [List.mem_singleton.mp a]
      refine ⟨fun z => ?_, ?_⟩
      · rcases List.mem_append.mp z with z | z
        · exact hsl.2 z
        · exact (part_ok h _ hm).1 z
      · have := itx100 ok
        rw [List.length_append]
        omega
  · exact part_ok h p (List.mem_of_mem_drop a)
/-! ### the parts bent -/
/-- ds is ps but for the places from j on; at j it is bad -/
structure Bent (ps : List D) (ks : List Kd) (j : Nat) (ds : List D) : Prop where
  len : ds.length = ks.length
  low : ∀ m < j, ds[m]? = ps[m]?
  okT : ∀ d ∈ ds, okT d
  noL : ∀ d ∈ ds, noL d = true
theorem Bent.put {j m : Nat} {ds : List D} {d : D} (h : Bent ps ks j ds) (hm : m < ks.length) (hj : j ≤ m) (h1 : K75.okT d) (h2 : K75.noL d = true) : Bent ps ks j (ds.take m ++ [d] ++ ds.drop (m + 1)) := by
  have hl := h.len
  have mem : ∀ z ∈ ds.take m ++ [d] ++ ds.drop (m + 1), z = d ∨ z ∈ ds := fun z hz => by
    rcases List.mem_append.mp hz with a | a
    · rcases List.mem_append.mp a with a | a
      · exact .inr (List.mem_of_mem_take a)
      · exact .inl (List.mem_singleton.mp a)
    · exact .inr (List.mem_of_mem_drop a)
  refine ⟨by rw [put_len (by omega)]; exact hl, fun i hi => ?_, fun z hz => ?_, fun z hz => ?_⟩
  · rw [List.append_assoc, List.getElem?_append_left (by rw [List.length_take]; omega), List.getElem?_take, if_pos (by omega)]
    exact h.low i hi
  · rcases mem z hz with rfl | a
    · exact h1
    · exact h.okT z a
  · rcases mem z hz with rfl | a
    · exact h2
    · exact h.noL z a
theorem put_get_ne {α : Type} {l : List α} {j i : Nat} {z : α} (hj : j < l.length) (hi : i < j) : (l.take j ++ [z] ++ l.drop (j + 1))[i]? = l[i]? := by
  rw [List.append_assoc, List.getElem?_append_left (by rw [List.length_take]; omega), List.getElem?_take, if_pos hi]
theorem Bent.first (h : SDeed x ps ks) {j : Nat} {ds : List D} (hb : Bent ps ks j ds) {k : Kd} {d : D} (hk : ks[j]? = some k) (hd : ds[j]? = some d) (bad : okK k d = false) : firstBad (.tuple (.str x :: ds)) = ((j + 1 : Nat) : Int) := by
  have e : badAux ks ds 1 = 1 + (j : Int) := badAux_at 1 j k d hk hd bad fun m hm k' d' h1 h2 => by
    rw [hb.low m hm] at h2
    exact allOk_at h.parts h1 h2
  show badPs x ds = _
  unfold badPs
  rw [h.word]
  show (if ds.length = ks.length then _ else 0) = _
  rw [if_pos hb.len, e, if_pos (by omega)]
  omega
theorem first_more (h : SDeed x ps ks) (d : D) : firstBad (.tuple (.str x :: (ps ++ [d]))) = 0 := by
  obtain ⟨h1, h2, h3⟩ := h.n7
  show badPs x (ps ++ [d]) = 0
  unfold badPs
  rw [h.word]
  show (if (ps ++ [d]).length = ks.length then _ else 0) = _
  rw [if_neg (by rw [List.length_append]; show _ + 1 ≠ _; omega)]
theorem first_less (h : SDeed x ps ks) : firstBad (.tuple ((PyData.str x :: ps).take ps.length)) = 0 := by
  obtain ⟨h1, h2, h3⟩ := h.n7
  obtain ⟨n, hn⟩ : ∃ n, ps.length = n + 1 := ⟨ps.length - 1, by omega⟩
  rw [hn]
  show badPs x (ps.take n) = 0
  unfold badPs
  rw [h.word]
  show (if (ps.take n).length = ks.length then _ else 0) = _
  rw [if_neg (by rw [List.length_take]; omega)]
theorem first_mak (ps : List D) : firstBad (.tuple (.str "mak" :: ps)) = 0 := by
  show badPs "mak" ps = 0
  unfold badPs
  rw [word_mak]
end
end K75
set_option maxHeartbeats 4000000
/-! k75: a deed is right -/
namespace K75
open PySem PySem.Spec PyProof.Rows L2 L2H
/-- join, slices, places within a comprehension: the fragment told -/
def tJoinK (K : PySem.W.Frag) (to te : TE) : TE := tM1 (fun x xs H Q => ∃ a p, ∃ ys : List Str, x = .str a ∧ xs = [.ref p] ∧ (SqL K H p (ys.map V.str) ∨ SqT K H p (ys.map V.str)) ∧ (ys.map (·.length)).sum + ys.length * a.length ≤ 16777216 ∧ Q (.str (Txt.join a ys)) H) to te
theorem pe_joinK {X : Cx} {K : PySem.W.Frag} {o e : Expr} {to te : TE} {apos pos : Pos} (hK : X.K = K) (ho : PE X o to) (he : PE X e te) (hs : starEach [e] X.env = [(false, eval e X.env)] := by rfl) (hbase : attributeBase o "join" X.env (eval o X.env) = eval o X.env := by rfl) (hline : (apos.endLine == pos.line) = true := by rfl) :
    PE X (.Call (.Attribute o "join" apos) [e] [] pos) (tJoinK K to te) := by
  subst hK
  exact pe_join ho he hs hbase hline
theorem sl_listK {X : Cx} {K : PySem.W.Frag} (hK : X.K = K) : SlR X (rSlL K) := by subst hK; exact sl_list
theorem ix_listK {X : Cx} {K : PySem.W.Frag} (hK : X.K = K) : IxR X (rIxL K) := by subst hK; exact ix_list
theorem slA_mk {K : PySem.W.Frag} {H : Hp} {a : Addr} {xs : List V} {lo hi : Option Int} {Q : VK} (h : SqT K H a xs) (q : ∀ H' b, Same H H' → SqT K H' b (cutV xs lo hi) → Q (.ref b) H') : rSlA K (.ref a) lo hi H Q := by
  refine ⟨a, xs, rfl, h, fun ⟨e1, e2⟩ => ?_, fun _ p hp => q _ p (same_upd hp) (.inl (.inl upd_same))⟩
  refine q H a (Same.refl _) ?_
  have : cutV xs lo hi = xs := by
    unfold cutV
    rw [e1, e2, List.drop_zero, Nat.sub_zero, List.take_length]
  rw [this]
  exact h
theorem noP {σ : L2.St} {H : Hp} {Q : Option Int → Hp → Prop} (h : Q none H) : tNoPart σ H Q := h
theorem catA_mk {K : PySem.W.Frag} {H : Hp} {a b : Addr} {xs ys : List V} {Q : VK} (h1 : SqT K H a xs) (h2 : SqT K H b ys) (hl : xs.length + ys.length ≤ 1000) (q : ∀ H' c, Same H H' → SqT K H' c (xs ++ ys) → Q (.ref c) H') : rCatA K (.ref a) (.ref b) H Q := by
  refine ⟨a, b, xs, ys, rfl, rfl, h1, h2, by show _ ≤ 16777216; omega, fun e => ?_, fun _ e => ?_, fun _ _ p hp => q _ p (same_upd hp) (.inl (.inl upd_same))⟩
  · subst e
    exact q H b (Same.refl _) h2
  · subst e
    refine q H a (Same.refl _) ?_
    rw [List.append_nil]
    exact h1
theorem dpAll_take {K : PySem.W.Frag} {H : Hp} : ∀ {vs : List V} {ds : List PyData} (n : Nat), DpAll K H vs ds → DpAll K H (vs.take n) (ds.take n)
  | _, _, 0, _ => .nil
  | _, _, n + 1, .nil => .nil
  | _, _, n + 1, .cons a b => .cons a (dpAll_take n b)
theorem dpAll_drop {K : PySem.W.Frag} {H : Hp} : ∀ {vs : List V} {ds : List PyData} (n : Nat), DpAll K H vs ds → DpAll K H (vs.drop n) (ds.drop n)
  | _, _, 0, h => h
  | _, _, n + 1, .nil => .nil
  | _, _, n + 1, .cons a b => dpAll_drop n b
/-- all of a deed's parts, and the deed, are well known -/
structure DFacts (x : Str) (ps : List PyData) : Prop where
  item : ∀ d ∈ PyData.str x :: ps, okItem d
  okT : ∀ d ∈ PyData.str x :: ps, okT d
  noLs : ∀ d ∈ PyData.str x :: ps, noL d = true
  shaped : SeqAt.shaped (.tuple (.str x :: ps)) = true
  refl : PyData.eqv (.tuple (.str x :: ps)) (.tuple (.str x :: ps)) = true
theorem SDeed.facts {x : Str} {ps : List PyData} {ks : List Kd} (h : SDeed x ps ks) : DFacts x ps := by
  have hx : x.length ≤ 10 := (len12 _ _ (kds_mem h.word)).2
  have hc : ∀ c ∈ tl x, c < 1114112 := by
    have : words12.all (fun p => (tl p.1).all fun c => decide (c < 1114112)) = true := by decide +kernel
    have := List.all_eq_true.mp this _ (kds_mem h.word)
    exact fun c hc => of_decide_eq_true (List.all_eq_true.mp this c hc)
  have part : ∀ d ∈ ps, okItem d ∧ K75.okT d ∧ noL d = true ∧ d.canLay0 = true ∧ d.depth ≤ 1 := fun d hd => by
    obtain ⟨m, hm⟩ := List.mem_iff_getElem?.mp hd
    obtain ⟨k, hk⟩ : ∃ k, ks[m]? = some k := ⟨_, List.getElem?_eq_getElem (by rw [← allOk_len h.parts]; exact (List.getElem?_eq_some_iff.mp hm).1)⟩
    exact okK_facts (allOk_at h.parts hk hm)
  have all : ∀ d ∈ PyData.str x :: ps, okItem d ∧ K75.okT d ∧ noL d = true ∧ d.canLay0 = true ∧ d.depth ≤ 1 := fun d hd => by
    rcases List.mem_cons.mp hd with rfl | hd
    · exact ⟨(by show x.length ≤ 1000; omega), (by show x.length ≤ 1000; omega), rfl, (can_str hc).1, Nat.le_trans (can_str hc).2 (by decide)⟩
    · exact part d hd
  have sh := shaped_tup (n := 1) (by decide) fun d hd => (all d hd).2.2.2
  exact ⟨fun d hd => (all d hd).1, fun d hd => (all d hd).2.1, fun d hd => (all d hd).2.2.1, sh, SeqAt.eqv_refl _ (SeqAt.canLay_of_shaped sh)⟩
theorem ite_nes {a b : Str} {A B : Prop} (h : a = b) (hb : B) : if (!decide (V.str a = V.str b)) = true then A else B := by
  rw [h, decide_eq_true rfl]
  exact iteF hb
theorem joinL_snoc (S : List Nat) (z : List Nat) : ∀ {ws : List (List Nat)}, ws ≠ [] → TL.joinL S (ws ++ [z]) = TL.joinL S ws ++ (S ++ z)
  | [], h => absurd rfl h
  | [p], _ => rfl
  | p :: q :: r, _ => by
    have ih := joinL_snoc S z (ws := q :: r) (by simp)
    show p ++ (S ++ TL.joinL S ((q :: r) ++ [z])) = (p ++ (S ++ TL.joinL S (q :: r))) ++ (S ++ z)
    rw [ih, List.append_assoc, List.append_assoc]
/-- texts near a line -/
theorem near_t1 {x : Str} {ps : List PyData} {ks : List Kd} {T0 : Str} (h : SDeed x ps ks) (e : tl T0 = TL.joinL [32] (lineWs x ps)) : Near (T0 ++ (" " : Str)) := by
  have e32 : tl (" " : Str) = [32] := by decide +kernel
  have := near1 h (z := []) (by simp) (by simp)
  rw [joinL_snoc _ _ (by unfold lineWs; simp), List.append_nil] at this
  have q : T0 ++ (" " : Str) = SX.S (TL.joinL [32] (lineWs x ps) ++ [32]) := TL.ext_tl (show tl (T0 ++ (" " : Str)) = TL.joinL [32] (lineWs x ps) ++ [32] from by rw [tl_app, e, e32])
  rw [q]
  exact this
theorem near_t2 {x : Str} {ps : List PyData} {ks : List Kd} {T0 : Str} (h : SDeed x ps ks) (e : tl T0 = TL.joinL [32] (lineWs x ps)) : Near ((" " : Str) ++ T0) := by
  have e32 : tl (" " : Str) = [32] := by decide +kernel
  have := near2 h
  have q : (" " : Str) ++ T0 = SX.S (TL.joinL [32] ([] :: lineWs x ps)) := TL.ext_tl (show tl ((" " : Str) ++ T0) = TL.joinL [32] ([] :: lineWs x ps) from by rw [tl_app, e, e32]; rfl)
  rw [q]
  exact this
theorem near_t3 {x : Str} {ps : List PyData} {ks : List Kd} {T0 : Str} (h : SDeed x ps ks) (e : tl T0 = TL.joinL [32] (lineWs x ps)) : Near (T0 ++ (" 1" : Str)) := by
  have e32 : tl (" 1" : Str) = [32, 49] := by decide +kernel
  have := near1 h (z := [49]) (by simp) (by simp)
  rw [joinL_snoc _ _ (by unfold lineWs; simp)] at this
  have q : T0 ++ (" 1" : Str) = SX.S (TL.joinL [32] (lineWs x ps) ++ ([32] ++ [49])) := TL.ext_tl (show tl (T0 ++ (" 1" : Str)) = TL.joinL [32] (lineWs x ps) ++ ([32] ++ [49]) from by rw [tl_app, e, e32]; rfl)
  rw [q]
  exact this
theorem join_S32 (ws : List (List Nat)) : Txt.join (" " : Str) (ws.map SX.S) = SX.S (TL.joinL [32] ws) := by
  have e32 : (" " : Str) = SX.S [32] := by decide +kernel
  rw [e32]
  exact join_S' 32 ws
theorem join_size {ws : List (List Nat)} (h : ∀ z ∈ ws, z.length ≤ 300) (hl : ws.length ≤ 20) : ((ws.map SX.S).map (·.length)).sum + (ws.map SX.S).length * (" " : Str).length ≤ 16777216 := by
  have elen : (" " : Str).length = 1 := by decide +kernel
  have := sum_le (ws.map SX.S) 300 (by
    intro y hy
    obtain ⟨z, hz, rfl⟩ := List.mem_map.mp hy
    rw [SX.S_len]
    exact h z hz)
  rw [elen]
  rw [List.length_map] at this ⊢
  have h2 : ws.length * 300 ≤ 20 * 300 := Nat.mul_le_mul hl (Nat.le_refl _)
  omega
/-- words cut, as values -/
abbrev wv (W : List (List Nat)) : List V := (W.map SX.S).map V.str
theorem cT (W : List (List Nat)) (k : Nat) : cutV (wv W) none (some ((k : Nat) : Int)) = wv (W.take k) := by rw [cut_to, ← List.map_take, ← List.map_take]
theorem cD (W : List (List Nat)) (k : Nat) : cutV (wv W) (some ((k : Nat) : Int)) none = wv (W.drop k) := by rw [cut_from, ← List.map_drop, ← List.map_drop]
theorem cL (W : List (List Nat)) : cutV (wv W) none (some (-1)) = wv (W.take (W.length - 1)) := by rw [cut_last, ← List.map_take, ← List.map_take, List.length_map, List.length_map]
theorem in4 {x : Str} {ks : List Kd} (h : kds x = some ks) (hi : inV (.str x) [.str "make", .str "shift", .str "post", .str "put"] = true) : x = "make" ∨ x = "shift" ∨ x = "post" ∨ x = "put" := by
  have : words12.all (fun p => !(inV (.str p.1) [.str "make", .str "shift", .str "post", .str "put"]) || (decide (p.1 = "make") || (decide (p.1 = "shift") || (decide (p.1 = "post") || decide (p.1 = "put"))))) = true := by decide +kernel
  have := List.all_eq_true.mp this _ (kds_mem h)
  rw [hi, Bool.not_true, Bool.false_or, Bool.or_eq_true, Bool.or_eq_true, Bool.or_eq_true, decide_eq_true_eq, decide_eq_true_eq, decide_eq_true_eq, decide_eq_true_eq] at this
  exact this
theorem at_last {xs : List V} {v : V} (h : xs[xs.length - 1]? = some v) : atI xs (-1) = some v := by
  have hl : 1 ≤ xs.length := by
    cases xs with
    | nil => cases h
    | cons _ _ => simp
  unfold atI ixN
  rw [if_neg (by decide), if_pos (by omega)]
  have e : ((-1 : Int) + (xs.length : Int)).toNat = xs.length - 1 := by omega
  have e2 : ((xs.length : Int) + (-1 : Int)).toNat = xs.length - 1 := by omega
  first
    | (rw [e]; exact h)
    | (rw [e2]; exact h)
section
variable {P : Program} {w : World} {K : PySem.W.Frag} {mg : Str → Option Value} {base : Heap}
abbrev ns__law_deed_right : List Str := ["pool", "deed", "kinds", "places", "bent", "place", "thing", "index", "text", "part", "words", "near", "sign", "other"]
theorem sc69 : FnScope ["pool", "deed", "kinds", "places", "bent", "place", "thing", "index", "text", "part", "words", "near", "sign", "other"] ["pool", "deed"] (defScope (top 69)) := ⟨rfl, rfl, rfl, by decide +kernel, rfl, by decide +kernel, by decide +kernel⟩
def sp__law_deed_right (K : PySem.W.Frag) : Sp := fun vs H Q _ => ∃ p q v, vs = [.ref p, v] ∧ Pool H p q ∧ DeedAt K H v ∧ ∀ H', Fr p q H H' → Q (.bl true) H'
theorem d__law_deed_right (T : TxtX w K mg) : Def P w K mg base CX0 9 "_law_deed_right" ["pool", "deed"] (sp__law_deed_right K) := by
  obtain ⟨f, fd, F, m, b⟩ := T.a69
  refine ⟨f, fd, m, F.kp, b, F.ok sc69 (fun vs H Q E h => ?_) (fun cdv A outer s H vs Q E hr h => ?_)⟩
  · obtain ⟨p, q, v, rfl, _⟩ := h; rfl
  · have nd := sc69.nd
    have hu := hr.units
    have hu1 : (A.deeper (envOfC "_law_deed_right" (defScope (top 69)) s.heap.objs.size f cdv)).units + 1 < cLine := by omega
    obtain ⟨p, q, v, rfl, PL, ⟨x, ps, ks, hS, hv⟩, q1⟩ := h
    refine ⟨_, (pss_cons (ps_if (PW.pt (pw_or (pt_cmpR (op_neD hu) (pe_defX0 (d_made_storedeed T) (hr.mono (by decide)) (pa_cons (pv 1) pa_nil)) (pv 1) (nomark _)) (pw_or1 (pt_not (pt_val (pe_def (d__law_tells T) (hr.mono (by decide)) (pa_cons (pe_def (d_is_storedeed T.toTxt) (hr.mono (by decide)) (pa_cons (pv 1) pa_nil)) (pa_cons pe_bl pa_nil)))))))) (pss_one (ps_ret pe_bl)) pss_nil)
      (pss_cons (ps_set (i := 2) nd rfl (Or.inl rfl) (pe_def (d__law_kinds T) (hr.mono (by decide)) (pa_cons (pe_ix ix_tup (pv 1) pe_int (fun _ _ => rfl)) pa_nil)))
      (pss_cons (ps_set (i := 3) nd rfl (Or.inl rfl) (pe_callB cr_sorted (by rfl) T.b.sorted (by decide +kernel) (pa_cons (pe_lst (pa_cons (pe_op op_add pe_int (pe_def (d__law_draw T) (hr.mono (by decide)) (pa_cons (pv 0) (pa_cons (pe_callB call_len (by rfl) T.b.len (by decide +kernel) (pa_cons (pv 2) pa_nil)) pa_nil)))) (pa_cons (pe_op op_add pe_int (pe_def (d__law_draw T) (hr.mono (by decide)) (pa_cons (pv 0) (pa_cons (pe_callB call_len (by rfl) T.b.len (by decide +kernel) (pa_cons (pv 2) pa_nil)) pa_nil)))) pa_nil))) pa_nil)))
      (pss_cons (ps_set (i := 4) nd rfl (Or.inl rfl) (pv 1))
      (pss_cons (ps_for PassesOwn.never rfl (pi_list (pv 3)) (pg_name (i := 5) nd rfl (Or.inl rfl)) (pss_one (ps_set (i := 4) nd rfl (Or.inl rfl) (pe_op op_catA (pe_op op_catA (pe_slice sl_tupA (pv 4) po_none (po_some (pv 5))) (pe_tup (pa_cons (pe_def (d__law_bad T) (hr.mono (by decide)) (pa_cons (pv 0) (pa_cons (pe_ix ix_list (pv 2) (pe_op op_sub (pv 5) pe_int) (fun _ _ => rfl)) pa_nil))) pa_nil))) (pe_slice sl_tupA (pv 4) (po_some (pe_op op_add (pv 5) pe_int)) po_none)))))
      (pss_cons (ps_for PassesOwn.never rfl (pi_list (pe_lst (pa_cons (pe_tup (pa_cons (pv 4) (pa_cons (pe_ix ix_list (pv 3) pe_int (fun _ _ => rfl)) pa_nil))) (pa_cons (pe_tup (pa_cons (pe_op op_catA (pv 1) (pe_tup (pa_cons pe_int pa_nil))) (pa_cons pe_int pa_nil))) (pa_cons (pe_tup (pa_cons (pe_slice sl_tupA (pv 1) po_none (po_some (pe_un un_neg pe_int))) (pa_cons pe_int pa_nil))) (pa_cons (pe_tup (pa_cons (pe_op op_catA (pe_tup (pa_cons pe_str pa_nil)) (pe_slice sl_tupA (pv 1) (po_some pe_int) po_none)) (pa_cons pe_int pa_nil))) pa_nil)))))) (pg_tup rfl (pgs_cons (pg_name (i := 6) nd rfl (Or.inl rfl)) (pgs_cons (pg_name (i := 7) nd rfl (Or.inl rfl)) pgs_nil))) (pss_one (ps_if (pt_not (pt_val (pe_def (d__law_refused T) (hr.mono (by decide)) (pa_cons (pv 6) (pa_cons (pv 7) pa_nil))))) (pss_one (ps_ret pe_bl)) pss_nil)))
      (pss_cons (ps_set (i := 8) nd rfl (Or.inl rfl) (pe_join pe_str (pe_lc (own := [("part", 9)]) (g := (gName 9)) (tt := tYes) rfl nd (pi_tup (pv 1)) (blkOk_by (own := [("part", 9)]) (N := ns__law_deed_right) (sc := defScope (top 69)) (by decide +kernel)) (fun _ _ _ _ _ => (pg_name (i := 9) nd rfl (Or.inl rfl))) (fun _ _ _ _ _ => pts_nil) (fun _ _ _ _ _ => (pe_def (d__law_part_text T) (hr.mono (by decide)) (pa_cons (pv 9) pa_nil))))))
      (pss_cons (ps_if (PW.pt (pw_or (pt_cmpR op_ne (pe_def (d_storedeed_text T.toTxt) (hr.mono (by decide)) (pa_cons (pv 1) pa_nil)) (pv 8) (nomark _)) (pw_or1 (pt_cmpR (op_neD hu) (pe_defX0 (d_read_storedeed T) (hr.mono (by decide)) (pa_cons (pv 8) pa_nil)) (pv 1) (nomark _))))) (pss_one (ps_ret pe_bl)) pss_nil)
      (pss_cons (ps_set (i := 10) nd rfl (Or.inr rfl) (pe_split (pv 8) pe_str))
      (pss_cons (ps_set (i := 5) nd rfl (Or.inl rfl) (pe_op op_add pe_int (pe_def (d__law_draw T) (hr.mono (by decide)) (pa_cons (pv 0) (pa_cons (pe_op op_sub (pe_callB call_len (by rfl) T.b.len (by decide +kernel) (pa_cons (pv 10) pa_nil)) pe_int) pa_nil)))))
      (pss_cons (ps_set (i := 11) nd rfl (Or.inl rfl) (pe_lst (pa_cons (pe_op op_add_str (pv 8) pe_str) (pa_cons (pe_op op_add_str pe_str (pv 8)) (pa_cons (pe_op op_add_str (pv 8) pe_str) (pa_cons (pe_join pe_str (pe_slice (sl_listK (K := K) rfl) (pv 10) po_none (po_some (pe_un un_neg pe_int)))) (pa_cons (pe_join pe_str (pe_op op_cat (pe_op op_cat (pe_slice sl_list (pv 10) po_none (po_some (pv 5))) (pe_lst (pa_cons pe_str pa_nil))) (pe_slice sl_list (pv 10) (po_some (pv 5)) po_none))) pa_nil)))))))
      (pss_cons (ps_expr (pe_bm PySem.F.plainAttrs_list PySem.F.slot_list_append PySem.F.type_list_append mt_append (pv 11) (pa_cons (pe_join pe_str (pe_op op_cat (pe_op op_cat (pe_slice sl_list (pv 10) po_none (po_some (pv 5))) (pe_lst (pa_cons (pe_op op_add_str pe_str (pe_ix ix_list (pv 10) (pv 5) (fun _ _ => rfl))) pa_nil))) (pe_slice sl_list (pv 10) (po_some (pe_op op_add (pv 5) pe_int)) po_none))) pa_nil)))
      (pss_cons (ps_if (pt_cmpR op_in_seq (pe_ix ix_tup (pv 1) pe_int (fun _ _ => rfl)) (pe_lst (pa_cons pe_str (pa_cons pe_str (pa_cons pe_str (pa_cons pe_str pa_nil))))) rfl) (pss_one (ps_set (i := 11) nd rfl (Or.inl rfl) (pe_op op_cat (pv 11) (pe_lc (own := [("sign", 12)]) (g := (gName 12)) (tt := tYes) rfl nd (pi_list (pe_lst (pa_cons pe_str (pa_cons pe_str (pa_cons pe_str pa_nil))))) (blkOk_by (own := [("sign", 12)]) (N := ns__law_deed_right) (sc := defScope (top 69)) (by decide +kernel)) (fun _ _ _ _ _ => (pg_name (i := 12) nd rfl (Or.inl rfl))) (fun _ _ _ _ _ => pts_nil) (fun _ _ _ _ _ => by exact (pe_joinK (K := K) rfl pe_str (pe_op op_cat (pe_slice (sl_listK (K := K) rfl) (pv 10) po_none (po_some (pe_un un_neg pe_int))) (pe_lst (pa_cons (pe_op op_add_str (pv 12) (pe_ix (ix_listK (K := K) rfl) (pv 10) (pe_un un_neg pe_int) (fun _ _ => rfl))) pa_nil))))))))) pss_nil)
      (pss_one (ps_ret (pe_cmpR (op_eqD hu) (pe_lc (own := [("other", 13)]) (g := (gName 13)) (tt := _) rfl nd (pi_list (pv 11)) (blkOk_by (own := [("other", 13)]) (N := ns__law_deed_right) (sc := defScope (top 69)) (by decide +kernel)) (fun _ _ _ _ _ => (pg_name (i := 13) nd rfl (Or.inl rfl))) (fun _ _ _ _ _ => (pts_one (pt_not (pt_val (pe_def (d__law_unread T) (hr.mono (by decide)) (pa_cons (pv 13) pa_nil)))))) (fun _ _ _ _ _ => (pv 13))) (pe_lst pa_nil) (nomark _))))))))))))))))), ?_⟩
    have DF := hS.facts
    obtain ⟨n1, n7, nk⟩ := hS.n7
    have hfb : firstBad (.tuple (.str x :: ps)) = -1 := hS.good
    have okd : okF (.tuple (.str x :: ps)) := ⟨DF.okT, fun w' ps' e => .inl (by rw [← (PyData.str.inj (List.cons.inj e).1), hS.word]; exact Option.some_ne_none _)⟩
    have nLs : noL (.tuple (.str x :: ps)) = true := noLs_items _ DF.noLs
    obtain ⟨da, dvs, rfl, hsq, hdps⟩ : ∃ da dvs, v = .ref da ∧ SqT K H da (.str x :: dvs) ∧ DpAll K H dvs ps := by
      cases hv with
      | tup hs ha =>
        cases ha with
        | cons a b =>
          cases a
          exact ⟨_, _, rfl, hs, b⟩
    have hdl : dvs.length = ps.length := dpAll_len hdps
    refine ⟨_, rfl, .ref da, _, rfl, hv, okd, fun _ H1 s1 => ?_, fun hn => by rw [hfb] at hn; exact absurd hn (by decide)⟩
    have hv1 := dp_same s1 hv
    refine ⟨_, rfl, _, _, hv1, hv1, DF.shaped, DF.shaped, _, rfl, ?_⟩
    rw [DF.refl]
    refine iteF ⟨_, rfl, .ref da, _, rfl, hv1, okd, fun H2 s2 => ?_⟩
    rw [hfb]
    refine ⟨_, _, rfl, _, rfl, iteF ?_⟩
    have s12 := s1.trans s2
    -- the kinds
    refine ⟨_, rfl, da, _, 0, .str x, rfl, rfl, Same.sqT s12 hsq, at_of (j := 0) rfl rfl, x, ks, rfl, hS.word, fun kp H3 hkp s3 hkl => ?_⟩
    have F3 : Fr p q H H3 := .of_same PL (s12.trans s3)
    have PL2 := PL.same s12
    have kpp := PL2.p_ne hkp
    have kpq := PL2.q_ne hkp
    have hkn : ((ks.map kl).map V.str).length = ks.length := by rw [List.length_map, List.length_map]
    -- the places
    refine ⟨_, rfl, _, rfl, _, _, rfl, .inl ⟨_, .of hkl, hkn.symm⟩, p, q, _, rfl, F3.pool, by omega, by omega, fun d1 H4 h0 h1 F4 => ⟨_, _, rfl, rfl, ?_⟩⟩
    have hkl4 := F4.keep _ _ kpp kpq hkl
    refine ⟨_, rfl, _, rfl, _, _, rfl, .inl ⟨_, .of hkl4, hkn.symm⟩, p, q, _, rfl, F4.pool, by omega, by omega, fun d2 H5 h2 h3 F5 => ⟨_, _, rfl, rfl, ?_⟩⟩
    have hkl5 := F5.keep _ _ kpp kpq hkl4
    have F35 := F3.trans (F4.trans F5)
    refine ⟨(by show 2 ≤ 16777216; decide), fun l1 hl1 => ?_⟩
    refine ⟨l1, [1 + d1, 1 + d2], rfl, .of upd_same, by show 2 < 64; decide, fun js l2 hp hsrt hl2 => ?_⟩
    obtain ⟨y1, y2, rfl⟩ : ∃ y1 y2, js = [y1, y2] := by
      match js, hp.length_eq with
      | [y1, y2], _ => exact ⟨y1, y2, rfl⟩
    have hle : y1 ≤ y2 := by
      have := (List.pairwise_cons.mp hsrt).1 y2 (by simp)
      exact this
    have hym : ∀ y ∈ [y1, y2], 1 ≤ y ∧ y ≤ (ks.length : Int) := by
      intro y hy
      rcases List.mem_cons.mp (hp.mem_iff.mp hy) with rfl | z
      · omega
      · rw [List.mem_singleton.mp z]
        omega
    obtain ⟨j1, rfl⟩ : ∃ j1 : Nat, y1 = ((j1 + 1 : Nat) : Int) := ⟨(y1 - 1).toNat, by have := hym y1 (by simp); omega⟩
    obtain ⟨j2, rfl⟩ : ∃ j2 : Nat, y2 = ((j2 + 1 : Nat) : Int) := ⟨(y2 - 1).toNat, by have := hym y2 (by simp); omega⟩
    have hj2 : j2 < ks.length := by have := (hym ((j2 + 1 : Nat) : Int) (by simp)).2; omega
    have hj12 : j1 ≤ j2 := by omega
    have F6 : Fr p q H (upd (upd H5 l1 (.lst [.int (1 + d1), .int (1 + d2)])) l2 (.lst [.int ((j1 + 1 : Nat) : Int), .int ((j2 + 1 : Nat) : Int)])) := (F35.more (same_upd hl1)).more (same_upd hl2)
    have F56 : Same H5 (upd (upd H5 l1 (.lst [.int (1 + d1), .int (1 + d2)])) l2 (.lst [.int ((j1 + 1 : Nat) : Int), .int ((j2 + 1 : Nat) : Int)])) := (same_upd hl1).trans (same_upd hl2)
    have hpl2 : (upd (upd H5 l1 (.lst [.int (1 + d1), .int (1 + d2)])) l2 (.lst [.int ((j1 + 1 : Nat) : Int), .int ((j2 + 1 : Nat) : Int)])) l2 = some (.lst [.int ((j1 + 1 : Nat) : Int), .int ((j2 + 1 : Nat) : Int)]) := upd_same
    have l2p := (F35.more (same_upd (o := .lst [.int (1 + d1), .int (1 + d2)]) hl1)).pool.p_ne hl2
    have l2q := (F35.more (same_upd (o := .lst [.int (1 + d1), .int (1 + d2)]) hl1)).pool.q_ne hl2
    have hkl6 := F56 _ _ hkl5
    clear hkl5 hkl4 hkl
    have hv6 : Dp K (upd (upd H5 l1 (.lst [.int (1 + d1), .int (1 + d2)])) l2 (.lst [.int ((j1 + 1 : Nat) : Int), .int ((j2 + 1 : Nat) : Int)])) (.ref da) (.tuple (.str x :: ps)) := F6.dp PL nLs hv
    generalize hH6 : upd (upd H5 l1 (.lst [.int (1 + d1), .int (1 + d2)])) l2 (.lst [.int ((j1 + 1 : Nat) : Int), .int ((j2 + 1 : Nat) : Int)]) = H6 at F6 F56 hpl2 hkl6 hv6
    have hH6' : upd (upd H5 l1 (HO.lst [V.int (1 + d1), V.int (1 + d2)])) l2 (HO.lst (List.map V.int [((j1 + 1 : Nat) : Int), ((j2 + 1 : Nat) : Int)])) = H6 := hH6
    rw [hH6']
    have sq6 := F6.sqT PL hsq
    have dp6 := F6.dpAll PL (noLs_items _ fun d hd => DF.noLs d (List.mem_cons_of_mem _ hd)) hdps
    have P6 := F6.pool
    refine ⟨_, rfl, _, rfl, l2, rfl, ⟨_, .of hpl2⟩, ?_⟩
    refine for_list (K := K) (a := l2) (xs := [.int ((j1 + 1 : Nat) : Int), .int ((j2 + 1 : Nat) : Int)]) (fun i σ H' => ∃ u b bs ds, σ = [some (.ref p), some (.ref da), some (.ref kp), some (.ref l2), some (.ref b), u, none, none, none, none, none, none, none, none] ∧ Fr p q H6 H' ∧ SqT K H' b (.str x :: bs) ∧ DpAll K H' bs ds ∧ Bent ps ks j1 ds ∧
      (1 ≤ i → ∃ k d, ks[j1]? = some k ∧ ds[j1]? = some d ∧ okK k d = false)) ⟨none, da, dvs, ps, rfl, .refl P6, sq6, dp6, ⟨nk, fun _ _ => rfl, fun d hd => DF.okT d (List.mem_cons_of_mem _ hd), fun d hd => DF.noLs d (List.mem_cons_of_mem _ hd)⟩, fun h => absurd h (by decide)⟩ (fun i σ H' _ ⟨_, _, _, _, _, F, _⟩ => .of (F.keep _ _ l2p l2q hpl2)) ?_ ?_
    · rintro i y σ H7 hy ⟨u, b, bs, ds, rfl, F7, hsb, hdb, hB, hbad⟩
      obtain ⟨j, rfl, hjn, hj1, hji⟩ : ∃ j : Nat, y = .int ((j + 1 : Nat) : Int) ∧ j < ks.length ∧ j1 ≤ j ∧ (j = j1 ∨ (j1 < j ∧ 1 ≤ i)) := by
        match i, hy with
        | 0, hy => exact ⟨j1, (Option.some.inj hy).symm, by omega, Nat.le_refl _, .inl rfl⟩
        | 1, hy => exact ⟨j2, (Option.some.inj hy).symm, hj2, hj12, by omega⟩
      have hdbl : bs.length = ds.length := dpAll_len hdb
      have hBl := hB.len
      obtain ⟨k, hk⟩ : ∃ k, ks[j]? = some k := ⟨_, List.getElem?_eq_getElem hjn⟩
      have hkl7 := F7.keep _ _ kpp kpq hkl6
      refine ⟨_, rfl, _, rfl, _, rfl, slA_mk hsb fun H8 t1 s8 h8 => ?_⟩
      have F8 := F7.more s8
      refine ⟨_, rfl, _, rfl, _, rfl, _, _, rfl, rfl, kp, _, ((j : Nat) : Int), .str (kl k), rfl, ?_, .of (s8 _ _ hkl7), at_of (j := j) rfl (by rw [List.getElem?_map, List.getElem?_map, hk]; rfl), p, q, k, rfl, F8.pool, fun bv bd H9 b1 b2 b3 b4 F9 => ?_⟩
      · show V.int (((j + 1 : Nat) : Int) - 1) = V.int ((j : Nat) : Int)
        exact congrArg V.int (by omega)
      have F89 := F8.trans F9
      refine ⟨(by show 1 ≤ 16777216; decide), fun t2 ht2 => ?_⟩
      have e1 : cutV (.str x :: bs) none (some ((j + 1 : Nat) : Int)) = .str x :: bs.take j := by rw [cut_to]; rfl
      have h8' := h8
      rw [e1] at h8'
      have h9 : SqT K H9 t1 (.str x :: bs.take j) := F9.sqT F8.pool h8'
      have h9' := Same.sqT (same_upd (o := .tup [bv]) ht2) h9
      refine catA_mk (xs := .str x :: bs.take j) (ys := [bv]) h9' (.inl (.inl upd_same)) (by rw [List.length_cons, List.length_take]; show _ + 1 ≤ 1000; omega) fun H10 c s10 h10 => ?_
      have F10 := (F89.more (same_upd (o := .tup [bv]) ht2)).more s10
      have hsb10 : SqT K H10 b (.str x :: bs) := by
        exact Same.sqT (((same_upd (o := .tup [bv]) ht2)).trans s10) (F9.sqT F8.pool (Same.sqT s8 hsb))
      refine ⟨_, rfl, _, rfl, _, _, rfl, rfl, ((j + 2 : Nat) : Int), rfl, ?_⟩
      refine noP ?_
      refine slA_mk hsb10 fun H11 t4 s11 h11 => ?_
      have e2 : cutV (.str x :: bs) (some ((j + 2 : Nat) : Int)) none = bs.drop (j + 1) := by rw [cut_from]; rfl
      rw [e2] at h11
      refine catA_mk (xs := (.str x :: bs.take j) ++ [bv]) (ys := bs.drop (j + 1)) (Same.sqT s11 h10) h11 (by rw [List.length_append, List.length_cons, List.length_take, List.length_drop]; show _ + 1 + _ ≤ 1000; omega) fun H12 t5 s12 h12 => ?_
      have F12 := (F10.more s11).more s12
      refine ⟨_, t5, bs.take j ++ [bv] ++ bs.drop (j + 1), ds.take j ++ [bd] ++ ds.drop (j + 1), rfl, F12, h12, ?_, hB.put hjn hj1 b2 b3, fun _ => ?_⟩
      · have s912 : Same H9 H12 := (((same_upd (o := .tup [bv]) ht2).trans s10).trans s11).trans s12
        have nd1 : noL.noLs ds = true := noLs_items _ hB.noL
        have d12 : DpAll K H12 bs ds := dpAll_same s912 (F9.dpAll F8.pool nd1 (dpAll_same s8 hdb))
        exact dpAll_app (dpAll_app (dpAll_take j d12) (.cons (dp_same s912 b4) .nil)) (dpAll_drop (j + 1) d12)
      · rcases hji with rfl | ⟨h1, h2⟩
        · exact ⟨k, bd, hk, put_get (by omega), b1⟩
        · obtain ⟨k', d', e3, e4, e5⟩ := hbad h2
          exact ⟨k', d', e3, by rw [put_get_ne (by omega) h1]; exact e4, e5⟩
    · rintro σ H7 ⟨u, b, bs, ds, rfl, F7, hsb, hdb, hB, hbad⟩
      obtain ⟨k0, d0, hk0, hd0, hbad0⟩ := hbad (by show 1 ≤ 2; decide)
      have hfirst := Bent.first hS hB hk0 hd0 hbad0
      have F67 := F6.trans F7
      clear hbad
      have sq7 := F67.sqT PL hsq
      have dp7 := F67.dpAll PL (noLs_items _ fun d hd => DF.noLs d (List.mem_cons_of_mem _ hd)) hdps
      have hpl7 := F7.keep _ _ l2p l2q hpl2
      have okx : ∀ {ds' : List PyData}, (∀ d ∈ ds', okT d) → okF (.tuple (.str x :: ds')) := fun {ds'} h => ⟨fun e he => by
        rcases List.mem_cons.mp he with rfl | he
        · exact DF.okT _ (List.mem_cons_self ..)
        · exact h e he, fun w' ps' e => .inl (by rw [← (PyData.str.inj (List.cons.inj e).1), hS.word]; exact Option.some_ne_none _)⟩
      have okps : ∀ d ∈ ps, okT d := fun d hd => DF.okT d (List.mem_cons_of_mem _ hd)
      have dall : DpAll K H7 (.str x :: dvs) (.str x :: ps) := .cons (.str x) dp7
      refine ⟨_, rfl, _, rfl, l2, _, 0, .int ((j1 + 1 : Nat) : Int), rfl, rfl, .of hpl7, at_of (j := 0) rfl rfl, (by show 2 ≤ 16777216; decide), fun a1 ha1 => ?_⟩
      have z1 := same_upd (o := .tup [.ref b, .int ((j1 + 1 : Nat) : Int)]) ha1
      refine ⟨_, rfl, (by show 1 ≤ 16777216; decide), fun b1 hb1 => ?_⟩
      have z2 := z1.trans (same_upd (o := .tup [.int 1]) hb1)
      refine catA_mk (xs := .str x :: dvs) (ys := [.int 1]) (Same.sqT z2 sq7) (.inl (.inl upd_same)) (by rw [List.length_cons]; show _ + 1 + 1 ≤ 1000; omega) fun G1 c1 s1 hc1 => ⟨(by show 2 ≤ 16777216; decide), fun a2 ha2 => ?_⟩
      have w1 := same_upd (o := .tup [.ref c1, .int 0]) ha2
      have z3 := (z2.trans s1).trans w1
      refine ⟨_, rfl, _, rfl, _, rfl, slA_mk (Same.sqT z3 sq7) fun G2 c2 s2 hc2 => ⟨(by show 2 ≤ 16777216; decide), fun a3 ha3 => ?_⟩⟩
      have w2 := same_upd (o := .tup [.ref c2, .int 0]) ha3
      have z4 := (z3.trans s2).trans w2
      refine ⟨(by show 1 ≤ 16777216; decide), fun b2 hb2 => ?_⟩
      have z5 := z4.trans (same_upd (o := .tup [.str "mak"]) hb2)
      refine ⟨_, rfl, 1, rfl, ?_⟩
      refine noP ?_
      refine slA_mk (Same.sqT z5 sq7) fun G3 c3 s3 hc3 => ?_
      have z6 := z5.trans s3
      have m1 : SqT K G3 b2 [.str "mak"] := Same.sqT s3 (.inl (.inl upd_same))
      have e3 : cutV (.str x :: dvs) (some 1) none = dvs := by rw [cut_1]; rfl
      rw [e3] at hc3
      refine catA_mk (xs := [.str "mak"]) (ys := dvs) m1 hc3 (by show 1 + _ ≤ 1000; omega) fun G4 c4 s4 hc4 => ⟨(by show 2 ≤ 16777216; decide), fun a4 ha4 => ?_⟩
      have w4 := same_upd (o := .tup [.ref c4, .int 0]) ha4
      have z7 := (z6.trans s4).trans w4
      refine ⟨(by show 4 ≤ 16777216; decide), fun l3 hl3 => ⟨l3, rfl, ⟨_, .of upd_same⟩, ?_⟩⟩
      have w5 := same_upd (o := .lst [.ref a1, .ref a2, .ref a3, .ref a4]) hl3
      have z8 := z7.trans w5
      have e2 : cutV (.str x :: dvs) none (some (-1)) = (.str x :: dvs).take ps.length := by rw [cut_last, List.length_cons, hdl]; rfl
      have hc2' : SqT K G2 c2 ((V.str x :: dvs).take ps.length) := by
        have hc2a : SqT K G2 c2 (cutV (.str x :: dvs) none (some (-1))) := hc2
        rw [e2] at hc2a
        exact hc2a
      have from2 : Same G2 (upd (upd G4 a4 (.tup [.ref c4, .int 0])) l3 (.lst [.ref a1, .ref a2, .ref a3, .ref a4])) := ((((w2.trans (same_upd (o := .tup [.str "mak"]) hb2)).trans s3).trans s4).trans w4).trans w5
      have from1 : Same G1 (upd (upd G4 a4 (.tup [.ref c4, .int 0])) l3 (.lst [.ref a1, .ref a2, .ref a3, .ref a4])) := (w1.trans s2).trans from2
      have El : ∀ y ∈ [V.ref a1, V.ref a2, V.ref a3, V.ref a4], ∃ a v d i, y = .ref a ∧ SqT K (upd (upd G4 a4 (.tup [.ref c4, .int 0])) l3 (.lst [.ref a1, .ref a2, .ref a3, .ref a4])) a [v, .int i] ∧ Dp K (upd (upd G4 a4 (.tup [.ref c4, .int 0])) l3 (.lst [.ref a1, .ref a2, .ref a3, .ref a4])) v d ∧ okF d ∧ 0 ≤ i ∧ firstBad d = i := by
        intro y hy
        simp only [List.mem_cons, List.not_mem_nil, or_false] at hy
        rcases hy with rfl | rfl | rfl | rfl
        · refine ⟨a1, .ref b, .tuple (.str x :: ds), ((j1 + 1 : Nat) : Int), rfl, Same.sqT (((((((same_upd hb1).trans s1).trans w1).trans s2).trans from2))) (.inl (.inl upd_same)), dp_same z8 (.tup hsb (.cons (.str x) hdb)), okx hB.okT, by omega, hfirst⟩
        · refine ⟨a2, .ref c1, .tuple (.str x :: (ps ++ [PyData.int 1])), 0, rfl, Same.sqT (s2.trans from2) (.inl (.inl upd_same)), dp_same from1 (.tup hc1 (dpAll_same (z2.trans s1) (show DpAll K H7 (V.str x :: dvs ++ [V.int 1]) (PyData.str x :: (ps ++ [PyData.int 1])) from dpAll_app dall (.cons (.int 1) .nil)))), okx (fun d hd => ?_), by decide, first_more hS _⟩
          rcases List.mem_append.mp hd with a | a
          · exact okps d a
          · rw [List.mem_singleton.mp a]
            exact trivial
        · refine ⟨a3, .ref c2, .tuple ((.str x :: ps).take ps.length), 0, rfl, Same.sqT (((((same_upd (o := .tup [.str "mak"]) hb2).trans s3).trans s4).trans w4).trans w5) (.inl (.inl upd_same)), dp_same from2 (.tup hc2' (dpAll_same (z3.trans s2) (dpAll_take _ dall))), ?_, by decide, first_less hS⟩
          obtain ⟨n, hn⟩ : ∃ n, ps.length = n + 1 := ⟨ps.length - 1, by omega⟩
          rw [hn]
          exact okx fun d hd => okps d (List.mem_of_mem_take hd)
        · refine ⟨a4, .ref c4, .tuple (.str "mak" :: ps), 0, rfl, Same.sqT w5 (.inl (.inl upd_same)), dp_same (w4.trans w5) (.tup hc4 (.cons (.str "mak") (dpAll_same (z6.trans s4) dp7))), ⟨fun e he => ?_, fun w' ps' e => .inr (PyData.str.inj (List.cons.inj e).1).symm⟩, by decide, first_mak ps⟩
          rcases List.mem_cons.mp he with rfl | he
          · show ("mak" : Str).length ≤ 1000
            decide +kernel
          · exact okps e he
      have FG := F67.more z8
      have hl3' : (upd (upd G4 a4 (.tup [.ref c4, .int 0])) l3 (.lst [.ref a1, .ref a2, .ref a3, .ref a4])) l3 = some (.lst [.ref a1, .ref a2, .ref a3, .ref a4]) := upd_same
      generalize hG : (upd (upd G4 a4 (.tup [.ref c4, .int 0])) l3 (.lst [.ref a1, .ref a2, .ref a3, .ref a4])) = G at El FG hl3'
      refine for_list (K := K) (a := l3) (xs := [.ref a1, .ref a2, .ref a3, .ref a4]) (fun i σ H' => ∃ u1 u2 u3, σ = [some (.ref p), some (.ref da), some (.ref kp), some (.ref l2), some (.ref b), u1, u2, u3, none, none, none, none, none, none] ∧ Same G H') ⟨_, _, _, rfl, Same.refl _⟩ (fun i σ H' _ ⟨_, _, _, _, s⟩ => .of (s _ _ hl3')) ?_ ?_
      · rintro i y σ H8 hy ⟨u1, u2, u3, rfl, s8⟩
        obtain ⟨a, v, d, idx, rfl, e1, e2, e3, e4, e5⟩ := El y (List.mem_of_getElem? hy)
        refine ⟨a, _, rfl, Same.sqT s8 e1, rfl, _, _, rfl, _, _, rfl, rfl, ?_⟩
        exact ⟨_, rfl, _, rfl, v, d, idx, rfl, dp_same s8 e2, e3, e4, e5, fun H9 s9 => ⟨_, rfl, iteF ⟨_, _, _, rfl, s8.trans s9⟩⟩⟩
      · rintro σ H8 ⟨u1, u2, u3, rfl, s8⟩
        have F8 := FG.more s8
        clear El hG hl3' z1 z2 z3 z4 z5 z6 z7 z8 w1 w2 w4 w5 from1 from2 e2 e3 hc1 hc2 hc2' hc3 hc4 m1
        have sq8 := F8.sqT PL hsq
        have dp8 := F8.dp PL nLs hv
        have dall8 : DpAll K H8 (.str x :: dvs) (.str x :: ps) := .cons (.str x) (F8.dpAll PL (noLs_items _ fun d hd => DF.noLs d (List.mem_cons_of_mem _ hd)) hdps)
        have e32 : (" " : Str) = SX.S [32] := by decide +kernel
        have elen : (" " : Str).length = 1 := by decide +kernel
        refine ⟨⟨_, rfl⟩, _, rfl, da, rfl, ⟨_, sq8⟩, fun D hD => ?_⟩
        refine lc_tup (K := K) (a := da) (xs := .str x :: dvs) (fun i H' => Same H8 H' ∧ H' D = some (.lst (((PyData.str x :: ps).take i).map fun n => V.str (SX.S (itx n))))) ⟨same_upd hD, upd_same⟩ (fun i H' _ ⟨s1, _⟩ => Same.sqT s1 sq8) ?_ ?_
        · rintro i y H9 hy ⟨s9, hA⟩
          have hi : i < (PyData.str x :: ps).length := by
            have := (List.getElem?_eq_some_iff.mp hy).1
            rw [List.length_cons] at this ⊢
            omega
          obtain ⟨d, hd⟩ : ∃ d, (PyData.str x :: ps)[i]? = some d := ⟨_, List.getElem?_eq_getElem hi⟩
          obtain ⟨y', hy', hyd⟩ := dpAll_get dall8 hd
          rw [hy] at hy'
          cases hy'
          have hm := List.mem_of_getElem? hd
          refine ⟨rfl, ?_⟩
          refine ⟨_, rfl, y, d, rfl, dp_same s9 hyd, DF.item d hm, fun H10 s10 => ⟨_, s10 _ _ hA, ?_, same_upd2 (s9.trans s10) hD, ?_⟩⟩
          · rw [List.length_map, List.length_take, List.length_cons]
            show _ < 16777216
            omega
          · rw [upd_same, take_more hd, List.map_append]
            rfl
        · rintro H9 ⟨s9, hA⟩
          have hxl : (V.str x :: dvs).length = (PyData.str x :: ps).length := by rw [List.length_cons, List.length_cons, hdl]
          rw [hxl, List.take_length] at hA
          have hsum := sum_le ((PyData.str x :: ps).map fun n => SX.S (itx n)) 1000 (by
            intro y hy
            obtain ⟨n, hm, rfl⟩ := List.mem_map.mp hy
            rw [SX.S_len]
            exact itx_len (DF.item n hm))
          refine ⟨" ", D, (PyData.str x :: ps).map fun n => SX.S (itx n), rfl, rfl, .inl (.of (by rw [hA, List.map_map]; rfl)), ?_, ?_⟩
          · rw [List.length_map, List.length_cons] at hsum ⊢
            rw [elen]
            omega
          · have eT : Txt.join " " ((PyData.str x :: ps).map fun n => SX.S (itx n)) = SX.S (TL.joinL [32] (lineWs x ps)) := by
              rw [e32]
              have := join_S' 32 ((PyData.str x :: ps).map itx)
              rw [List.map_map] at this
              exact this
            rw [eT]
            generalize hT : SX.S (TL.joinL [32] (lineWs x ps)) = T0
            have F9 := F8.more s9
            have sq9 := Same.sqT s9 sq8
            have dp9 := dp_same s9 dp8
            have htlT : tl T0 = TL.joinL [32] (lineWs x ps) := by rw [← hT]
            have eSp : TL.spl [32] 0 [] (tl T0) = lineWs x ps := by rw [htlT]; exact TL.spl_join (by unfold lineWs; simp) (lineWs_free hS)
            have hTl : T0.length ≤ 2000 := by
              rw [← hT, SX.S_len]
              have := joinL_len [32] (lineWs x ps) 100 (lineWs_len hS)
              have l0 : (lineWs x ps).length = ps.length + 1 := by unfold lineWs; rw [List.length_cons, List.length_map]
              rw [l0, List.length_singleton] at this
              have h8 : (ps.length + 1) * (100 + 1) ≤ 8 * 101 := Nat.mul_le_mul (by omega) (by omega)
              omega
            have hwl : (lineWs x ps).length = ps.length + 1 := by unfold lineWs; rw [List.length_cons, List.length_map]
            refine ⟨_, rfl, .ref da, _, rfl, dp9, by rw [List.length_cons]; omega, DF.item, fun H10 s10 => ⟨_, rfl, rfl, _, rfl, ite_nes hT ?_⟩⟩
            refine ⟨_, rfl, T0, rfl, by omega, (by rw [eSp]; exact fun z hz => Nat.le_trans (lineWs_len hS z hz) (by decide)), (by rw [eSp]; rintro h t e; rw [← (List.cons.inj e).1]; exact .inl (by rw [hS.kS]; exact Option.some_ne_none _)), (fun d hd H11 v11 s11 hv11 => ?_), (fun hn => by rw [eSp, read_line hS] at hn; cases hn)⟩
            rw [eSp, read_line hS] at hd
            cases hd
            have F11 := (F9.more s10).more s11
            have s911 := s10.trans s11
            refine ⟨_, rfl, _, _, hv11, dp_same s911 dp9, DF.shaped, DF.shaped, _, rfl, ?_⟩
            rw [DF.refl]
            refine iteF ?_
            have eW : Txt.split T0 " " = (lineWs x ps).map SX.S := by rw [e32, split_S' (by decide), eSp]
            refine ⟨_, rfl, ⟨_, rfl⟩, T0, " ", rfl, rfl, by decide +kernel, by show T0.length + 2 ≤ 16777216; omega, fun wl hwl1 => ?_⟩
            rw [eW]
            have F12 := F11.more (same_upd (o := .lst (((lineWs x ps).map SX.S).map V.str)) hwl1)
            have wlp := F11.pool.p_ne hwl1
            have wlq := F11.pool.q_ne hwl1
            have hw12 : upd H11 wl (.lst (((lineWs x ps).map SX.S).map V.str)) wl = some (.lst (((lineWs x ps).map SX.S).map V.str)) := upd_same
            generalize upd H11 wl (HO.lst (((lineWs x ps).map SX.S).map V.str)) = H12 at F12 hw12 ⊢
            have hwml : (((lineWs x ps).map SX.S).map V.str).length = ps.length + 1 := by rw [List.length_map, List.length_map, hwl]
            refine ⟨_, rfl, _, rfl, _, ps.length + 1, rfl, .inl ⟨_, .of hw12, hwml.symm⟩, _, _, rfl, rfl, p, q, _, rfl, F12.pool, by show (1 : Int) ≤ ((ps.length + 1 : Nat) : Int) - 1; omega, by show ((ps.length + 1 : Nat) : Int) - 1 < _; omega, fun d3 H13 g0 g1 F13 => ⟨_, _, rfl, rfl, ?_⟩⟩
            have hw13 := F13.keep _ _ wlp wlq hw12
            have F13' := F12.trans F13
            obtain ⟨j, rfl⟩ : ∃ j : Nat, d3 = (j : Int) := ⟨d3.toNat, by omega⟩
            have hj : j < ps.length := by
              have : ((j : Nat) : Int) < ((ps.length + 1 : Nat) : Int) - 1 := g1
              omega
            obtain ⟨dj, hdj⟩ : ∃ dj, ps[j]? = some dj := ⟨_, List.getElem?_eq_getElem hj⟩
            have es1 : (" " : Str).length = 1 := elen
            have es2 : (" 1" : Str).length = 2 := by decide +kernel
            have hpl : (1 : Int) + (j : Int) = ((j + 1 : Nat) : Int) := by omega
            dsimp only
            rw [hpl]
            have W100 : ∀ z ∈ lineWs x ps, z.length ≤ 300 := fun z hz => Nat.le_trans (lineWs_len hS z hz) (by decide)
            have wT : ∀ k, ∀ z ∈ (lineWs x ps).take k, z.length ≤ 300 := fun k z hz => W100 z (List.mem_of_mem_take hz)
            have wD : ∀ k, ∀ z ∈ (lineWs x ps).drop k, z.length ≤ 300 := fun k z hz => W100 z (List.mem_of_mem_drop hz)
            have lT : ∀ k, ((lineWs x ps).take k).length ≤ 8 := fun k => by rw [List.length_take]; omega
            have lD : ∀ k, ((lineWs x ps).drop k).length ≤ 8 := fun k => by rw [List.length_drop]; omega
            have lv : ∀ (W : List (List Nat)), (wv W).length = W.length := fun W => by rw [List.length_map, List.length_map]
            refine ⟨_, rfl, _, _, rfl, rfl, by rw [es1]; show _ ≤ 16777216; omega, ?_⟩
            refine ⟨_, rfl, _, _, rfl, rfl, by rw [es1]; show _ ≤ 16777216; omega, ?_⟩
            refine ⟨_, rfl, _, _, rfl, rfl, by rw [es2]; show _ ≤ 16777216; omega, ?_⟩
            refine ⟨⟨_, rfl⟩, _, rfl, _, rfl, _, rfl, wl, _, rfl, .of hw13, fun f1 hf1 => ?_⟩
            have c4 : cutV (wv (lineWs x ps)) none (some (-1)) = wv ((lineWs x ps).take ps.length) := by rw [cL, hwl]; rfl
            have c4' : cutV (((lineWs x ps).map SX.S).map V.str) none (some (-1)) = wv ((lineWs x ps).take ps.length) := c4
            refine ⟨" ", f1, ((lineWs x ps).take ps.length).map SX.S, rfl, rfl, .inl (.of (by rw [upd_same]; exact congrArg (fun z => some (HO.lst z)) c4')), join_size (wT _) (by have := lT ps.length; omega), ?_⟩
            rw [join_S32]
            have s14 := same_upd (o := .lst (cutV (((lineWs x ps).map SX.S).map V.str) none (some (-1)))) hf1
            have hw14 := s14 _ _ hw13
            have F14 := F13'.more s14
            generalize upd H13 f1 (HO.lst (cutV (((lineWs x ps).map SX.S).map V.str) none (some (-1)))) = H14 at s14 hw14 F14 ⊢
            have e0 : ("" : Str) = SX.S [] := by decide +kernel
            -- words[:place] + [''] + words[place:]
            refine ⟨⟨_, rfl⟩, _, rfl, _, rfl, ((j + 1 : Nat) : Int), rfl, wl, _, rfl, .of hw14, fun f2 hf2 => ⟨(by show 1 ≤ 16777216; decide), fun f3 hf3 => ?_⟩⟩
            have s15 := (same_upd (o := .lst (cutV (((lineWs x ps).map SX.S).map V.str) none (some ((j + 1 : Nat) : Int)))) hf2).trans (same_upd (o := .lst [.str ""]) hf3)
            have x2 : (upd (upd H14 f2 (.lst (cutV (((lineWs x ps).map SX.S).map V.str) none (some ((j + 1 : Nat) : Int))))) f3 (.lst [.str ""])) f2 = some (.lst (wv ((lineWs x ps).take (j + 1)))) := same_upd hf3 _ _ (by rw [upd_same]; exact congrArg (fun z => some (HO.lst z)) (cT _ _))
            have x3 : (upd (upd H14 f2 (.lst (cutV (((lineWs x ps).map SX.S).map V.str) none (some ((j + 1 : Nat) : Int))))) f3 (.lst [.str ""])) f3 = some (.lst [.str ""]) := upd_same
            generalize upd (upd H14 f2 (HO.lst (cutV (((lineWs x ps).map SX.S).map V.str) none (some ((j + 1 : Nat) : Int))))) f3 (HO.lst [V.str ""]) = H15 at s15 x2 x3 ⊢
            refine ⟨f2, f3, wv ((lineWs x ps).take (j + 1)), [.str ""], rfl, rfl, x2, x3, by rw [lv]; have := lT (j + 1); show _ + 1 ≤ 16777216; omega, fun f4 hf4 => ?_⟩
            have s16 := s15.trans (same_upd (o := .lst (wv ((lineWs x ps).take (j + 1)) ++ [.str ""])) hf4)
            have x4 : (upd H15 f4 (.lst (wv ((lineWs x ps).take (j + 1)) ++ [.str ""]))) f4 = some (.lst (wv ((lineWs x ps).take (j + 1)) ++ [.str ""])) := upd_same
            generalize upd H15 f4 (HO.lst (wv ((lineWs x ps).take (j + 1)) ++ [V.str ""])) = H16 at s16 x4 ⊢
            have hw16 := s16 _ _ hw14
            refine ⟨_, rfl, _, rfl, ((j + 1 : Nat) : Int), rfl, wl, _, rfl, .of hw16, fun f5 hf5 => ?_⟩
            have s17 := s16.trans (same_upd (o := .lst (cutV (((lineWs x ps).map SX.S).map V.str) (some ((j + 1 : Nat) : Int)) none)) hf5)
            have x5 : (upd H16 f5 (.lst (cutV (((lineWs x ps).map SX.S).map V.str) (some ((j + 1 : Nat) : Int)) none))) f5 = some (.lst (wv ((lineWs x ps).drop (j + 1)))) := by rw [upd_same]; exact congrArg (fun z => some (HO.lst z)) (cD _ _)
            have x4' := same_upd (o := .lst (cutV (((lineWs x ps).map SX.S).map V.str) (some ((j + 1 : Nat) : Int)) none)) hf5 _ _ x4
            generalize upd H16 f5 (HO.lst (cutV (((lineWs x ps).map SX.S).map V.str) (some ((j + 1 : Nat) : Int)) none)) = H17 at s17 x5 x4' ⊢
            refine ⟨f4, f5, _, _, rfl, rfl, x4', x5, by rw [List.length_append, lv, lv]; have := lT (j + 1); have := lD (j + 1); show _ + 1 + _ ≤ 16777216; omega, fun f6 hf6 => ?_⟩
            have eB : wv ((lineWs x ps).take (j + 1)) ++ [V.str ""] ++ wv ((lineWs x ps).drop (j + 1)) = wv ((lineWs x ps).take (j + 1) ++ [[]] ++ (lineWs x ps).drop (j + 1)) := by
              rw [e0]
              simp only [wv, List.map_append, List.map_cons, List.map_nil]
            rw [eB]
            have s18 := s17.trans (same_upd (o := .lst (wv ((lineWs x ps).take (j + 1) ++ [[]] ++ (lineWs x ps).drop (j + 1)))) hf6)
            refine ⟨" ", f6, ((lineWs x ps).take (j + 1) ++ [[]] ++ (lineWs x ps).drop (j + 1)).map SX.S, rfl, rfl, .inl (.of upd_same), join_size (fun z hz => ?_) (by rw [List.length_append, List.length_append]; have := lT (j + 1); have := lD (j + 1); show _ + 1 + _ ≤ 20; omega), ?_⟩
            · rcases List.mem_append.mp hz with a | a
              · rcases List.mem_append.mp a with a | a
                · exact wT _ z a
                · rw [List.mem_singleton.mp a]
                  exact Nat.zero_le _
              · exact wD _ z a
            rw [join_S32]
            generalize upd H17 f6 (HO.lst (wv ((lineWs x ps).take (j + 1) ++ [[]] ++ (lineWs x ps).drop (j + 1)))) = H18 at s18 ⊢
            refine ⟨(by show 5 ≤ 16777216; decide), fun nl hnl => ?_⟩
            have hwn : wl ≠ nl := by
              rintro rfl
              rw [s18 _ _ hw14] at hnl
              cases hnl
            have N1 := near_t1 hS htlT
            have N2 := near_t2 hS htlT
            have N3 := near_t3 hS htlT
            have N4 := near4 hS
            have N5 := near5 hS j (Nat.le_of_lt hj)
            generalize T0 ++ (" " : Str) = y1 at N1 ⊢
            generalize (" " : Str) ++ T0 = y2 at N2 ⊢
            generalize T0 ++ (" 1" : Str) = y3 at N3 ⊢
            generalize SX.S (TL.joinL [32] ((lineWs x ps).take ps.length)) = y4 at N4 ⊢
            generalize SX.S (TL.joinL [32] ((lineWs x ps).take (j + 1) ++ [[]] ++ (lineWs x ps).drop (j + 1))) = y5 at N5 ⊢
            have F18 := F14.more s18
            have F19 := F18.more (same_upd (o := .lst [.str y1, .str y2, .str y3, .str y4, .str y5]) hnl)
            have hnp := F18.pool.p_ne hnl
            have hnq := F18.pool.q_ne hnl
            have hw19 := same_upd (o := .lst [.str y1, .str y2, .str y3, .str y4, .str y5]) hnl _ _ (s18 _ _ hw14)
            have hn19 : (upd H18 nl (.lst [.str y1, .str y2, .str y3, .str y4, .str y5])) nl = some (.lst [.str y1, .str y2, .str y3, .str y4, .str y5]) := upd_same
            generalize upd H18 nl (HO.lst [V.str y1, V.str y2, V.str y3, V.str y4, V.str y5]) = H19 at F19 hw19 hn19 ⊢
            clear x2 x3 x4 x5 x4' s14 s15 s16 s17 s18 hw14 hw16 hw13 hw12
            have eA : ∀ l : List Nat, ("A" : Str) ++ SX.S l = SX.S (65 :: l) := fun l => TL.ext_tl (show tl (("A" : Str) ++ SX.S l) = 65 :: l from by
              have : tl ("A" : Str) = [65] := by decide +kernel
              rw [tl_app, this]
              rfl)
            have hlj : (lineWs x ps)[j + 1]? = some (itx dj) := by
              show (ps.map itx)[j]? = some (itx dj)
              rw [List.getElem?_map, hdj]
              rfl
            have hvj : (wv (lineWs x ps))[j + 1]? = some (.str (SX.S (itx dj))) := by rw [List.getElem?_map, List.getElem?_map, hlj]; rfl
            obtain ⟨kj, hkj⟩ : ∃ kj, ks[j]? = some kj := ⟨_, List.getElem?_eq_getElem (by omega)⟩
            have hij : (itx dj).length ≤ 100 := itx100 (allOk_at hS.parts hkj hdj)
            have eAl : ("A" : Str).length = 1 := by decide +kernel
            refine ⟨_, rfl, .inl ⟨rfl, _, .of hn19⟩, ⟨_, rfl⟩, _, rfl, _, rfl, ((j + 1 : Nat) : Int), rfl, wl, _, rfl, .of hw19, fun f2 hf2 => ?_⟩
            have t0 := same_upd (o := .lst (cutV (((lineWs x ps).map SX.S).map V.str) none (some ((j + 1 : Nat) : Int)))) hf2
            have x2 : (upd H19 f2 (.lst (cutV (((lineWs x ps).map SX.S).map V.str) none (some ((j + 1 : Nat) : Int))))) f2 = some (.lst (wv ((lineWs x ps).take (j + 1)))) := by rw [upd_same]; exact congrArg (fun z => some (HO.lst z)) (cT _ _)
            generalize upd H19 f2 (HO.lst (cutV (((lineWs x ps).map SX.S).map V.str) none (some ((j + 1 : Nat) : Int)))) = H20 at t0 x2 ⊢
            refine ⟨_, rfl, _, rfl, wl, _, ((j + 1 : Nat) : Int), .str (SX.S (itx dj)), rfl, rfl, .of (t0 _ _ hw19), at_of (j := j + 1) rfl hvj, _, _, rfl, rfl, by rw [eAl, SX.S_len]; show _ ≤ 16777216; omega, (by show 1 ≤ 16777216; decide), fun f3 hf3 => ?_⟩
            rw [eA]
            have t1 := t0.trans (same_upd (o := .lst [.str (SX.S (65 :: itx dj))]) hf3)
            have x3 : (upd H20 f3 (.lst [.str (SX.S (65 :: itx dj))])) f3 = some (.lst [.str (SX.S (65 :: itx dj))]) := upd_same
            have x2' := same_upd (o := .lst [.str (SX.S (65 :: itx dj))]) hf3 _ _ x2
            generalize upd H20 f3 (HO.lst [V.str (SX.S (65 :: itx dj))]) = H21 at t1 x3 x2' ⊢
            refine ⟨f2, f3, _, _, rfl, rfl, x2', x3, by rw [lv]; have := lT (j + 1); show _ + 1 ≤ 16777216; omega, fun f4 hf4 => ?_⟩
            have t2 := t1.trans (same_upd (o := .lst (wv ((lineWs x ps).take (j + 1)) ++ [.str (SX.S (65 :: itx dj))])) hf4)
            have x4 : (upd H21 f4 (.lst (wv ((lineWs x ps).take (j + 1)) ++ [.str (SX.S (65 :: itx dj))]))) f4 = some (.lst (wv ((lineWs x ps).take (j + 1)) ++ [.str (SX.S (65 :: itx dj))])) := upd_same
            generalize upd H21 f4 (HO.lst (wv ((lineWs x ps).take (j + 1)) ++ [V.str (SX.S (65 :: itx dj))])) = H22 at t2 x4 ⊢
            refine ⟨_, rfl, _, rfl, _, _, rfl, rfl, ((j + 1 + 1 : Nat) : Int), rfl, wl, _, rfl, .of (t2 _ _ hw19), fun f5 hf5 => ?_⟩
            have t3 := t2.trans (same_upd (o := .lst (cutV (((lineWs x ps).map SX.S).map V.str) (some ((j + 1 + 1 : Nat) : Int)) none)) hf5)
            have x5 : (upd H22 f5 (.lst (cutV (((lineWs x ps).map SX.S).map V.str) (some ((j + 1 + 1 : Nat) : Int)) none))) f5 = some (.lst (wv ((lineWs x ps).drop (j + 1 + 1)))) := by rw [upd_same]; exact congrArg (fun z => some (HO.lst z)) (cD _ _)
            have x4' := same_upd (o := .lst (cutV (((lineWs x ps).map SX.S).map V.str) (some ((j + 1 + 1 : Nat) : Int)) none)) hf5 _ _ x4
            generalize upd H22 f5 (HO.lst (cutV (((lineWs x ps).map SX.S).map V.str) (some ((j + 1 + 1 : Nat) : Int)) none)) = H23 at t3 x5 x4' ⊢
            refine ⟨f4, f5, _, _, rfl, rfl, x4', x5, by rw [List.length_append, lv, lv]; have := lT (j + 1); have := lD (j + 1 + 1); show _ + 1 + _ ≤ 16777216; omega, fun f6 hf6 => ?_⟩
            have eB2 : wv ((lineWs x ps).take (j + 1)) ++ [V.str (SX.S (65 :: itx dj))] ++ wv ((lineWs x ps).drop (j + 1 + 1)) = wv ((lineWs x ps).take (j + 1) ++ [65 :: itx dj] ++ (lineWs x ps).drop (j + 1 + 1)) := by
              simp only [wv, List.map_append, List.map_cons, List.map_nil]
            rw [eB2]
            have t4 := t3.trans (same_upd (o := .lst (wv ((lineWs x ps).take (j + 1) ++ [65 :: itx dj] ++ (lineWs x ps).drop (j + 1 + 1)))) hf6)
            refine ⟨" ", f6, ((lineWs x ps).take (j + 1) ++ [65 :: itx dj] ++ (lineWs x ps).drop (j + 1 + 1)).map SX.S, rfl, rfl, .inl (.of upd_same), join_size (fun z hz => ?_) (by rw [List.length_append, List.length_append]; have := lT (j + 1); have := lD (j + 1 + 1); show _ + 1 + _ ≤ 20; omega), ?_⟩
            · rcases List.mem_append.mp hz with a | a
              · rcases List.mem_append.mp a with a | a
                · exact wT _ z a
                · rw [List.mem_singleton.mp a, List.length_cons]
                  omega
              · exact wD _ z a
            rw [join_S32]
            have N6 := near6 hS j hdj
            generalize SX.S (TL.joinL [32] ((lineWs x ps).take (j + 1) ++ [65 :: itx dj] ++ (lineWs x ps).drop (j + 1 + 1))) = y6 at N6 ⊢
            generalize upd H23 f6 (HO.lst (wv ((lineWs x ps).take (j + 1) ++ [65 :: itx dj] ++ (lineWs x ps).drop (j + 1 + 1)))) = H24 at t4 ⊢
            have hn24 := t4 _ _ hn19
            refine ⟨nl, _, _, rfl, rfl, hn24, (by show 5 < 16777216; decide), ?_⟩
            have F24 := F19.more t4
            have hw24 := t4 _ _ hw19
            have hNx : ∀ y ∈ [y1, y2, y3, y4, y5, y6], Near y := by
              intro y hy
              simp only [List.mem_cons, List.not_mem_nil, or_false] at hy
              rcases hy with rfl | rfl | rfl | rfl | rfl | rfl <;> assumption
            have hn25 : (upd H24 nl (.lst ([.str y1, .str y2, .str y3, .str y4, .str y5] ++ [.str y6]))) nl = some (.lst ([y1, y2, y3, y4, y5, y6].map V.str)) := upd_same
            have hw25 : (upd H24 nl (.lst ([.str y1, .str y2, .str y3, .str y4, .str y5] ++ [.str y6]))) wl = some (.lst (((lineWs x ps).map SX.S).map V.str)) := by rw [upd_ne hwn]; exact hw24
            have F25 : Fr p q H (upd H24 nl (.lst ([.str y1, .str y2, .str y3, .str y4, .str y5] ++ [.str y6]))) := by
              have hnlH : H nl = none := F18.free hnl
              exact Fr.new PL F24 hnlH
            generalize upd H24 nl (HO.lst ([V.str y1, V.str y2, V.str y3, V.str y4, V.str y5] ++ [V.str y6])) = H25 at hn25 hw25 F25 ⊢
            dsimp only
            refine seq_mid (fun σ H' => ∃ ln, ∃ ys : List Str, σ = [some (.ref p), some (.ref da), some (.ref kp), some (.ref l2), some (.ref b), some (.int ((j + 1 : Nat) : Int)), u2, u3, some (.str T0), none, some (.ref wl), some (.ref ln), none, none] ∧ Fr p q H H' ∧ H' ln = some (.lst (ys.map V.str)) ∧ ys.length ≤ 12 ∧ ∀ y ∈ ys, Near y) ?_ (fun hR => ?_)
            · rintro σ H26 ⟨ln, ys, rfl, F26, hln, hyl, hyN⟩
              refine ⟨_, rfl, ln, rfl, ⟨_, .of hln⟩, fun D2 hD2 => ?_⟩
              refine lc_list (K := K) (a := ln) (xs := ys.map V.str) (fun i H' => Same H26 H' ∧ H' D2 = some (.lst [])) ⟨same_upd hD2, upd_same⟩ (fun i H' _ ⟨s, _⟩ => .of (s _ _ hln)) ?_ ?_
              · rintro i y H27 hy ⟨s27, hA2⟩
                obtain ⟨z, hz, rfl⟩ := map_get hy
                have Nz := hyN z (List.mem_of_getElem? hz)
                refine ⟨rfl, ?_⟩
                exact ⟨_, rfl, z, rfl, Nz.len, Nz.parts, Nz.head, Nz.bad, fun H28 s28 => ⟨_, rfl, iteF ⟨s27.trans s28, s28 _ _ hA2⟩⟩⟩
              · rintro H27 ⟨s27, hA2⟩
                refine ⟨Nat.zero_le _, fun e he => ?_⟩
                have s28 := same_upd (o := .lst []) he
                refine ⟨.list [], .list [], .lst (.of (s28 _ _ hA2)) .nil, .lst (.of upd_same) .nil, by decide, by decide, ?_⟩
                exact q1 _ (F26.more (s27.trans s28))
            · have sq25 := F25.sqT PL hsq
              refine ⟨_, rfl, da, _, 0, .str x, rfl, rfl, sq25, at_of (j := 0) rfl rfl, (by show 4 ≤ 16777216; decide), fun e he => ⟨e, _, rfl, .inl (.of upd_same), rfl, rfl, _, rfl, ?_⟩⟩
              have se := same_upd (o := .lst [.str "make", .str "shift", .str "post", .str "put"]) he
              have hn26 := se _ _ hn25
              have hw26 := se _ _ hw25
              have F26 := F25.more se
              refine ite2 (fun hin => ?_) (fun hin => hR _ _ ⟨nl, _, rfl, F26, hn26, (by show 6 ≤ 12; decide), hNx⟩)
              have hx4 := in4 hS.word hin
              generalize upd H25 e (HO.lst [V.str "make", V.str "shift", V.str "post", V.str "put"]) = H26 at hn26 hw26 F26 ⊢
              obtain ⟨dl, hdl2⟩ : ∃ dl, ps[ps.length - 1]? = some dl := ⟨_, List.getElem?_eq_getElem (by omega)⟩
              obtain ⟨kl2, hkl2⟩ : ∃ kl2, ks[ps.length - 1]? = some kl2 := ⟨_, List.getElem?_eq_getElem (by omega)⟩
              have hil : (itx dl).length ≤ 100 := itx100 (allOk_at hS.parts hkl2 hdl2)
              have hll : (wv (lineWs x ps))[(wv (lineWs x ps)).length - 1]? = some (.str (SX.S (itx dl))) := by
                rw [lv, hwl, List.getElem?_map, List.getElem?_map]
                have : (lineWs x ps)[ps.length + 1 - 1]? = some (itx dl) := by
                  obtain ⟨n, hn⟩ : ∃ n, ps.length = n + 1 := ⟨ps.length - 1, by omega⟩
                  have hd2 : ps[n]? = some dl := by
                    rw [← hdl2]
                    congr 1
                    omega
                  rw [hn]
                  show (ps.map itx)[n]? = some (itx dl)
                  rw [List.getElem?_map, hd2]
                  rfl
                rw [this]
                rfl
              refine ⟨_, rfl, (by show 3 ≤ 16777216; decide), fun o1 ho1 => ⟨o1, rfl, ⟨_, .of upd_same⟩, fun D2 hD2 => ?_⟩⟩
              have so := same_upd (o := .lst [.str "+", .str "0", .str "--"]) ho1
              have ho1' : (upd H26 o1 (.lst [.str "+", .str "0", .str "--"])) o1 = some (.lst [.str "+", .str "0", .str "--"]) := upd_same
              generalize upd H26 o1 (HO.lst [V.str "+", V.str "0", V.str "--"]) = H27 at so ho1' hD2 ⊢
              refine lc_list (K := K) (a := o1) (xs := [.str "+", .str "0", .str "--"]) (fun i H' => Same H27 H' ∧ ∃ zs : List Str, H' D2 = some (.lst (zs.map V.str)) ∧ zs.length ≤ i ∧ ∀ z ∈ zs, Near z) ⟨same_upd hD2, [], upd_same, Nat.le_refl _, fun _ h => nomatch h⟩ (fun i H' _ ⟨s, _⟩ => .of (s _ _ ho1')) ?_ ?_
              · rintro i y H28 hy ⟨s28, zs, hA2, hzl, hzN⟩
                have hi : i < 3 := (List.getElem?_eq_some_iff.mp hy).1
                obtain ⟨sg1, rfl, hodd⟩ : ∃ sg1 : Str, y = .str sg1 ∧ tl sg1 ∈ odd3 := by
                  have := List.mem_of_getElem? hy
                  simp only [List.mem_cons, List.not_mem_nil, or_false] at this
                  rcases this with rfl | rfl | rfl
                  · exact ⟨"+", rfl, by decide +kernel⟩
                  · exact ⟨"0", rfl, by decide +kernel⟩
                  · exact ⟨"--", rfl, by decide +kernel⟩
                have hsl : (tl sg1).length ≤ 2 := by
                  have : tl sg1 = [43] ∨ tl sg1 = [48] ∨ tl sg1 = [45, 45] := by simpa [odd3] using hodd
                  rcases this with e | e | e <;> rw [e] <;> decide
                have hw28 := s28 _ _ (so _ _ hw26)
                refine ⟨rfl, ?_⟩
                refine ⟨⟨_, rfl⟩, _, rfl, _, rfl, _, rfl, wl, _, rfl, .of hw28, fun g1 hg1 => ?_⟩
                have c4 : cutV (wv (lineWs x ps)) none (some (-1)) = wv ((lineWs x ps).take ps.length) := by rw [cL, hwl]; rfl
                have v0 := same_upd (o := .lst (cutV (((lineWs x ps).map SX.S).map V.str) none (some (-1)))) hg1
                have k1 : (upd H28 g1 (.lst (cutV (((lineWs x ps).map SX.S).map V.str) none (some (-1))))) g1 = some (.lst (wv ((lineWs x ps).take ps.length))) := by rw [upd_same]; exact congrArg (fun z => some (HO.lst z)) c4
                generalize upd H28 g1 (HO.lst (cutV (((lineWs x ps).map SX.S).map V.str) none (some (-1)))) = H29 at v0 k1 ⊢
                have eS1 : sg1 ++ SX.S (itx dl) = SX.S (tl sg1 ++ itx dl) := TL.ext_tl (show tl (sg1 ++ SX.S (itx dl)) = tl sg1 ++ itx dl from by rw [tl_app])
                have l2a : sg1.length + (SX.S (itx dl)).length ≤ 200 := by rw [slen, SX.S_len]; omega
                refine ⟨_, rfl, _, rfl, _, rfl, wl, _, -1, .str (SX.S (itx dl)), rfl, rfl, .of (v0 _ _ hw28), at_last hll, _, _, rfl, rfl, by show _ ≤ 16777216; omega, (by show 1 ≤ 16777216; decide), fun g2 hg2 => ?_⟩
                rw [eS1]
                have v1 := v0.trans (same_upd (o := .lst [.str (SX.S (tl sg1 ++ itx dl))]) hg2)
                have k1' := same_upd (o := .lst [.str (SX.S (tl sg1 ++ itx dl))]) hg2 _ _ k1
                have k2 : (upd H29 g2 (.lst [.str (SX.S (tl sg1 ++ itx dl))])) g2 = some (.lst [.str (SX.S (tl sg1 ++ itx dl))]) := upd_same
                generalize upd H29 g2 (HO.lst [V.str (SX.S (tl sg1 ++ itx dl))]) = H30 at v1 k1' k2 ⊢
                refine ⟨g1, g2, _, _, rfl, rfl, k1', k2, by rw [lv]; have := lT ps.length; show _ + 1 ≤ 16777216; omega, fun g3 hg3 => ?_⟩
                have eB3 : wv ((lineWs x ps).take ps.length) ++ [V.str (SX.S (tl sg1 ++ itx dl))] = wv ((lineWs x ps).take ps.length ++ [tl sg1 ++ itx dl]) := by
                  simp only [wv, List.map_append, List.map_cons, List.map_nil]
                rw [eB3]
                have v2 := v1.trans (same_upd (o := .lst (wv ((lineWs x ps).take ps.length ++ [tl sg1 ++ itx dl]))) hg3)
                refine ⟨" ", g3, ((lineWs x ps).take ps.length ++ [tl sg1 ++ itx dl]).map SX.S, rfl, rfl, .inl (.of upd_same), join_size (fun z hz => ?_) (by rw [List.length_append]; have := lT ps.length; show _ + 1 ≤ 20; omega), ?_⟩
                · rcases List.mem_append.mp hz with a | a
                  · exact wT _ z a
                  · rw [List.mem_singleton.mp a, List.length_append]
                    omega
                rw [join_S32]
                have N7 := near7 hS hx4 hodd hdl2
                refine ⟨_, v2 _ _ hA2, by rw [List.length_map]; show _ < 16777216; omega, same_upd2 (s28.trans v2) hD2, zs ++ [SX.S (TL.joinL [32] ((lineWs x ps).take ps.length ++ [tl sg1 ++ itx dl]))], by rw [upd_same, List.map_append]; rfl, by rw [List.length_append]; show _ + 1 ≤ i + 1; omega, fun z hz => ?_⟩
                rcases List.mem_append.mp hz with a | a
                · exact hzN z a
                · rw [List.mem_singleton.mp a]
                  exact N7
              · rintro H28 ⟨s28, zs, hA2, hzl, hzN⟩
                have hn28 := s28 _ _ (so _ _ hn26)
                refine ⟨nl, D2, _, _, rfl, rfl, hn28, hA2, by rw [List.length_map, List.length_map]; have : zs.length ≤ 3 := hzl; show 6 + _ ≤ 16777216; omega, fun g hg => ?_⟩
                refine hR _ _ ⟨g, [y1, y2, y3, y4, y5, y6] ++ zs, rfl, (F26.more (so.trans s28)).more (same_upd hg), by rw [upd_same, List.map_append], by rw [List.length_append]; have : zs.length ≤ 3 := hzl; show 6 + _ ≤ 12; omega, fun y hy => ?_⟩
                rcases List.mem_append.mp hy with a | a
                · exact hNx y a
                · exact hzN y a
end
end K75
set_option maxHeartbeats 4000000
/-! k75: names are right -/
namespace K75
open PySem PySem.Spec PyProof.Rows L2 L2H
theorem ite_same {b : Bool} {A B : Prop} (h : B) : if (!(b == b)) = true then A else B := by
  have e : (b == b) = true := by cases b <;> rfl
  rw [e]
  exact iteF h
theorem ite_sameE {a b : Bool} (e : a = b) {A B : Prop} (h : B) : if (!(a == b)) = true then A else B := by
  subst e
  exact ite_same h
/-- whether a head and a thing make a source -/
def srcOf (hd : Str) : PyData → Bool
  | .str x => srcL (tl hd ++ tl x)
  | _ => false
def dueB (hd : Str) (d : PyData) : Bool := isS d && ((decide (hd = "t.") || decide (hd = "s.")) && okS 6 d)
theorem src_due {hd : Str} (h : hd = "t." ∨ hd = "s." ∨ hd = "u." ∨ hd = "t") (d : PyData) : srcOf hd d = (dueB hd d || (decide (hd = "t") && hasDot d)) := by
  cases d with
  | str x =>
    rcases h with rfl | rfl | rfl | rfl
    · have e : tl ("t." : Str) = [116, 46] := by decide +kernel
      have e1 : decide (("t." : Str) = "t.") = true := by decide +kernel
      have e2 : decide (("t." : Str) = "t") = false := by decide +kernel
      show srcL (tl ("t." : Str) ++ tl x) = _
      rw [e, e2]
      unfold dueB
      rw [e1]
      show ((116 == 116 || 116 == 115) && sg 6 (tl x)) = ((true && (true && sg 6 (tl x))) || (false && _))
      simp
    · have e : tl ("s." : Str) = [115, 46] := by decide +kernel
      have e1 : decide (("s." : Str) = "s.") = true := by decide +kernel
      have e2 : decide (("s." : Str) = "t") = false := by decide +kernel
      show srcL (tl ("s." : Str) ++ tl x) = _
      rw [e, e2]
      unfold dueB
      rw [e1, Bool.or_true]
      show ((115 == 116 || 115 == 115) && sg 6 (tl x)) = ((true && (true && sg 6 (tl x))) || (false && _))
      simp
    · have e : tl ("u." : Str) = [117, 46] := by decide +kernel
      have e0 : decide (("u." : Str) = "t.") = false := by decide +kernel
      have e1 : decide (("u." : Str) = "s.") = false := by decide +kernel
      have e2 : decide (("u." : Str) = "t") = false := by decide +kernel
      show srcL (tl ("u." : Str) ++ tl x) = _
      rw [e, e2]
      unfold dueB
      rw [e0, e1]
      show ((117 == 116 || 117 == 115) && sg 6 (tl x)) = ((true && (false && sg 6 (tl x))) || (false && _))
      simp
    · have e : tl ("t" : Str) = [116] := by decide +kernel
      have e0 : decide (("t" : Str) = "t.") = false := by decide +kernel
      have e1 : decide (("t" : Str) = "s.") = false := by decide +kernel
      have e2 : decide (("t" : Str) = "t") = true := by decide +kernel
      show srcL (tl ("t" : Str) ++ tl x) = _
      rw [e, e2]
      unfold dueB
      rw [e0, e1]
      show srcL (116 :: tl x) = ((true && (false && sg 6 (tl x))) || (true && (decide ((tl x).take 1 = [46]) && sg 6 ((tl x).drop 1))))
      generalize tl x = l
      cases l with
      | nil => rfl
      | cons a r =>
        by_cases ha : a = 46
        · subst ha
          show ((116 == 116 || 116 == 115) && sg 6 r) = _
          simp
        · have : srcL (116 :: a :: r) = false := by
            unfold srcL
            split
            · rename_i e3
              exact absurd (List.cons.inj (List.cons.inj e3).2).1 ha
            · rfl
          rw [this]
          simp [ha]
  | none => simp [srcOf, dueB, isS, hasDot]
  | bool b => simp [srcOf, dueB, isS, hasDot]
  | int b => simp [srcOf, dueB, isS, hasDot]
  | list b => simp [srcOf, dueB, isS, hasDot]
  | tuple b => simp [srcOf, dueB, isS, hasDot]
  | dict b => simp [srcOf, dueB, isS, hasDot]
theorem ite_f {b : Bool} (h : b = false) {A B : Prop} (hb : B) : if b = true then A else B := by
  rw [h]
  exact iteF hb
theorem okN1 (d : PyData) : okN 1 (.tuple [d]) = okI (-1000000000) 1000000000 d := by
  show (true && (okI (-1000000000) 1000000000 d && true)) = _
  simp
theorem okN2 {n : Int} (h1 : -1000000000 ≤ n) (h2 : n ≤ 1000000000) (d : PyData) : okN 2 (.tuple [.int n, d]) = okI (-1000000000) 1000000000 d := by
  show (true && (okI (-1000000000) 1000000000 (.int n) && (okI (-1000000000) 1000000000 d && true))) = _
  rw [ok_int h1 h2]
  simp
section
variable {P : Program} {w : World} {K : PySem.W.Frag} {mg : Str → Option Value} {base : Heap}
abbrev ns__law_names_right : List Str := ["pool", "name", "odd", "place", "thing", "head", "whole", "due", "number", "value", "is_right"]
theorem sc62 : FnScope ["pool", "name", "odd", "place", "thing", "head", "whole", "due", "number", "value", "is_right"] ["pool"] (defScope (top 62)) := ⟨rfl, rfl, rfl, by decide +kernel, rfl, by decide +kernel, by decide +kernel⟩
def sp__law_names_right (K : PySem.W.Frag) : Sp := fun vs H Q _ => ∃ p q, vs = [.ref p] ∧ Pool H p q ∧ ∀ H', Fr p q H H' → Q (.bl true) H'
theorem d__law_names_right (T : TxtX w K mg) : Def P w K mg base CX0 4 "_law_names_right" ["pool"] (sp__law_names_right K) := by
  obtain ⟨f, fd, F, m, b⟩ := T.a62
  refine ⟨f, fd, m, F.kp, b, F.ok sc62 (fun vs H Q E h => ?_) (fun cdv A outer s H vs Q E hr h => ?_)⟩
  · obtain ⟨p, q, rfl, _⟩ := h; rfl
  · have nd := sc62.nd
    have hu := hr.units
    have hu1 : (A.deeper (envOfC "_law_names_right" (defScope (top 62)) s.heap.objs.size f cdv)).units + 1 < cLine := by omega
    obtain ⟨p, q, rfl, PL, q1⟩ := h
    refine ⟨_, (pss_cons (ps_par (i := 1) (j := 2) (by rfl) nd rfl rfl (by decide) rfl rfl (pa_cons (pe_def (d__law_name T) (hr.mono (by decide)) (pa_cons (pv 0) (pa_cons pe_int pa_nil))) (pa_cons (pe_def (d__law_pick T) (hr.mono (by decide)) (pa_cons (pv 0) (pa_cons (pe_lst (pa_cons pe_str (pa_cons pe_str (pa_cons pe_str (pa_cons pe_str (pa_cons pe_str (pa_cons pe_str (pa_cons pe_str (pa_cons pe_str pa_nil))))))))) pa_nil))) pa_nil)) (by rfl))
      (pss_cons (ps_set (i := 3) nd rfl (Or.inl rfl) (pe_def (d__law_draw T) (hr.mono (by decide)) (pa_cons (pv 0) (pa_cons (pe_op op_add (pe_callB call_len (by rfl) T.b.len (by decide +kernel) (pa_cons (pv 1) pa_nil)) pe_int) pa_nil))))
      (pss_cons (ps_for PassesOwn.never rfl (pi_list (pe_lst (pa_cons (pv 1) (pa_cons (pe_slice C8.sl_txt (pv 1) po_none (po_some pe_int)) (pa_cons (pe_slice C8.sl_txt (pv 1) po_none (po_some pe_int)) (pa_cons (pe_op op_add_str (pe_op op_add_str (pe_slice C8.sl_txt (pv 1) po_none (po_some (pv 3))) (pv 2)) (pe_slice C8.sl_txt (pv 1) (po_some (pv 3)) po_none)) (pa_cons pe_str (pa_cons pe_non (pa_cons (pe_callB call_len (by rfl) T.b.len (by decide +kernel) (pa_cons (pv 1) pa_nil)) (pa_cons (pe_tup (pa_cons (pv 1) pa_nil)) (pa_cons pe_bl pa_nil))))))))))) (pg_name (i := 4) nd rfl (Or.inl rfl)) (pss_cons (ps_if (pt_not (pt_val (pe_def (d__law_tells T) (hr.mono (by decide)) (pa_cons (pe_def (d_is_name T.toTxt) (hr.mono (by decide)) (pa_cons (pv 4) pa_nil)) (pa_cons (pe_def (d__law_has_signs T) (hr.mono (by decide)) (pa_cons (pv 4) (pa_cons pe_int pa_nil))) pa_nil))))) (pss_one (ps_ret pe_bl)) pss_nil)
      (pss_cons (ps_if (pt_not (pt_val (pe_def (d__law_tells T) (hr.mono (by decide)) (pa_cons (pe_def (d_is_rowname T.toTxt) (hr.mono (by decide)) (pa_cons (pv 4) pa_nil)) (pa_cons (pe_def (d__law_has_signs T) (hr.mono (by decide)) (pa_cons (pv 4) (pa_cons pe_int pa_nil))) pa_nil))))) (pss_one (ps_ret pe_bl)) pss_nil)
      (pss_one (ps_for PassesOwn.never rfl (pi_list (pe_lst (pa_cons pe_str (pa_cons pe_str (pa_cons pe_str (pa_cons pe_str pa_nil)))))) (pg_name (i := 5) nd rfl (Or.inl rfl)) (pss_cons (ps_set (i := 6) nd rfl (Or.inl rfl) (pe_ifExp (pt_val (pe_callB call_isi (by rfl) T.b.isinstance (by decide +kernel) (pa_cons (pv 4) (pa_cons (pe_bltn (v := .ty "str") (by rfl) T.b.str (by decide +kernel) rfl) pa_nil)))) (pe_op op_add_str (pv 5) (pv 4)) (pv 4)))
      (pss_cons (ps_set (i := 7) nd rfl (Or.inl rfl) (pe_and (pe_callB call_isi (by rfl) T.b.isinstance (by decide +kernel) (pa_cons (pv 4) (pa_cons (pe_bltn (v := .ty "str") (by rfl) T.b.str (by decide +kernel) rfl) pa_nil))) (pe_and (pe_cmpR op_in_seq (pv 5) (pe_lst (pa_cons pe_str (pa_cons pe_str pa_nil))) rfl) (pe_one (pe_def (d__law_has_signs T) (hr.mono (by decide)) (pa_cons (pv 4) (pa_cons pe_int pa_nil)))))))
      (pss_one (ps_if (pt_not (pt_val (pe_def (d__law_tells T) (hr.mono (by decide)) (pa_cons (pe_def (d_is_source T.toTxt) (hr.mono (by decide)) (pa_cons (pv 6) pa_nil)) (pa_cons (pe_or (pv 7) (pe_one (pe_and (pe_cmpR op_eq (pv 5) pe_str (nomark _)) (pe_one (pe_def (d__law_has_dot T) (hr.mono (by decide)) (pa_cons (pv 4) pa_nil)))))) pa_nil))))) (pss_one (ps_ret pe_bl)) pss_nil)))))))))
      (pss_cons (ps_set (i := 8) nd rfl (Or.inl rfl) (pe_def (d__law_amount T) (hr.mono (by decide)) (pa_cons (pv 0) pa_nil)))
      (pss_cons (ps_for PassesOwn.never rfl (pi_list (pe_lst (pa_cons (pv 8) (pa_cons (pe_op op_pow pe_int pe_int) (pa_cons (pe_op op_add (pe_op op_pow pe_int pe_int) pe_int) (pa_cons (pe_un un_neg (pe_op op_pow pe_int pe_int)) (pa_cons (pe_op op_sub (pe_un un_neg (pe_op op_pow pe_int pe_int)) pe_int) (pa_cons pe_bl (pa_cons pe_non (pa_cons pe_str pa_nil)))))))))) (pg_name (i := 9) nd rfl (Or.inl rfl)) (pss_cons (ps_set (i := 10) nd rfl (Or.inl rfl) (pe_and (pe_not (pe_callB call_isi (by rfl) T.b.isinstance (by decide +kernel) (pa_cons (pv 9) (pa_cons (pe_bltn (v := .ty "bool") (by rfl) T.b.bool (by decide +kernel) rfl) pa_nil)))) (pe_and (pe_callB call_isi (by rfl) T.b.isinstance (by decide +kernel) (pa_cons (pv 9) (pa_cons (pe_bltn (v := .ty "int") (by rfl) T.b.int (by decide +kernel) rfl) pa_nil))) (pe_one (pe_chain op_le op_le (pe_un un_neg (pe_op op_pow pe_int pe_int)) (pv 9) (pe_op op_pow pe_int pe_int))))))
      (pss_cons (ps_if (pt_not (pt_val (pe_def (d__law_tells T) (hr.mono (by decide)) (pa_cons (pe_def (d_is_numbers T.toTxt) (hr.mono (by decide)) (pa_cons (pe_tup (pa_cons (pv 9) pa_nil)) (pa_cons pe_int pa_nil))) (pa_cons (pv 10) pa_nil))))) (pss_one (ps_ret pe_bl)) pss_nil)
      (pss_cons (ps_if (pt_not (pt_val (pe_def (d__law_tells T) (hr.mono (by decide)) (pa_cons (pe_def (d_is_numbers T.toTxt) (hr.mono (by decide)) (pa_cons (pe_tup (pa_cons (pv 8) (pa_cons (pv 9) pa_nil))) (pa_cons pe_int pa_nil))) (pa_cons (pv 10) pa_nil))))) (pss_one (ps_ret pe_bl)) pss_nil)
      (pss_one (ps_if (PW.pt (pw_or (pt_val (pe_def (d_is_numbers T.toTxt) (hr.mono (by decide)) (pa_cons (pe_tup (pa_cons (pv 9) pa_nil)) (pa_cons pe_int pa_nil)))) (pw_or (pt_val (pe_def (d_is_numbers T.toTxt) (hr.mono (by decide)) (pa_cons (pe_tup (pa_cons (pv 8) (pa_cons (pv 9) pa_nil))) (pa_cons pe_int pa_nil)))) (pw_or (pt_val (pe_def (d_is_numbers T.toTxt) (hr.mono (by decide)) (pa_cons (pv 9) (pa_cons pe_int pa_nil)))) (pw_or1 (pt_val (pe_def (d_is_numbers T.toTxt) (hr.mono (by decide)) (pa_cons (pe_tup pa_nil) (pa_cons pe_int pa_nil))))))))) (pss_one (ps_ret pe_bl)) pss_nil))))))
      (pss_one (ps_ret pe_bl))))))), ?_⟩
    refine ⟨_, rfl, p, q, 14, rfl, PL, by decide, by decide, fun nm H1 hnm F1 => ?_⟩
    refine ⟨_, rfl, (by show 8 ≤ 16777216; decide), fun l1 hl1 => ?_⟩
    have F2 := F1.more (same_upd (o := .lst [.str ".", .str "A", .str "-", .str " ", .str "`", .str "{", .str "/", .str ":"]) hl1)
    refine ⟨p, q, .ref l1, _, rfl, F2.pool, .inr ⟨l1, rfl, .inr ⟨upd_same, F1.pool.p_ne hl1, F1.pool.q_ne hl1⟩⟩, by decide, by decide, fun i v H3 hv F3 => ?_⟩
    obtain ⟨od, rfl, hod⟩ : ∃ od : Str, v = .str od ∧ (od.length ≤ 1 ∧ ∀ c ∈ tl od, c < 1114112) := by
      have := List.mem_of_getElem? hv
      simp only [List.mem_cons, List.not_mem_nil, or_false] at this
      rcases this with rfl | rfl | rfl | rfl | rfl | rfl | rfl | rfl <;> exact ⟨_, rfl, by decide +kernel, by decide +kernel⟩
    have F23 := F2.trans F3
    have hnl := sg_len hnm
    have hnc := sg_lt hnm
    have hns : nm.length = (tl nm).length := slen nm
    refine ⟨_, _, rfl, ?_⟩
    refine ⟨_, rfl, _, rfl, _, nm.length, rfl, ⟨by show nm.length ≤ 16777216; omega, rfl⟩, _, _, rfl, rfl, p, q, ((nm.length : Nat) : Int) + 1, rfl, F23.pool, by omega, by omega, fun d H4 h0 h1 F4 => ?_⟩
    obtain ⟨pl, rfl⟩ : ∃ pl : Nat, d = (pl : Int) := ⟨d.toNat, by omega⟩
    have F5 := F23.trans F4
    have hnz : nm.length ≤ 16777216 := by omega
    have sA : ∀ k : Nat, Txt.slice nm none (some ((k : Nat) : Int)) = SX.S ((tl nm).take k) := slice_t nm
    have sB : ∀ k : Nat, Txt.slice nm (some ((k : Nat) : Int)) none = SX.S ((tl nm).drop k) := slice_f nm
    have lA : ∀ k : Nat, (SX.S ((tl nm).take k)).length ≤ 14 := fun k => by rw [SX.S_len, List.length_take]; omega
    have lB : ∀ k : Nat, (SX.S ((tl nm).drop k)).length ≤ 14 := fun k => by rw [SX.S_len, List.length_drop]; omega
    have pA : (Txt.slice nm none (some ((pl : Nat) : Int))).length ≤ 14 := by rw [sA]; exact lA pl
    have pB : (Txt.slice nm (some ((pl : Nat) : Int)) none).length ≤ 14 := by rw [sB]; exact lB pl
    refine ⟨_, rfl, _, rfl, _, rfl, _, rfl, hnz, _, rfl, _, rfl, _, rfl, hnz, ?_⟩
    refine ⟨_, rfl, _, rfl, _, rfl, _, rfl, hnz, _, rfl, _, _, rfl, rfl, by show _ ≤ 16777216; omega, ?_⟩
    have pC : (Txt.slice nm none (some ((pl : Nat) : Int)) ++ od).length ≤ 15 := by rw [len_app]; omega
    refine ⟨_, rfl, _, rfl, _, rfl, _, rfl, hnz, _, _, rfl, rfl, by show _ ≤ 16777216; omega, ?_⟩
    refine ⟨_, rfl, _, _, rfl, ⟨hnz, rfl⟩, _, rfl, (by show 1 ≤ 16777216; decide), fun t ht => ⟨(by show 9 ≤ 16777216; decide), fun l2 hl2 => ?_⟩⟩
    have oA : ∀ k : Nat, okC (.str (Txt.slice nm none (some ((k : Nat) : Int)))) := fun k => ⟨by rw [sA]; have := lA k; omega, fun c hc => by rw [sA] at hc; exact hnc c (List.mem_of_mem_take hc)⟩
    have oM : okC (.str (Txt.slice nm none (some ((pl : Nat) : Int)) ++ od ++ Txt.slice nm (some ((pl : Nat) : Int)) none)) := by
      refine ⟨by rw [len_app]; omega, fun c hc => ?_⟩
      rw [tl_app, tl_app] at hc
      rcases List.mem_append.mp hc with a | a
      · rcases List.mem_append.mp a with a | a
        · exact (oA pl).2 c a
        · exact hod.2 c a
      · rw [sB] at a
        exact hnc c (List.mem_of_mem_drop a)
    have F6 := (F5.more (same_upd (o := .tup [.str nm]) ht)).more (same_upd (o := .lst [.str nm, .str (Txt.slice nm none (some 6)), .str (Txt.slice nm none (some 7)), .str (Txt.slice nm none (some ((pl : Nat) : Int)) ++ od ++ Txt.slice nm (some ((pl : Nat) : Int)) none), .str "", .non, .int (nm.length : Nat), .ref t, .bl true]) hl2)
    have El : ∀ y ∈ [V.str nm, V.str (Txt.slice nm none (some 6)), V.str (Txt.slice nm none (some 7)), V.str (Txt.slice nm none (some ((pl : Nat) : Int)) ++ od ++ Txt.slice nm (some ((pl : Nat) : Int)) none), V.str "", V.non, V.int (nm.length : Nat), V.ref t, V.bl true],
        ∃ d, Dp K (upd (upd H4 t (.tup [.str nm])) l2 (.lst [.str nm, .str (Txt.slice nm none (some 6)), .str (Txt.slice nm none (some 7)), .str (Txt.slice nm none (some ((pl : Nat) : Int)) ++ od ++ Txt.slice nm (some ((pl : Nat) : Int)) none), .str "", .non, .int (nm.length : Nat), .ref t, .bl true])) y d ∧ okC d ∧ ∀ z, d = .str z → z.length ≤ 100 := by
      intro y hy
      simp only [List.mem_cons, List.not_mem_nil, or_false] at hy
      rcases hy with rfl | rfl | rfl | rfl | rfl | rfl | rfl | rfl | rfl
      · exact ⟨_, .str nm, ⟨by show nm.length ≤ 1000; omega, hnc⟩, fun z e => by cases e; omega⟩
      · exact ⟨_, .str _, oA 6, fun z e => by cases e; have e6 : Txt.slice nm none (some 6) = SX.S ((tl nm).take 6) := sA 6; rw [e6]; have := lA 6; omega⟩
      · exact ⟨_, .str _, oA 7, fun z e => by cases e; have e6 : Txt.slice nm none (some 7) = SX.S ((tl nm).take 7) := sA 7; rw [e6]; have := lA 7; omega⟩
      · exact ⟨_, .str _, oM, fun z e => by cases e; rw [len_app]; omega⟩
      · exact ⟨_, .str "", ⟨by decide +kernel, by decide +kernel⟩, fun z e => by cases e; decide +kernel⟩
      · exact ⟨_, .non, trivial, fun z e => nomatch e⟩
      · exact ⟨_, .int _, trivial, fun z e => nomatch e⟩
      · exact ⟨.tuple [.str nm], .tup (Same.sqT (same_upd hl2) (.inl (.inl upd_same))) (.cons (.str nm) .nil), trivial, fun z e => nomatch e⟩
      · exact ⟨_, .bl true, trivial, fun z e => nomatch e⟩
    have hl2' : (upd (upd H4 t (.tup [.str nm])) l2 (.lst [.str nm, .str (Txt.slice nm none (some 6)), .str (Txt.slice nm none (some 7)), .str (Txt.slice nm none (some ((pl : Nat) : Int)) ++ od ++ Txt.slice nm (some ((pl : Nat) : Int)) none), .str "", .non, .int (nm.length : Nat), .ref t, .bl true])) l2 = some (.lst [.str nm, .str (Txt.slice nm none (some 6)), .str (Txt.slice nm none (some 7)), .str (Txt.slice nm none (some ((pl : Nat) : Int)) ++ od ++ Txt.slice nm (some ((pl : Nat) : Int)) none), .str "", .non, .int (nm.length : Nat), .ref t, .bl true]) := upd_same
    refine ⟨l2, rfl, ⟨_, .of hl2'⟩, ?_⟩
    generalize hG : upd (upd H4 t (.tup [.str nm])) l2 (.lst [.str nm, .str (Txt.slice nm none (some 6)), .str (Txt.slice nm none (some 7)), .str (Txt.slice nm none (some ((pl : Nat) : Int)) ++ od ++ Txt.slice nm (some ((pl : Nat) : Int)) none), .str "", .non, .int (nm.length : Nat), .ref t, .bl true]) = G at El hl2' F6
    generalize hxs : [V.str nm, V.str (Txt.slice nm none (some 6)), V.str (Txt.slice nm none (some 7)), V.str (Txt.slice nm none (some ((pl : Nat) : Int)) ++ od ++ Txt.slice nm (some ((pl : Nat) : Int)) none), V.str "", V.non, V.int (nm.length : Nat), V.ref t, V.bl true] = xs at El hl2'
    refine for_list (K := K) (a := l2) (xs := xs) (fun i σ H' => ∃ u4 u5 u6 u7, σ = [some (.ref p), some (.str nm), some (.str od), some (.int (pl : Nat)), u4, u5, u6, u7, none, none, none] ∧ Same G H') ⟨_, _, _, _, rfl, by rw [← hG]; exact Same.refl _⟩ (fun i σ H' _ ⟨_, _, _, _, _, s⟩ => .of (s _ _ hl2')) ?_ ?_
    · rintro i y σ H7 hy ⟨u4, u5, u6, u7, rfl, s7⟩
      obtain ⟨d, hd, hok, hshort⟩ := El y (List.mem_of_getElem? hy)
      refine ⟨_, rfl, y, d, rfl, dp_same s7 hd, okC_T hok, fun H8 s8 => ?_⟩
      refine ⟨_, rfl, y, d, 6, rfl, dp_same (s7.trans s8) hd, hok, fun H9 s9 => ⟨_, _, rfl, _, rfl, ite_same ?_⟩⟩
      have s79 := (s7.trans s8).trans s9
      refine ⟨_, rfl, y, d, rfl, dp_same s79 hd, okC_T hok, fun H10 s10 => ?_⟩
      refine ⟨_, rfl, y, d, 12, rfl, dp_same (s79.trans s10) hd, hok, fun H11 s11 => ⟨_, _, rfl, _, rfl, ite_same ?_⟩⟩
      have sB11 := (s79.trans s10).trans s11
      refine ⟨(by show 4 ≤ 16777216; decide), fun l3 hl3 => ⟨l3, rfl, ⟨_, .of upd_same⟩, ?_⟩⟩
      have hl3' : (upd H11 l3 (.lst [.str "t.", .str "s.", .str "u.", .str "t"])) l3 = some (.lst [.str "t.", .str "s.", .str "u.", .str "t"]) := upd_same
      have sG := sB11.trans (same_upd (o := .lst [.str "t.", .str "s.", .str "u.", .str "t"]) hl3)
      generalize upd H11 l3 (HO.lst [V.str "t.", V.str "s.", V.str "u.", V.str "t"]) = H12 at hl3' sG ⊢
      have hd12 := dp_same sG hd
      refine for_list (K := K) (a := l3) (xs := [.str "t.", .str "s.", .str "u.", .str "t"]) (fun i σ H' => ∃ u5 u6 u7, σ = [some (.ref p), some (.str nm), some (.str od), some (.int (pl : Nat)), some y, u5, u6, u7, none, none, none] ∧ Same H12 H') ⟨_, _, _, rfl, Same.refl _⟩ (fun i σ H' _ ⟨_, _, _, _, s⟩ => .of (s _ _ hl3')) ?_ ?_
      · rintro i2 y2 σ H13 hy2 ⟨v5, v6, v7, rfl, s13⟩
        obtain ⟨hd_, rfl, hdm⟩ : ∃ hd_ : Str, y2 = .str hd_ ∧ (hd_ = "t." ∨ hd_ = "s." ∨ hd_ = "u." ∨ hd_ = "t") := by
          have := List.mem_of_getElem? hy2
          simp only [List.mem_cons, List.not_mem_nil, or_false] at this
          rcases this with rfl | rfl | rfl | rfl
          · exact ⟨_, rfl, .inl rfl⟩
          · exact ⟨_, rfl, .inr (.inl rfl)⟩
          · exact ⟨_, rfl, .inr (.inr (.inl rfl))⟩
          · exact ⟨_, rfl, .inr (.inr (.inr rfl))⟩
        have hdl : hd_.length ≤ 2 := by rcases hdm with rfl | rfl | rfl | rfl <;> decide +kernel
        have hd13 := dp_same s13 hd12
        refine gn_mid (fun σ H' => ∃ wv wd, σ = [some (.ref p), some (.str nm), some (.str od), some (.int (pl : Nat)), some y, some (.str hd_), some wv, v7, none, none, none] ∧ H' = H13 ∧ Dp K H13 wv wd ∧ okT wd ∧ okSrc wd = srcOf hd_ d) ?_ (fun hR => ?_)
        · rintro σ H13 ⟨wv, wd, rfl, rfl, hwd, hwT, hws⟩
          refine seq_mid (fun σ H' => ∃ b, b = dueB hd_ d ∧ σ = [some (.ref p), some (.str nm), some (.str od), some (.int (pl : Nat)), some y, some (.str hd_), some wv, some (.bl b), none, none, none] ∧ Same H13 H') ?_ (fun hR => ?_)
          · rintro σ H14 ⟨b, hb, rfl, s14⟩
            have fin : ∀ H15, Same H14 H15 → ∃ u5 u6 u7, ([some (.ref p), some (.str nm), some (.str od), some (.int (pl : Nat)), some y, some (.str hd_), some wv, some (.bl b), none, none, none] : L2.St) = [some (.ref p), some (.str nm), some (.str od), some (.int (pl : Nat)), some y, u5, u6, u7, none, none, none] ∧ Same H12 H15 := fun H15 s15 => ⟨_, _, _, rfl, (s13.trans s14).trans s15⟩
            have hsd := src_due hdm d
            rw [← hws] at hsd
            refine ⟨_, rfl, wv, wd, rfl, dp_same s14 hwd, hwT, fun H15 s15 => ⟨_, rfl, _, rfl, ?_⟩⟩
            refine ite2 (fun hbt => ⟨_, _, rfl, _, rfl, ite_sameE (by rw [hsd, ← hb, hbt]; rfl) (fin H15 s15)⟩) (fun hbf => ⟨_, rfl, rfl, _, rfl, ?_⟩)
            have hbf' : b = false := by cases b <;> simp_all
            refine ite2 (fun ht => ⟨_, rfl, y, d, rfl, dp_same (s14.trans s15) hd13, hok, fun H16 s16 => ⟨_, _, rfl, _, rfl, ite_sameE ?_ (fin H16 (s15.trans s16))⟩⟩) (fun ht => ⟨_, _, rfl, _, rfl, ite_sameE ?_ (fin H15 s15)⟩)
            · rw [str_eq, decide_eq_true_eq] at ht
              rw [hsd, ← hb, hbf', decide_eq_true ht]
              simp
            · rw [str_eq, decide_eq_true_eq] at ht
              rw [hsd, ← hb, hbf', decide_eq_false ht]
              rfl
          · refine ⟨_, rfl, _, _, _, _, _, rfl, .ty _, tyX_of hd13, kitS d, _, rfl, ?_⟩
            cases hS : isS d with
            | false => exact iteF (hR _ _ ⟨false, by unfold dueB; rw [hS]; rfl, rfl, Same.refl _⟩)
            | true =>
              refine iteT ⟨_, rfl, (by show 2 ≤ 16777216; decide), fun e he => ⟨e, _, rfl, .inl (.of upd_same), rfl, rfl, _, rfl, ?_⟩⟩
              have se := same_upd (o := .lst [.str "t.", .str "s."]) he
              have hin : inV (.str hd_) [.str "t.", .str "s."] = (decide (hd_ = "t.") || decide (hd_ = "s.")) := by rcases hdm with rfl | rfl | rfl | rfl <;> decide +kernel
              refine ite2 (fun h1 => ?_) (fun h1 => hR _ _ ⟨false, ?_, rfl, se⟩)
              · have h1' : (decide (hd_ = "t.") || decide (hd_ = "s.")) = true := by rw [← hin]; exact h1
                exact ⟨_, rfl, y, d, 6, rfl, dp_same se hd13, hok, fun H14 s14 => hR _ _ ⟨_, by unfold dueB; rw [hS, h1']; simp, rfl, se.trans s14⟩⟩
              · have h1' : (decide (hd_ = "t.") || decide (hd_ = "s.")) = false := by
                  rw [← hin]
                  cases hq : inV (.str hd_) [.str "t.", .str "s."] with
                  | false => rfl
                  | true => exact absurd hq h1
                unfold dueB
                rw [hS, h1']
                rfl
        · refine ⟨_, rfl, _, _, _, _, _, rfl, .ty _, tyX_of hd13, kitS d, _, rfl, ?_⟩
          cases hS : isS d with
          | true =>
            refine iteT ?_
            cases hd13 <;> try (exact absurd hS Bool.noConfusion)
            rename_i x
            have hx : x.length ≤ 100 := hshort x rfl
            refine ⟨_, rfl, _, rfl, _, _, rfl, rfl, by show _ ≤ 16777216; omega, hR _ _ ⟨.str (hd_ ++ x), .str (hd_ ++ x), rfl, rfl, .str _, ?_, ?_⟩⟩
            · show (hd_ ++ x).length ≤ 1000
              rw [len_app]
              omega
            · show srcL (tl (hd_ ++ x)) = srcL (tl hd_ ++ tl x)
              rw [tl_app]
          | false =>
            refine iteF ⟨_, rfl, hR _ _ ⟨y, d, rfl, rfl, hd13, okC_T hok, ?_⟩⟩
            cases d <;> first | rfl | exact absurd hS Bool.noConfusion
      · rintro σ H13 ⟨v5, v6, v7, rfl, s13⟩
        exact ⟨_, _, _, _, rfl, sG.trans s13⟩
    · rintro σ H7 ⟨u4, u5, u6, u7, rfl, s7⟩
      have F7 := F6.more s7
      have e9 : (10 : Int) ^ (9 : Int).toNat = 1000000000 := by decide
      refine ⟨_, rfl, p, q, rfl, F7.pool, fun num H8 n1 n2 F8 => ?_⟩
      refine ⟨_, rfl, _, _, rfl, rfl, ⟨by decide, by decide, by decide⟩, _, _, rfl, rfl, ⟨by decide, by decide, by decide⟩, _, _, rfl, rfl, _, _, rfl, rfl, ⟨by decide, by decide, by decide⟩, _, rfl, _, _, rfl, rfl, ⟨by decide, by decide, by decide⟩, _, rfl, _, _, rfl, rfl, (by show 8 ≤ 16777216; decide), fun l4 hl4 => ?_⟩
      have F9 : Fr p q H _ := (F7.trans F8).more (same_upd (o := .lst [.int num, .int (10 ^ (9 : Int).toNat), .int (10 ^ (9 : Int).toNat + 1), .int (-(10 ^ (9 : Int).toNat)), .int (-(10 ^ (9 : Int).toNat) - 1), .bl true, .non, .str "1"]) hl4)
      have hl4' : (upd H8 l4 (.lst [.int num, .int (10 ^ (9 : Int).toNat), .int (10 ^ (9 : Int).toNat + 1), .int (-(10 ^ (9 : Int).toNat)), .int (-(10 ^ (9 : Int).toNat) - 1), .bl true, .non, .str "1"])) l4 = some (.lst [.int num, .int (10 ^ (9 : Int).toNat), .int (10 ^ (9 : Int).toNat + 1), .int (-(10 ^ (9 : Int).toNat)), .int (-(10 ^ (9 : Int).toNat) - 1), .bl true, .non, .str "1"]) := upd_same
      refine ⟨l4, rfl, ⟨_, .of hl4'⟩, ?_⟩
      generalize hG2 : upd H8 l4 (HO.lst [V.int num, V.int (10 ^ (9 : Int).toNat), V.int (10 ^ (9 : Int).toNat + 1), V.int (-(10 ^ (9 : Int).toNat)), V.int (-(10 ^ (9 : Int).toNat) - 1), V.bl true, V.non, V.str "1"]) = G2 at F9 hl4'
      refine for_list (K := K) (a := l4) (xs := [.int num, .int (10 ^ (9 : Int).toNat), .int (10 ^ (9 : Int).toNat + 1), .int (-(10 ^ (9 : Int).toNat)), .int (-(10 ^ (9 : Int).toNat) - 1), .bl true, .non, .str "1"]) (fun i σ H' => ∃ v9 v10, σ = [some (.ref p), some (.str nm), some (.str od), some (.int (pl : Nat)), u4, u5, u6, u7, some (.int num), v9, v10] ∧ Same G2 H') ⟨_, _, rfl, by rw [← hG2]; exact Same.refl _⟩ (fun i σ H' _ ⟨_, _, _, s⟩ => .of (s _ _ hl4')) ?_ ?_
      · rintro i y σ H9 hy ⟨v9, v10, rfl, s9⟩
        obtain ⟨d, hdp, hcase⟩ : ∃ d, (∀ H', Dp K H' y d) ∧ ((∃ i, y = .int i ∧ d = .int i) ∨ (y = .bl true ∧ d = .bool true) ∨ (y = .non ∧ d = .none) ∨ (y = .str "1" ∧ d = .str "1")) := by
          have := List.mem_of_getElem? hy
          simp only [List.mem_cons, List.not_mem_nil, or_false] at this
          rcases this with rfl | rfl | rfl | rfl | rfl | rfl | rfl | rfl
          · exact ⟨_, fun _ => .int _, .inl ⟨_, rfl, rfl⟩⟩
          · exact ⟨_, fun _ => .int _, .inl ⟨_, rfl, rfl⟩⟩
          · exact ⟨_, fun _ => .int _, .inl ⟨_, rfl, rfl⟩⟩
          · exact ⟨_, fun _ => .int _, .inl ⟨_, rfl, rfl⟩⟩
          · exact ⟨_, fun _ => .int _, .inl ⟨_, rfl, rfl⟩⟩
          · exact ⟨_, fun _ => .bl _, .inr (.inl ⟨rfl, rfl⟩)⟩
          · exact ⟨_, fun _ => .non, .inr (.inr (.inl ⟨rfl, rfl⟩))⟩
          · exact ⟨_, fun _ => .str _, .inr (.inr (.inr ⟨rfl, rfl⟩))⟩
        refine gn_mid (fun σ H' => ∃ b, b = okI (-1000000000) 1000000000 d ∧ σ = [some (.ref p), some (.str nm), some (.str od), some (.int (pl : Nat)), u4, u5, u6, u7, some (.int num), some y, some (.bl b)] ∧ Same H9 H') ?_ (fun hR => ?_)
        · rintro σ H10 ⟨b, hb, rfl, s10⟩
          have hno : okN 1 d = false := by rcases hcase with ⟨i, _, rfl⟩ | ⟨_, rfl⟩ | ⟨_, rfl⟩ | ⟨_, rfl⟩ <;> rfl
          refine ⟨_, rfl, (by show 1 ≤ 16777216; decide), fun t1 ht1 => ⟨.ref t1, .tuple [d], 1, rfl, .inl rfl, .tup (.inl (.inl upd_same)) (.cons (hdp _) .nil), fun H11 s11 => ⟨_, rfl, _, _, rfl, _, rfl, ite_sameE (by rw [okN1, hb]) ?_⟩⟩⟩
          refine ⟨_, rfl, _, rfl, (by show 2 ≤ 16777216; decide), fun t2 ht2 => ⟨.ref t2, .tuple [.int num, d], 2, rfl, .inr rfl, .tup (.inl (.inl upd_same)) (.cons (.int num) (.cons (hdp _) .nil)), fun H12 s12 => ⟨_, rfl, _, _, rfl, _, rfl, ite_sameE (by rw [okN2 n1 n2, hb]) ?_⟩⟩⟩
          refine ⟨_, rfl, (by show 1 ≤ 16777216; decide), fun t3 ht3 => ⟨.ref t3, .tuple [d], 2, rfl, .inr rfl, .tup (.inl (.inl upd_same)) (.cons (hdp _) .nil), fun H13 s13 => ⟨_, rfl, ite_f rfl ?_⟩⟩⟩
          refine ⟨_, rfl, _, rfl, (by show 2 ≤ 16777216; decide), fun t4 ht4 => ⟨.ref t4, .tuple [.int num, d], 1, rfl, .inl rfl, .tup (.inl (.inl upd_same)) (.cons (.int num) (.cons (hdp _) .nil)), fun H14 s14 => ⟨_, rfl, ite_f rfl ?_⟩⟩⟩
          refine ⟨_, rfl, y, d, 1, rfl, .inl rfl, hdp _, fun H15 s15 => ⟨_, rfl, ite_f hno ?_⟩⟩
          refine ⟨(by show 0 ≤ 16777216; decide), fun t5 ht5 => ⟨.ref t5, .tuple [], 1, rfl, .inl rfl, .tup (.inl (.inl upd_same)) .nil, fun H16 s16 => ⟨_, rfl, ite_f rfl ⟨_, _, rfl, ?_⟩⟩⟩⟩
          have a1 := ((s9.trans s10).trans (same_upd (o := .tup [y]) ht1)).trans s11
          have a2 := (a1.trans (same_upd (o := .tup [.int num, y]) ht2)).trans s12
          have a3 := (a2.trans (same_upd (o := .tup [y]) ht3)).trans s13
          have a4 := ((a3.trans (same_upd (o := .tup [.int num, y]) ht4)).trans s14).trans s15
          exact (a4.trans (same_upd (o := .tup []) ht5)).trans s16
        · rcases hcase with ⟨i, rfl, rfl⟩ | ⟨rfl, rfl⟩ | ⟨rfl, rfl⟩ | ⟨rfl, rfl⟩
          · refine ⟨_, rfl, _, _, _, _, _, rfl, .ty _, .base (.int i), kitB' (.int i), _, rfl, _, rfl, iteT ⟨_, rfl, _, _, _, _, _, rfl, .ty _, .base (.int i), kitI (.int i), _, rfl, iteT ?_⟩⟩
            refine ⟨_, _, rfl, rfl, ⟨by decide, by decide, by decide⟩, _, rfl, _, rfl, _, _, rfl, rfl, _, rfl, ?_⟩
            refine ite2 (fun h1 => ⟨_, _, rfl, rfl, ⟨by decide, by decide, by decide⟩, _, _, rfl, rfl, hR _ _ ⟨_, ?_, rfl, Same.refl _⟩⟩) (fun h1 => hR _ _ ⟨_, ?_, rfl, Same.refl _⟩)
            · have h1' : decide (-1000000000 ≤ i) = true := by rw [e9] at h1; exact h1
              show decide (i ≤ 10 ^ (9 : Int).toNat) = (decide (-1000000000 ≤ i) && decide (i ≤ 1000000000))
              rw [h1', e9]
              rfl
            · have h1' : decide (-1000000000 ≤ i) = false := by
                rw [e9] at h1
                cases hq : decide (-1000000000 ≤ i) with
                | false => rfl
                | true => exact absurd hq h1
              show false = (decide (-1000000000 ≤ i) && decide (i ≤ 1000000000))
              rw [h1']
              rfl
          · exact ⟨_, rfl, _, _, _, _, _, rfl, .ty _, .base (.bl true), kitB' (.bool true), _, rfl, _, rfl, iteF (hR _ _ ⟨_, rfl, rfl, Same.refl _⟩)⟩
          · exact ⟨_, rfl, _, _, _, _, _, rfl, .ty _, .base .non, kitB' .none, _, rfl, _, rfl, iteT ⟨_, rfl, _, _, _, _, _, rfl, .ty _, .base .non, kitI .none, _, rfl, iteF (hR _ _ ⟨_, rfl, rfl, Same.refl _⟩)⟩⟩
          · exact ⟨_, rfl, _, _, _, _, _, rfl, .ty _, .base (.str "1"), kitB' (.str "1"), _, rfl, _, rfl, iteT ⟨_, rfl, _, _, _, _, _, rfl, .ty _, .base (.str "1"), kitI (.str "1"), _, rfl, iteF (hR _ _ ⟨_, rfl, rfl, Same.refl _⟩)⟩⟩
      · rintro σ H9 ⟨v9, v10, rfl, s9⟩
        exact q1 H9 (F9.more s9)
end
end K75
set_option maxHeartbeats 4000000
/-! k75: the law -/
namespace K75
open PySem PySem.Spec PyProof.Rows L2 L2H
section
variable {P : Program} {w : World} {K : PySem.W.Frag} {mg : Str → Option Value} {base : Heap}
abbrev ns_law : List Str := ["script", "pool", "thing", "low", "high", "words", "maps", "turn", "deed"]
theorem sc70 : FnScope ["script", "pool", "thing", "low", "high", "words", "maps", "turn", "deed"] ["script"] (defScope (top 70)) := ⟨rfl, rfl, rfl, by decide +kernel, rfl, by decide +kernel, by decide +kernel⟩
def sp_law (K : PySem.W.Frag) : Sp := fun vs H Q _ => ∃ a, ∃ ns : List Int, vs = [.ref a] ∧ SqL K H a (ns.map V.int) ∧ ns.length ≤ 100000 ∧ ∀ H', Q (.bl true) H'
theorem d_law (T : TxtX w K mg) : Def P w K mg base CX0 10 "law" ["script"] (sp_law K) := by
  obtain ⟨f, fd, F, m, b⟩ := T.a70
  refine ⟨f, fd, m, F.kp, b, F.ok sc70 (fun vs H Q E h => ?_) (fun cdv A outer s H vs Q E hr h => ?_)⟩
  · obtain ⟨a, ns, rfl, _⟩ := h; rfl
  · have nd := sc70.nd
    have hu := hr.units
    have hu1 : (A.deeper (envOfC "law" (defScope (top 70)) s.heap.objs.size f cdv)).units + 1 < cLine := by omega
    obtain ⟨a, ns, rfl, hs, hl, q1⟩ := h
    refine ⟨_, (pss_cons (ps_set (i := 1) nd rfl (Or.inl rfl) (pe_def (d__law_pool T) (hr.mono (by decide)) (pa_cons (pv 0) pa_nil)))
      (pss_cons (ps_for PassesOwn.never rfl (pi_list (pe_lst (pa_cons (pe_tup pa_nil) (pa_cons pe_non (pa_cons pe_str (pa_cons (pe_tup (pa_cons pe_str pa_nil)) (pa_cons (pe_tup (pa_cons pe_non (pa_cons pe_str pa_nil))) (pa_cons (pe_tup (pa_cons (pe_tup pa_nil) (pa_cons pe_str pa_nil))) (pa_cons pe_int pa_nil))))))))) (pg_name (i := 2) nd rfl (Or.inl rfl)) (pss_one (ps_if (pt_not (pt_val (pe_def (d__law_refused T) (hr.mono (by decide)) (pa_cons (pv 2) (pa_cons pe_int pa_nil))))) (pss_one (ps_ret pe_bl)) pss_nil)))
      (pss_cons (ps_for PassesOwn.never rfl (pi_list (pe_lst (pa_cons (pe_tup (pa_cons pe_str (pa_cons pe_str pa_nil))) (pa_cons (pe_tup (pa_cons pe_str (pa_cons pe_str pa_nil))) pa_nil)))) (pg_tup rfl (pgs_cons (pg_name (i := 3) nd rfl (Or.inl rfl)) (pgs_cons (pg_name (i := 4) nd rfl (Or.inl rfl)) pgs_nil))) (pss_one (ps_if (pt_not (pt_val (pe_def (d__law_refused T) (hr.mono (by decide)) (pa_cons (pe_tup (pa_cons pe_str (pa_cons pe_str (pa_cons (pv 3) (pa_cons (pv 4) pa_nil))))) (pa_cons pe_int pa_nil))))) (pss_one (ps_ret pe_bl)) pss_nil)))
      (pss_cons (ps_if (pt_not (pt_val (pe_def (d__law_names_right T) (hr.mono (by decide)) (pa_cons (pv 1) pa_nil)))) (pss_one (ps_ret pe_bl)) pss_nil)
      (pss_cons (ps_set (i := 5) nd rfl (Or.inl rfl) (pe_lst (pa_cons pe_str (pa_cons pe_str (pa_cons pe_str (pa_cons pe_str (pa_cons pe_str (pa_cons pe_str (pa_cons pe_str (pa_cons pe_str (pa_cons pe_str (pa_cons pe_str (pa_cons pe_str (pa_cons pe_str pa_nil))))))))))))))
      (pss_cons (ps_set (i := 6) nd rfl (Or.inl rfl) (pe_def (d__law_maps T) (hr.mono (by decide)) (pa_cons (pv 1) (pa_cons pe_int (pa_cons pe_int pa_nil)))))
      (pss_cons (ps_for PassesOwn.never rfl (pi_range1 (by rfl) T.b.range (pa_cons pe_int pa_nil)) (pg_name (i := 7) nd rfl (Or.inl rfl)) (pss_cons (ps_set (i := 8) nd rfl (Or.inl rfl) (pe_def (d__law_store_deed T) (hr.mono (by decide)) (pa_cons (pv 1) (pa_cons (pv 6) (pa_cons (pv 5) pa_nil)))))
      (pss_one (ps_if (pt_not (pt_val (pe_def (d__law_deed_right T) (hr.mono (by decide)) (pa_cons (pv 1) (pa_cons (pv 8) pa_nil))))) (pss_one (ps_ret pe_bl)) pss_nil))))
      (pss_one (ps_ret pe_bl))))))))), ?_⟩
    refine ⟨_, rfl, a, ns, rfl, hs, hl, fun p q H1 hp hq s1 PL => ?_⟩
    refine ⟨(by show 0 ≤ 16777216; decide), fun t1 h1 => ⟨(by show 1 ≤ 16777216; decide), fun t2 h2 => ⟨(by show 2 ≤ 16777216; decide), fun t3 h3 => ⟨(by show 0 ≤ 16777216; decide), fun t4 h4 => ⟨(by show 2 ≤ 16777216; decide), fun t5 h5 => ⟨(by show 7 ≤ 16777216; decide), fun l1 hl1 => ?_⟩⟩⟩⟩⟩⟩
    have F1 : Fr p q H1 (upd (upd (upd (upd (upd (upd H1 t1 (.tup [])) t2 (.tup [.str "put"])) t3 (.tup [.non, .str "a"])) t4 (.tup [])) t5 (.tup [.ref t4, .str "a"])) l1 (.lst [.ref t1, .non, .str "put", .ref t2, .ref t3, .ref t5, .int 7])) :=
      .of_same PL (((((same_upd h1).trans (same_upd h2)).trans (same_upd h3)).trans (same_upd h4)).trans ((same_upd h5).trans (same_upd hl1)))
    have El : ∀ y ∈ [V.ref t1, V.non, V.str "put", V.ref t2, V.ref t3, V.ref t5, V.int 7], ∃ d, Dp K (upd (upd (upd (upd (upd (upd H1 t1 (.tup [])) t2 (.tup [.str "put"])) t3 (.tup [.non, .str "a"])) t4 (.tup [])) t5 (.tup [.ref t4, .str "a"])) l1 (.lst [.ref t1, .non, .str "put", .ref t2, .ref t3, .ref t5, .int 7])) y d ∧ okF d ∧ firstBad d = 0 := by
      have z5 := same_upd (o := .lst [.ref t1, .non, .str "put", .ref t2, .ref t3, .ref t5, .int 7]) hl1
      have z4 := (same_upd (o := .tup [.ref t4, .str "a"]) h5).trans z5
      have z3 := (same_upd (o := .tup []) h4).trans z4
      have z2 := (same_upd (o := .tup [.non, .str "a"]) h3).trans z3
      have z1 := (same_upd (o := .tup [.str "put"]) h2).trans z2
      have ta : okT (.str "a") := by show ("a" : Str).length ≤ 1000; decide +kernel
      intro y hy
      simp only [List.mem_cons, List.not_mem_nil, or_false] at hy
      rcases hy with rfl | rfl | rfl | rfl | rfl | rfl | rfl
      · exact ⟨.tuple [], .tup (Same.sqT z1 (.inl (.inl upd_same))) .nil, ⟨(fun e he => nomatch he), (fun w' ps e => nomatch e)⟩, rfl⟩
      · exact ⟨_, .non, trivial, rfl⟩
      · exact ⟨_, .str "put", trivial, rfl⟩
      · refine ⟨.tuple [.str "put"], .tup (Same.sqT z2 (.inl (.inl upd_same))) (.cons (.str "put") .nil), ⟨fun e he => ?_, fun w' ps e => .inl ?_⟩, by decide +kernel⟩
        · rw [List.mem_singleton.mp he]
          show ("put" : Str).length ≤ 1000
          decide +kernel
        · rw [← (PyData.str.inj (List.cons.inj e).1)]
          decide +kernel
      · refine ⟨.tuple [.none, .str "a"], .tup (Same.sqT z3 (.inl (.inl upd_same))) (.cons .non (.cons (.str "a") .nil)), ⟨fun e he => ?_, fun w' ps e => nomatch (List.cons.inj e).1⟩, rfl⟩
        rcases List.mem_cons.mp he with rfl | he
        · exact trivial
        · rw [List.mem_singleton.mp he]
          exact ta
      · refine ⟨.tuple [.tuple [], .str "a"], .tup (Same.sqT z5 (.inl (.inl upd_same))) (.cons (.tup (Same.sqT z4 (.inl (.inl upd_same))) .nil) (.cons (.str "a") .nil)), ⟨fun e he => ?_, fun w' ps e => nomatch (List.cons.inj e).1⟩, rfl⟩
        rcases List.mem_cons.mp he with rfl | he
        · exact trivial
        · rw [List.mem_singleton.mp he]
          exact ta
      · exact ⟨_, .int 7, trivial, rfl⟩
    have hl1' : (upd (upd (upd (upd (upd (upd H1 t1 (.tup [])) t2 (.tup [.str "put"])) t3 (.tup [.non, .str "a"])) t4 (.tup [])) t5 (.tup [.ref t4, .str "a"])) l1 (.lst [.ref t1, .non, .str "put", .ref t2, .ref t3, .ref t5, .int 7])) l1 = some (.lst [.ref t1, .non, .str "put", .ref t2, .ref t3, .ref t5, .int 7]) := upd_same
    refine ⟨l1, rfl, ⟨_, .of hl1'⟩, ?_⟩
    generalize hG : upd (upd (upd (upd (upd (upd H1 t1 (.tup [])) t2 (.tup [.str "put"])) t3 (.tup [.non, .str "a"])) t4 (.tup [])) t5 (.tup [.ref t4, .str "a"])) l1 (.lst [.ref t1, .non, .str "put", .ref t2, .ref t3, .ref t5, .int 7]) = G at F1 El hl1'
    have PG := F1.pool
    refine for_list (K := K) (a := l1) (xs := [.ref t1, .non, .str "put", .ref t2, .ref t3, .ref t5, .int 7]) (fun i σ H' => ∃ u2, σ = [some (.ref a), some (.ref p), u2, none, none, none, none, none, none] ∧ Same G H') ⟨_, rfl, by rw [← hG]; exact Same.refl _⟩ (fun i σ H' _ ⟨_, _, s⟩ => .of (s _ _ hl1')) ?_ ?_
    · rintro i y σ H2 hy ⟨u2, rfl, s2⟩
      obtain ⟨d, hd, hok, hf⟩ := El y (List.mem_of_getElem? hy)
      exact ⟨_, rfl, y, d, 0, rfl, dp_same s2 hd, hok, by decide, hf, fun H3 s3 => ⟨_, rfl, iteF ⟨_, rfl, s2.trans s3⟩⟩⟩
    · rintro σ H2 ⟨u2, rfl, s2⟩
      have P2 := PG.same s2
      refine ⟨(by show 2 ≤ 16777216; decide), fun b1 hb1 => ⟨(by show 2 ≤ 16777216; decide), fun b2 hb2 => ⟨(by show 2 ≤ 16777216; decide), fun l2 hl2 => ?_⟩⟩⟩
      have z2 := same_upd (o := .lst [.ref b1, .ref b2]) hl2
      have z1 := (same_upd (o := .tup [.str "b", .str "a"]) hb2).trans z2
      have z0 := (same_upd (o := .tup [.str "b", .str "b"]) hb1).trans z1
      have hl2' : (upd (upd (upd H2 b1 (.tup [.str "b", .str "b"])) b2 (.tup [.str "b", .str "a"])) l2 (.lst [.ref b1, .ref b2])) l2 = some (.lst [.ref b1, .ref b2]) := upd_same
      have hb1' : SqT K (upd (upd (upd H2 b1 (.tup [.str "b", .str "b"])) b2 (.tup [.str "b", .str "a"])) l2 (.lst [.ref b1, .ref b2])) b1 [.str "b", .str "b"] := Same.sqT z1 (.inl (.inl upd_same))
      have hb2' : SqT K (upd (upd (upd H2 b1 (.tup [.str "b", .str "b"])) b2 (.tup [.str "b", .str "a"])) l2 (.lst [.ref b1, .ref b2])) b2 [.str "b", .str "a"] := Same.sqT z2 (.inl (.inl upd_same))
      refine ⟨l2, rfl, ⟨_, .of hl2'⟩, ?_⟩
      generalize hG2 : upd (upd (upd H2 b1 (.tup [.str "b", .str "b"])) b2 (.tup [.str "b", .str "a"])) l2 (.lst [.ref b1, .ref b2]) = G2 at z0 hl2' hb1' hb2'
      refine for_list (K := K) (a := l2) (xs := [.ref b1, .ref b2]) (fun i σ H' => ∃ u3 u4, σ = [some (.ref a), some (.ref p), u2, u3, u4, none, none, none, none] ∧ Same G2 H') ⟨_, _, rfl, by rw [← hG2]; exact Same.refl _⟩ (fun i σ H' _ ⟨_, _, _, s⟩ => .of (s _ _ hl2')) ?_ ?_
      · rintro i y σ H3 hy ⟨u3, u4, rfl, s3⟩
        have hcl : ∀ hi : Str, (hi = "b" ∨ hi = "a") → okF (.tuple [.str "clear", .str "a", .str "b", .str hi]) ∧ firstBad (.tuple [.str "clear", .str "a", .str "b", .str hi]) = 3 := by
          intro hi h
          refine ⟨⟨fun e he => ?_, fun w' ps e => .inl ?_⟩, by rcases h with rfl | rfl <;> decide +kernel⟩
          · simp only [List.mem_cons, List.not_mem_nil, or_false] at he
            rcases he with rfl | rfl | rfl | rfl
            · show ("clear" : Str).length ≤ 1000
              decide +kernel
            · show ("a" : Str).length ≤ 1000
              decide +kernel
            · show ("b" : Str).length ≤ 1000
              decide +kernel
            · show hi.length ≤ 1000
              rcases h with rfl | rfl <;> decide +kernel
          · rw [← (PyData.str.inj (List.cons.inj e).1)]
            decide +kernel
        have turn : ∀ (b : Addr) (hi : Str), (hi = "b" ∨ hi = "a") → SqT K G2 b [.str "b", .str hi] → ∀ t, H3 t = none → ∃ v d i, ([V.ref t, V.int 3] : List V) = [v, .int i] ∧ Dp K (upd H3 t (.tup [.str "clear", .str "a", .str "b", .str hi])) v d ∧ okF d ∧ 0 ≤ i ∧ firstBad d = i := fun b hi h _ t ht =>
          ⟨.ref t, _, 3, rfl, .tup (.inl (.inl upd_same)) (.cons (.str "clear") (.cons (.str "a") (.cons (.str "b") (.cons (.str hi) .nil)))), (hcl hi h).1, by decide, (hcl hi h).2⟩
        obtain ⟨b, hi, rfl, hhi, hsq⟩ : ∃ (b : Addr) (hi : Str), y = .ref b ∧ (hi = "b" ∨ hi = "a") ∧ SqT K G2 b [.str "b", .str hi] := by
          have := List.mem_of_getElem? hy
          simp only [List.mem_cons, List.not_mem_nil, or_false] at this
          rcases this with rfl | rfl
          · exact ⟨b1, "b", rfl, .inl rfl, hb1'⟩
          · exact ⟨b2, "a", rfl, .inr rfl, hb2'⟩
        refine ⟨b, _, rfl, Same.sqT s3 hsq, rfl, _, _, rfl, _, _, rfl, rfl, ?_⟩
        refine ⟨_, rfl, _, rfl, (by show 4 ≤ 16777216; decide), fun t ht => ?_⟩
        obtain ⟨v, d, i3, e1, e2, e3, e4, e5⟩ := turn b hi hhi hsq t ht
        exact ⟨v, d, i3, e1, e2, e3, e4, e5, fun H4 s4 => ⟨_, rfl, iteF ⟨_, _, rfl, (s3.trans (same_upd ht)).trans s4⟩⟩⟩
      · rintro σ H3 ⟨u3, u4, rfl, s3⟩
        have P3 := P2.same (z0.trans s3)
        refine ⟨_, rfl, p, q, rfl, P3, fun H4 F4 => ⟨_, rfl, iteF ?_⟩⟩
        refine ⟨(by show 12 ≤ 16777216; decide), fun wl hwl => ?_⟩
        have F5 := F4.more (same_upd (o := .lst (ws12.map V.str)) hwl)
        have hwl' : (upd H4 wl (.lst (ws12.map V.str))) wl = some (.lst (ws12.map V.str)) := upd_same
        have wp := F4.pool.p_ne hwl
        have wq := F4.pool.q_ne hwl
        refine ⟨_, rfl, p, q, rfl, F5.pool, fun m H6 hm hM F6 => ?_⟩
        have hwl6 := F6.keep _ _ wp wq hwl'
        refine ⟨(3 : Int), rfl, by decide, by decide, for_range (fun i σ H' => ∃ u7 u8, σ = [some (.ref a), some (.ref p), u2, u3, u4, some (.ref wl), some (.ref m), u7, u8] ∧ Fr p q H6 H') ⟨_, _, rfl, .refl F6.pool⟩ ?_ ?_⟩
        · rintro i σ H7 hi ⟨u7, u8, rfl, F7⟩
          refine ⟨_, rfl, _, rfl, _, rfl, p, q, m, 8, wl, rfl, F7.pool, hM.fr F6.pool F7, by decide, F7.keep _ _ wp wq hwl6, wp, wq, fun v H8 hD F8 => ?_⟩
          refine ⟨_, rfl, _, rfl, p, q, v, rfl, F8.pool, hD, fun H9 F9 => ⟨_, rfl, iteF ⟨_, _, rfl, (F7.trans F8).trans F9⟩⟩⟩
        · rintro σ H7 ⟨u7, u8, rfl, F7⟩
          exact q1 H7
end
end K75
set_option maxHeartbeats 4000000
/-! k75: the end -/
namespace K75
open PySem PySem.Spec PyProof.Rows L2 L2H
section
variable {P : Program} {w : World} {K : PySem.W.Frag} {mg : Str → Option Value} {base : Heap}
theorem law_ok (T : TxtX w K mg) {f : Addr} {fd : FuncData} (F : Fun K "law" "law" (top 70) f fd) : FnOk P w K mg base CX0 10 f fd ["script"] (sp_law K) := by
  refine F.ok sc70 (fun vs H Q E h => ?_) (fun cdv A outer s H vs Q E hr h => ?_)
  · obtain ⟨a, ns, rfl, _⟩ := h; rfl
  · have nd := sc70.nd
    have hu := hr.units
    have hu1 : (A.deeper (envOfC "law" (defScope (top 70)) s.heap.objs.size f cdv)).units + 1 < cLine := by omega
    obtain ⟨a, ns, rfl, hs, hl, q1⟩ := h
    refine ⟨_, (pss_cons (ps_set (i := 1) nd rfl (Or.inl rfl) (pe_def (d__law_pool T) (hr.mono (by decide)) (pa_cons (pv 0) pa_nil)))
      (pss_cons (ps_for PassesOwn.never rfl (pi_list (pe_lst (pa_cons (pe_tup pa_nil) (pa_cons pe_non (pa_cons pe_str (pa_cons (pe_tup (pa_cons pe_str pa_nil)) (pa_cons (pe_tup (pa_cons pe_non (pa_cons pe_str pa_nil))) (pa_cons (pe_tup (pa_cons (pe_tup pa_nil) (pa_cons pe_str pa_nil))) (pa_cons pe_int pa_nil))))))))) (pg_name (i := 2) nd rfl (Or.inl rfl)) (pss_one (ps_if (pt_not (pt_val (pe_def (d__law_refused T) (hr.mono (by decide)) (pa_cons (pv 2) (pa_cons pe_int pa_nil))))) (pss_one (ps_ret pe_bl)) pss_nil)))
      (pss_cons (ps_for PassesOwn.never rfl (pi_list (pe_lst (pa_cons (pe_tup (pa_cons pe_str (pa_cons pe_str pa_nil))) (pa_cons (pe_tup (pa_cons pe_str (pa_cons pe_str pa_nil))) pa_nil)))) (pg_tup rfl (pgs_cons (pg_name (i := 3) nd rfl (Or.inl rfl)) (pgs_cons (pg_name (i := 4) nd rfl (Or.inl rfl)) pgs_nil))) (pss_one (ps_if (pt_not (pt_val (pe_def (d__law_refused T) (hr.mono (by decide)) (pa_cons (pe_tup (pa_cons pe_str (pa_cons pe_str (pa_cons (pv 3) (pa_cons (pv 4) pa_nil))))) (pa_cons pe_int pa_nil))))) (pss_one (ps_ret pe_bl)) pss_nil)))
      (pss_cons (ps_if (pt_not (pt_val (pe_def (d__law_names_right T) (hr.mono (by decide)) (pa_cons (pv 1) pa_nil)))) (pss_one (ps_ret pe_bl)) pss_nil)
      (pss_cons (ps_set (i := 5) nd rfl (Or.inl rfl) (pe_lst (pa_cons pe_str (pa_cons pe_str (pa_cons pe_str (pa_cons pe_str (pa_cons pe_str (pa_cons pe_str (pa_cons pe_str (pa_cons pe_str (pa_cons pe_str (pa_cons pe_str (pa_cons pe_str (pa_cons pe_str pa_nil))))))))))))))
      (pss_cons (ps_set (i := 6) nd rfl (Or.inl rfl) (pe_def (d__law_maps T) (hr.mono (by decide)) (pa_cons (pv 1) (pa_cons pe_int (pa_cons pe_int pa_nil)))))
      (pss_cons (ps_for PassesOwn.never rfl (pi_range1 (by rfl) T.b.range (pa_cons pe_int pa_nil)) (pg_name (i := 7) nd rfl (Or.inl rfl)) (pss_cons (ps_set (i := 8) nd rfl (Or.inl rfl) (pe_def (d__law_store_deed T) (hr.mono (by decide)) (pa_cons (pv 1) (pa_cons (pv 6) (pa_cons (pv 5) pa_nil)))))
      (pss_one (ps_if (pt_not (pt_val (pe_def (d__law_deed_right T) (hr.mono (by decide)) (pa_cons (pv 1) (pa_cons (pv 8) pa_nil))))) (pss_one (ps_ret pe_bl)) pss_nil))))
      (pss_one (ps_ret pe_bl))))))))), ?_⟩
    refine ⟨_, rfl, a, ns, rfl, hs, hl, fun p q H1 hp hq s1 PL => ?_⟩
    refine ⟨(by show 0 ≤ 16777216; decide), fun t1 h1 => ⟨(by show 1 ≤ 16777216; decide), fun t2 h2 => ⟨(by show 2 ≤ 16777216; decide), fun t3 h3 => ⟨(by show 0 ≤ 16777216; decide), fun t4 h4 => ⟨(by show 2 ≤ 16777216; decide), fun t5 h5 => ⟨(by show 7 ≤ 16777216; decide), fun l1 hl1 => ?_⟩⟩⟩⟩⟩⟩
    have F1 : Fr p q H1 (upd (upd (upd (upd (upd (upd H1 t1 (.tup [])) t2 (.tup [.str "put"])) t3 (.tup [.non, .str "a"])) t4 (.tup [])) t5 (.tup [.ref t4, .str "a"])) l1 (.lst [.ref t1, .non, .str "put", .ref t2, .ref t3, .ref t5, .int 7])) :=
      .of_same PL (((((same_upd h1).trans (same_upd h2)).trans (same_upd h3)).trans (same_upd h4)).trans ((same_upd h5).trans (same_upd hl1)))
    have El : ∀ y ∈ [V.ref t1, V.non, V.str "put", V.ref t2, V.ref t3, V.ref t5, V.int 7], ∃ d, Dp K (upd (upd (upd (upd (upd (upd H1 t1 (.tup [])) t2 (.tup [.str "put"])) t3 (.tup [.non, .str "a"])) t4 (.tup [])) t5 (.tup [.ref t4, .str "a"])) l1 (.lst [.ref t1, .non, .str "put", .ref t2, .ref t3, .ref t5, .int 7])) y d ∧ okF d ∧ firstBad d = 0 := by
      have z5 := same_upd (o := .lst [.ref t1, .non, .str "put", .ref t2, .ref t3, .ref t5, .int 7]) hl1
      have z4 := (same_upd (o := .tup [.ref t4, .str "a"]) h5).trans z5
      have z3 := (same_upd (o := .tup []) h4).trans z4
      have z2 := (same_upd (o := .tup [.non, .str "a"]) h3).trans z3
      have z1 := (same_upd (o := .tup [.str "put"]) h2).trans z2
      have ta : okT (.str "a") := by show ("a" : Str).length ≤ 1000; decide +kernel
      intro y hy
      simp only [List.mem_cons, List.not_mem_nil, or_false] at hy
      rcases hy with rfl | rfl | rfl | rfl | rfl | rfl | rfl
      · exact ⟨.tuple [], .tup (Same.sqT z1 (.inl (.inl upd_same))) .nil, ⟨(fun e he => nomatch he), (fun w' ps e => nomatch e)⟩, rfl⟩
      · exact ⟨_, .non, trivial, rfl⟩
      · exact ⟨_, .str "put", trivial, rfl⟩
      · refine ⟨.tuple [.str "put"], .tup (Same.sqT z2 (.inl (.inl upd_same))) (.cons (.str "put") .nil), ⟨fun e he => ?_, fun w' ps e => .inl ?_⟩, by decide +kernel⟩
        · rw [List.mem_singleton.mp he]
          show ("put" : Str).length ≤ 1000
          decide +kernel
        · rw [← (PyData.str.inj (List.cons.inj e).1)]
          decide +kernel
      · refine ⟨.tuple [.none, .str "a"], .tup (Same.sqT z3 (.inl (.inl upd_same))) (.cons .non (.cons (.str "a") .nil)), ⟨fun e he => ?_, fun w' ps e => nomatch (List.cons.inj e).1⟩, rfl⟩
        rcases List.mem_cons.mp he with rfl | he
        · exact trivial
        · rw [List.mem_singleton.mp he]
          exact ta
      · refine ⟨.tuple [.tuple [], .str "a"], .tup (Same.sqT z5 (.inl (.inl upd_same))) (.cons (.tup (Same.sqT z4 (.inl (.inl upd_same))) .nil) (.cons (.str "a") .nil)), ⟨fun e he => ?_, fun w' ps e => nomatch (List.cons.inj e).1⟩, rfl⟩
        rcases List.mem_cons.mp he with rfl | he
        · exact trivial
        · rw [List.mem_singleton.mp he]
          exact ta
      · exact ⟨_, .int 7, trivial, rfl⟩
    have hl1' : (upd (upd (upd (upd (upd (upd H1 t1 (.tup [])) t2 (.tup [.str "put"])) t3 (.tup [.non, .str "a"])) t4 (.tup [])) t5 (.tup [.ref t4, .str "a"])) l1 (.lst [.ref t1, .non, .str "put", .ref t2, .ref t3, .ref t5, .int 7])) l1 = some (.lst [.ref t1, .non, .str "put", .ref t2, .ref t3, .ref t5, .int 7]) := upd_same
    refine ⟨l1, rfl, ⟨_, .of hl1'⟩, ?_⟩
    generalize hG : upd (upd (upd (upd (upd (upd H1 t1 (.tup [])) t2 (.tup [.str "put"])) t3 (.tup [.non, .str "a"])) t4 (.tup [])) t5 (.tup [.ref t4, .str "a"])) l1 (.lst [.ref t1, .non, .str "put", .ref t2, .ref t3, .ref t5, .int 7]) = G at F1 El hl1'
    have PG := F1.pool
    refine for_list (K := K) (a := l1) (xs := [.ref t1, .non, .str "put", .ref t2, .ref t3, .ref t5, .int 7]) (fun i σ H' => ∃ u2, σ = [some (.ref a), some (.ref p), u2, none, none, none, none, none, none] ∧ Same G H') ⟨_, rfl, by rw [← hG]; exact Same.refl _⟩ (fun i σ H' _ ⟨_, _, s⟩ => .of (s _ _ hl1')) ?_ ?_
    · rintro i y σ H2 hy ⟨u2, rfl, s2⟩
      obtain ⟨d, hd, hok, hf⟩ := El y (List.mem_of_getElem? hy)
      exact ⟨_, rfl, y, d, 0, rfl, dp_same s2 hd, hok, by decide, hf, fun H3 s3 => ⟨_, rfl, iteF ⟨_, rfl, s2.trans s3⟩⟩⟩
    · rintro σ H2 ⟨u2, rfl, s2⟩
      have P2 := PG.same s2
      refine ⟨(by show 2 ≤ 16777216; decide), fun b1 hb1 => ⟨(by show 2 ≤ 16777216; decide), fun b2 hb2 => ⟨(by show 2 ≤ 16777216; decide), fun l2 hl2 => ?_⟩⟩⟩
      have z2 := same_upd (o := .lst [.ref b1, .ref b2]) hl2
      have z1 := (same_upd (o := .tup [.str "b", .str "a"]) hb2).trans z2
      have z0 := (same_upd (o := .tup [.str "b", .str "b"]) hb1).trans z1
      have hl2' : (upd (upd (upd H2 b1 (.tup [.str "b", .str "b"])) b2 (.tup [.str "b", .str "a"])) l2 (.lst [.ref b1, .ref b2])) l2 = some (.lst [.ref b1, .ref b2]) := upd_same
      have hb1' : SqT K (upd (upd (upd H2 b1 (.tup [.str "b", .str "b"])) b2 (.tup [.str "b", .str "a"])) l2 (.lst [.ref b1, .ref b2])) b1 [.str "b", .str "b"] := Same.sqT z1 (.inl (.inl upd_same))
      have hb2' : SqT K (upd (upd (upd H2 b1 (.tup [.str "b", .str "b"])) b2 (.tup [.str "b", .str "a"])) l2 (.lst [.ref b1, .ref b2])) b2 [.str "b", .str "a"] := Same.sqT z2 (.inl (.inl upd_same))
      refine ⟨l2, rfl, ⟨_, .of hl2'⟩, ?_⟩
      generalize hG2 : upd (upd (upd H2 b1 (.tup [.str "b", .str "b"])) b2 (.tup [.str "b", .str "a"])) l2 (.lst [.ref b1, .ref b2]) = G2 at z0 hl2' hb1' hb2'
      refine for_list (K := K) (a := l2) (xs := [.ref b1, .ref b2]) (fun i σ H' => ∃ u3 u4, σ = [some (.ref a), some (.ref p), u2, u3, u4, none, none, none, none] ∧ Same G2 H') ⟨_, _, rfl, by rw [← hG2]; exact Same.refl _⟩ (fun i σ H' _ ⟨_, _, _, s⟩ => .of (s _ _ hl2')) ?_ ?_
      · rintro i y σ H3 hy ⟨u3, u4, rfl, s3⟩
        have hcl : ∀ hi : Str, (hi = "b" ∨ hi = "a") → okF (.tuple [.str "clear", .str "a", .str "b", .str hi]) ∧ firstBad (.tuple [.str "clear", .str "a", .str "b", .str hi]) = 3 := by
          intro hi h
          refine ⟨⟨fun e he => ?_, fun w' ps e => .inl ?_⟩, by rcases h with rfl | rfl <;> decide +kernel⟩
          · simp only [List.mem_cons, List.not_mem_nil, or_false] at he
            rcases he with rfl | rfl | rfl | rfl
            · show ("clear" : Str).length ≤ 1000
              decide +kernel
            · show ("a" : Str).length ≤ 1000
              decide +kernel
            · show ("b" : Str).length ≤ 1000
              decide +kernel
            · show hi.length ≤ 1000
              rcases h with rfl | rfl <;> decide +kernel
          · rw [← (PyData.str.inj (List.cons.inj e).1)]
            decide +kernel
        have turn : ∀ (b : Addr) (hi : Str), (hi = "b" ∨ hi = "a") → SqT K G2 b [.str "b", .str hi] → ∀ t, H3 t = none → ∃ v d i, ([V.ref t, V.int 3] : List V) = [v, .int i] ∧ Dp K (upd H3 t (.tup [.str "clear", .str "a", .str "b", .str hi])) v d ∧ okF d ∧ 0 ≤ i ∧ firstBad d = i := fun b hi h _ t ht =>
          ⟨.ref t, _, 3, rfl, .tup (.inl (.inl upd_same)) (.cons (.str "clear") (.cons (.str "a") (.cons (.str "b") (.cons (.str hi) .nil)))), (hcl hi h).1, by decide, (hcl hi h).2⟩
        obtain ⟨b, hi, rfl, hhi, hsq⟩ : ∃ (b : Addr) (hi : Str), y = .ref b ∧ (hi = "b" ∨ hi = "a") ∧ SqT K G2 b [.str "b", .str hi] := by
          have := List.mem_of_getElem? hy
          simp only [List.mem_cons, List.not_mem_nil, or_false] at this
          rcases this with rfl | rfl
          · exact ⟨b1, "b", rfl, .inl rfl, hb1'⟩
          · exact ⟨b2, "a", rfl, .inr rfl, hb2'⟩
        refine ⟨b, _, rfl, Same.sqT s3 hsq, rfl, _, _, rfl, _, _, rfl, rfl, ?_⟩
        refine ⟨_, rfl, _, rfl, (by show 4 ≤ 16777216; decide), fun t ht => ?_⟩
        obtain ⟨v, d, i3, e1, e2, e3, e4, e5⟩ := turn b hi hhi hsq t ht
        exact ⟨v, d, i3, e1, e2, e3, e4, e5, fun H4 s4 => ⟨_, rfl, iteF ⟨_, _, rfl, (s3.trans (same_upd ht)).trans s4⟩⟩⟩
      · rintro σ H3 ⟨u3, u4, rfl, s3⟩
        have P3 := P2.same (z0.trans s3)
        refine ⟨_, rfl, p, q, rfl, P3, fun H4 F4 => ⟨_, rfl, iteF ?_⟩⟩
        refine ⟨(by show 12 ≤ 16777216; decide), fun wl hwl => ?_⟩
        have F5 := F4.more (same_upd (o := .lst (ws12.map V.str)) hwl)
        have hwl' : (upd H4 wl (.lst (ws12.map V.str))) wl = some (.lst (ws12.map V.str)) := upd_same
        have wp := F4.pool.p_ne hwl
        have wq := F4.pool.q_ne hwl
        refine ⟨_, rfl, p, q, rfl, F5.pool, fun m H6 hm hM F6 => ?_⟩
        have hwl6 := F6.keep _ _ wp wq hwl'
        refine ⟨(3 : Int), rfl, by decide, by decide, for_range (fun i σ H' => ∃ u7 u8, σ = [some (.ref a), some (.ref p), u2, u3, u4, some (.ref wl), some (.ref m), u7, u8] ∧ Fr p q H6 H') ⟨_, _, rfl, .refl F6.pool⟩ ?_ ?_⟩
        · rintro i σ H7 hi ⟨u7, u8, rfl, F7⟩
          refine ⟨_, rfl, _, rfl, _, rfl, p, q, m, 8, wl, rfl, F7.pool, hM.fr F6.pool F7, by decide, F7.keep _ _ wp wq hwl6, wp, wq, fun v H8 hD F8 => ?_⟩
          refine ⟨_, rfl, _, rfl, p, q, v, rfl, F8.pool, hD, fun H9 F9 => ⟨_, rfl, iteF ⟨_, _, rfl, (F7.trans F8).trans F9⟩⟩⟩
        · rintro σ H7 ⟨u7, u8, rfl, F7⟩
          exact q1 H7

/-! ### what the top has left -/
theorem at_mk {h : Heap} {x q : Str} {st : Stmt} {f : Addr} {ps : List Str} {oc kV dc pm cd ct : Value} {od an : Option Addr} {sl : Array (Option Value)} (X : K.In h) (G : h.Ns mainGlobals mg)
    (a : PySem.W.nsIn K mainGlobals x = some (some (.ref f))) (l : K.lookup f = some ⟨oc, od, .func (PySem.W.fnOf q q (defArgs st) (defBody st) (defScope st) .none kV dc pm an cd ct), sl⟩) (c : PySem.W.codeIn K cd q = true) (k : PySem.W.keepIn K (.ref f) = true)
    (hb : ∀ (kV doc pm : Value) (an : Option Addr) (cdv ct : Value) (us : List Value), us.length = ps.length → bindArgs (PySem.W.fnOf q q (defArgs st) (defBody st) (defScope st) .none kV doc pm an cdv ct) ⟨us, []⟩ = pure (ps.zip us)) : At K mg x q st ps :=
  ⟨f, _, fun_mk l c k, PySem.W.mg_of X G a, (fun_mk l c k).binds hb⟩
theorem const_mk {h : Heap} {x : Str} {v : Value} {F : Tok → Value} (X : K.In h) (G : h.Ns mainGlobals mg) (a : PySem.W.nsIn K mainGlobals x = some (some v)) (hv : ∃ t, v = F t) : ∃ t, mg x = some (F t) := by
  obtain ⟨t, e⟩ := hv
  exact ⟨t, by rw [← e]; exact PySem.W.mg_of X G a⟩
theorem err_mk {h : Heap} {x : Str} {C CR fI : Addr} (X : K.In h) (G : h.Ns mainGlobals mg) {nm q : Str} {N : Addr} {bs : List Value} {sn : List Str} {sub : List Value} {ab : Bool} {col : Option Bool} {dd : Option Addr} {m0 m1 m2 m3 m5 : Option Value}
    {od an : Option Addr} {sl : Array (Option Value)} {oc dc pm cd ct : Value} {bm : List Value}
    (aC : PySem.W.nsIn K mainGlobals x = some (some (.ref C))) (aR : PySem.W.nsIn K mainGlobals "Refused" = some (some (.ref CR)))
    (xL : K.lookup C = some (PySem.excClassObj nm q C N bs bm true sn sub ab col dd m0 m1 m2 m3 m5 "ValueError.__new__")) (hbm : PySem.HandSPX.refsVE bm = true)
    (sa : PySem.W.findIn K (.ref C) "__setattr__" = some (some (.builtin "object.__setattr__"))) (ga : PySem.W.findIn K (.ref C) "__getattribute__" = some (some (.builtin "BaseException.__getattribute__"))) (gg : PySem.W.findIn K (.ref C) "__getattr__" = some none) (nb : PySem.W.findIn K (.ref C) "what" = some none)
    (a1 : PySem.W.findIn K (.ref C) "__init__" = some (some (.ref fI))) (t1 : PySem.W.typeIn K (.ref fI) = some (.type "function"))
    (l1 : K.lookup fI = some ⟨oc, od, .func (PySem.W.fnOf "__init__" "Refused.__init__" (PySem.WhatX.iA ⟨4, 17, 4, 21⟩ ⟨4, 23, 4, 27⟩) (PySem.WhatX.iB ⟨5, 8, 5, 12⟩ ⟨5, 8, 5, 17⟩ ⟨5, 20, 5, 24⟩ ⟨5, 8, 5, 24⟩) PySem.WhatX.iS .none .none dc pm an cd ct), sl⟩) (c1 : PySem.W.codeIn K cd "Refused.__init__" = true)
    (kC : PySem.W.keepIn K (.ref C) = true) (eC : PySem.W.subIn K (.ref C) (.type "BaseException") = some true) (tC : PySem.W.typeIn K (.ref C) = some (.type "type")) (hC : PySem.W.hasDictIn K C = true) (sC : PySem.W.subIn K (.ref C) (.ref C) = some true)
    (ha : PySem.W.findIn K (.ref C) "__class__" = some (some (.builtin "object.__class__"))) (hn : PySem.W.specialIn K (.builtin "object.__class__") "__get__" = some (some (.builtin "getset_descriptor.__get__")))
    (ht : PySem.W.takesIn K (.builtin "object.__class__") = some true) (hm : PySem.W.mroIn K C (.type "object") = some true) (kt : PySem.W.kitOne K (.ref C) (.ref CR) = some true) : ∃ C CR, Err1 K mg x C CR :=
  ⟨C, CR, ⟨fI, { gC := PySem.W.mg_of X G aC, cls := ⟨nm, q, N, bs, bm, sn, sub, ab, col, dd, m0, m1, m2, m3, m5, xL, hbm⟩, sa := sa, ga := ga, gg := gg, noN := nb, iC := a1, tC := t1, kC := kC, exC := eC, tyC := tC, hdC := hC, te := PySem.W.exm_ref eC hC tC sC, fn := ⟨_, _, _, _, _, _, _, _, _, _, _, _, _, _, l1, c1⟩ }⟩,
    ⟨ga, gg, eC, hC, ha, hn, ht, hm⟩, PySem.W.mg_of X G aR, kt⟩
theorem form_mk {D t : Addr} {x : Str} {ks : List Kd} {fs : List Addr} {arr : Array Value} {dd : Option Addr} {n : Nat} {sl : Array (Option Value)} (hm : Paired (fun k f => mg (fname k) = some (.ref f)) ks fs) (hns : PySem.W.nsIn K D x = some (some (.ref t))) (hlk : K.lookup t = some ⟨.type "tuple", dd, .seq arr n, sl⟩) (harr : arr.toList = fs.map Value.ref) (hsz : ks.length ≤ 100 := by decide) :
    ∃ (t : Addr) (fs : List Addr), PySem.W.nsIn K D x = some (some (.ref t)) ∧ (∀ H, SqT K H t (fs.map V.ref)) ∧ fs.length = ks.length ∧ ∀ (i : Nat) k f, ks[i]? = some k → fs[i]? = some f → mg (fname k) = some (.ref f) := by
  have hl : ks.length = fs.length := Paired.length hm
  refine ⟨t, fs, hns, fun H => .inr ⟨_, arr, n, hlk, rfl, rfl, ?_, ?_⟩, hl.symm, ?_⟩
  · have h1 : arr.size = fs.length := by rw [← Array.length_toList, harr, List.length_map]
    show arr.size ≤ 16777216
    omega
  · rw [harr]
    clear hm harr hlk hl
    induction fs with
    | nil => exact .nil
    | cons a r ih => exact .cons rfl ih
  · clear harr hlk hl hns hsz
    induction hm with
    | nil => intro i k f h; simp at h
    | cons a r ih =>
      intro i k f h1 h2
      cases i with
      | zero =>
        cases h1
        cases h2
        exact a
      | succ i => exact ih i k f h1 h2
theorem item_mk {D : Addr} {x z : Str} {ks : List Kd} {tk : Tok} (hns : PySem.W.nsIn K D x = some (some (.str z tk))) (hz : z = SX.S (ks.map lt)) : ∃ t, PySem.W.nsIn K D x = some (some (.str (SX.S (ks.map lt)) t)) := ⟨tk, by rw [← hz]; exact hns⟩
end
theorem walk {l : PySem.W.OpenLaw} {q : Program} {loose : List Str} {XP : (Str → Option Value) → Heap → Prop} {YP : World → Heap → Prop} {d : DefRec} {K : Params → PySem.W.Frag} (hn : l.most = some 63) (hdf : d.params.defaults = []) (hname : d.name = "law")
    (hY : ∀ (w : World) (h : Heap), YP w h → (K w.params).In h)
    (F : ∀ (w : World) (mg : Str → Option Value) (h : Heap), (K w.params).In h → h.Ns mainGlobals mg → TxtX w (K w.params) mg) :
    PySem.W.WalkO q loose XP YP l.row.toRowW d [] (fun f vs => PySem.call f vs) := by
  refine L2.walk_of (n := 63) (k := 10) (x := "script") (CX := fun _ => CX0) (sp := fun w => sp_law (K w.params)) hn (by decide) hdf ⟨rfl, by decide, by decide⟩ hY (fun w mg fa h KX G hmg => ?_) (fun _ _ a ns hl _ hS => ⟨a, ns, rfl, hS, by omega, fun _ => rfl⟩) fun _ _ _ _ _ z => z
  have T := F w mg h KX G
  obtain ⟨f, fd, FF, m, b⟩ := T.a70
  rw [hname] at hmg
  have e : f = fa := Value.ref.inj (Option.some.inj (m.symm.trans hmg))
  subst e
  obtain ⟨oc, od, kV, doc, pm, an, cdv, ct, osl, rfl, lk, hcd⟩ := FF.ex
  exact ⟨_, fun s u => .of_eq rfl, fun base _ _ => law_ok T FF⟩
end K75
open PySem PySem.W PyProof.Rows
set_option maxRecDepth 100000 in
set_option maxHeartbeats 0 in
theorem PySem.Challenge.cw_anycorner_k75_names_and_store_deeds_holds : PySem.Challenge.rw_anycorner_k75_names_and_store_deeds.Holds := by
  w_on; o_law; k_head; (case hw => w_witness2)
  k_fill
  refine K75.walk (l := PySem.Challenge.rw_anycorner_k75_names_and_store_deeds) rfl rfl rfl (fun w h Y => PySem.W.kIn_of Y) ?F
  case F =>
    intro w mg h KX G
    refine' { toTxt := { b := ?b, c_LIMIT := ?c_LIMIT, c_NAME_SIGNS := ?c_NAME_SIGNS, c_MOST_NAME := ?c_MOST_NAME, c_MOST_ROWNAME := ?c_MOST_ROWNAME, c_MOST_WIDTH := ?c_MOST_WIDTH, c_LARGEST := ?c_LARGEST, c_MOST_OF_TABLE := ?c_MOST_OF_TABLE, c_MOST_FIGURES := ?c_MOST_FIGURES, c_FIGURES := ?c_FIGURES, a6 := ?a6, a13 := ?a13, a14 := ?a14, a15 := ?a15, a16 := ?a16, a17 := ?a17, a19 := ?a19, a22 := ?a22, a24 := ?a24, a25 := ?a25, a26 := ?a26, a27 := ?a27, a28 := ?a28, a29 := ?a29, a31 := ?a31, a33 := ?a33, a37 := ?a37, a38 := ?a38, a39 := ?a39, a40 := ?a40, a41 := ?a41, a44 := ?a44, a45 := ?a45, a46 := ?a46, forms := ?forms, items := ?items }, eD := ?eD, eT := ?eT, a32 := ?a32, a47 := ?a47, a49 := ?a49, a50 := ?a50, a51 := ?a51, a52 := ?a52, a53 := ?a53, a54 := ?a54, a55 := ?a55, a56 := ?a56, a57 := ?a57, a58 := ?a58, a59 := ?a59, a60 := ?a60, a61 := ?a61, a62 := ?a62, a63 := ?a63, a64 := ?a64, a65 := ?a65, a66 := ?a66, a67 := ?a67, a68 := ?a68, a69 := ?a69, a70 := ?a70 }
    case b =>
      refine' { isinstance := PySem.W.mg_none_of KX G ?z_isinstance, int := PySem.W.mg_none_of KX G ?z_int, str := PySem.W.mg_none_of KX G ?z_str, bool := PySem.W.mg_none_of KX G ?z_bool, tuple := PySem.W.mg_none_of KX G ?z_tuple, list := PySem.W.mg_none_of KX G ?z_list, len := PySem.W.mg_none_of KX G ?z_len, range := PySem.W.mg_none_of KX G ?z_range, sorted := PySem.W.mg_none_of KX G ?z_sorted, min := PySem.W.mg_none_of KX G ?z_min, zip := PySem.W.mg_none_of KX G ?z_zip, ValueError := PySem.W.mg_none_of KX G ?z_ValueError }
      (case z_isinstance => k_is)
      (case z_int => k_is)
      (case z_str => k_is)
      (case z_bool => k_is)
      (case z_tuple => k_is)
      (case z_list => k_is)
      (case z_len => k_is)
      (case z_range => k_is)
      (case z_sorted => k_is)
      (case z_min => k_is)
      (case z_zip => k_is)
      (case z_ValueError => k_is)
    case c_LIMIT =>
      refine' K75.const_mk KX G ?z ?hv
      (case z => k_is)
      (case hv => first | exact ⟨_, rfl⟩ | exact ⟨_, by with_unfolding_all rfl⟩)
    case c_NAME_SIGNS =>
      refine' K75.const_mk KX G ?z ?hv
      (case z => k_is)
      (case hv => first | exact ⟨_, rfl⟩ | exact ⟨_, by with_unfolding_all rfl⟩)
    case c_MOST_NAME =>
      refine' K75.const_mk KX G ?z ?hv
      (case z => k_is)
      (case hv => first | exact ⟨_, rfl⟩ | exact ⟨_, by with_unfolding_all rfl⟩)
    case c_MOST_ROWNAME =>
      refine' K75.const_mk KX G ?z ?hv
      (case z => k_is)
      (case hv => first | exact ⟨_, rfl⟩ | exact ⟨_, by with_unfolding_all rfl⟩)
    case c_MOST_WIDTH =>
      refine' K75.const_mk KX G ?z ?hv
      (case z => k_is)
      (case hv => first | exact ⟨_, rfl⟩ | exact ⟨_, by with_unfolding_all rfl⟩)
    case c_LARGEST =>
      refine' K75.const_mk KX G ?z ?hv
      (case z => k_is)
      (case hv => first | exact ⟨_, rfl⟩ | exact ⟨_, by with_unfolding_all rfl⟩)
    case c_MOST_OF_TABLE =>
      refine' K75.const_mk KX G ?z ?hv
      (case z => k_is)
      (case hv => first | exact ⟨_, rfl⟩ | exact ⟨_, by with_unfolding_all rfl⟩)
    case c_MOST_FIGURES =>
      refine' K75.const_mk KX G ?z ?hv
      (case z => k_is)
      (case hv => first | exact ⟨_, rfl⟩ | exact ⟨_, by with_unfolding_all rfl⟩)
    case c_FIGURES =>
      refine' K75.const_mk KX G ?z ?hv
      (case z => k_is)
      (case hv => first | exact ⟨_, rfl⟩ | exact ⟨_, by with_unfolding_all rfl⟩)
    case a6 =>
      refine' K75.at_mk KX G ?a ?l ?c ?k (fun _ _ _ _ _ _ us hl => match us, hl with | [_], _ => rfl)
      (case a => k_is)
      (case l => k_is)
      (case c => k_is)
      (case k => k_is)
    case a13 =>
      refine' K75.at_mk KX G ?a ?l ?c ?k (fun _ _ _ _ _ _ us hl => match us, hl with | [_, _], _ => rfl)
      (case a => k_is)
      (case l => k_is)
      (case c => k_is)
      (case k => k_is)
    case a14 =>
      refine' K75.at_mk KX G ?a ?l ?c ?k (fun _ _ _ _ _ _ us hl => match us, hl with | [_], _ => rfl)
      (case a => k_is)
      (case l => k_is)
      (case c => k_is)
      (case k => k_is)
    case a15 =>
      refine' K75.at_mk KX G ?a ?l ?c ?k (fun _ _ _ _ _ _ us hl => match us, hl with | [_], _ => rfl)
      (case a => k_is)
      (case l => k_is)
      (case c => k_is)
      (case k => k_is)
    case a16 =>
      refine' K75.at_mk KX G ?a ?l ?c ?k (fun _ _ _ _ _ _ us hl => match us, hl with | [_], _ => rfl)
      (case a => k_is)
      (case l => k_is)
      (case c => k_is)
      (case k => k_is)
    case a17 =>
      refine' K75.at_mk KX G ?a ?l ?c ?k (fun _ _ _ _ _ _ us hl => match us, hl with | [_], _ => rfl)
      (case a => k_is)
      (case l => k_is)
      (case c => k_is)
      (case k => k_is)
    case a19 =>
      refine' K75.at_mk KX G ?a ?l ?c ?k (fun _ _ _ _ _ _ us hl => match us, hl with | [_, _], _ => rfl)
      (case a => k_is)
      (case l => k_is)
      (case c => k_is)
      (case k => k_is)
    case a22 =>
      refine' K75.at_mk KX G ?a ?l ?c ?k (fun _ _ _ _ _ _ us hl => match us, hl with | [_], _ => rfl)
      (case a => k_is)
      (case l => k_is)
      (case c => k_is)
      (case k => k_is)
    case a24 =>
      refine' K75.at_mk KX G ?a ?l ?c ?k (fun _ _ _ _ _ _ us hl => match us, hl with | [_], _ => rfl)
      (case a => k_is)
      (case l => k_is)
      (case c => k_is)
      (case k => k_is)
    case a25 =>
      refine' K75.at_mk KX G ?a ?l ?c ?k (fun _ _ _ _ _ _ us hl => match us, hl with | [_], _ => rfl)
      (case a => k_is)
      (case l => k_is)
      (case c => k_is)
      (case k => k_is)
    case a26 =>
      refine' K75.at_mk KX G ?a ?l ?c ?k (fun _ _ _ _ _ _ us hl => match us, hl with | [_], _ => rfl)
      (case a => k_is)
      (case l => k_is)
      (case c => k_is)
      (case k => k_is)
    case a27 =>
      refine' K75.at_mk KX G ?a ?l ?c ?k (fun _ _ _ _ _ _ us hl => match us, hl with | [_], _ => rfl)
      (case a => k_is)
      (case l => k_is)
      (case c => k_is)
      (case k => k_is)
    case a28 =>
      refine' K75.at_mk KX G ?a ?l ?c ?k (fun _ _ _ _ _ _ us hl => match us, hl with | [_], _ => rfl)
      (case a => k_is)
      (case l => k_is)
      (case c => k_is)
      (case k => k_is)
    case a29 =>
      refine' K75.at_mk KX G ?a ?l ?c ?k (fun _ _ _ _ _ _ us hl => match us, hl with | [_], _ => rfl)
      (case a => k_is)
      (case l => k_is)
      (case c => k_is)
      (case k => k_is)
    case a31 =>
      refine' K75.at_mk KX G ?a ?l ?c ?k (fun _ _ _ _ _ _ us hl => match us, hl with | [_], _ => rfl)
      (case a => k_is)
      (case l => k_is)
      (case c => k_is)
      (case k => k_is)
    case a33 =>
      refine' K75.at_mk KX G ?a ?l ?c ?k (fun _ _ _ _ _ _ us hl => match us, hl with | [_], _ => rfl)
      (case a => k_is)
      (case l => k_is)
      (case c => k_is)
      (case k => k_is)
    case a37 =>
      refine' K75.at_mk KX G ?a ?l ?c ?k (fun _ _ _ _ _ _ us hl => match us, hl with | [_], _ => rfl)
      (case a => k_is)
      (case l => k_is)
      (case c => k_is)
      (case k => k_is)
    case a38 =>
      refine' K75.at_mk KX G ?a ?l ?c ?k (fun _ _ _ _ _ _ us hl => match us, hl with | [_, _], _ => rfl)
      (case a => k_is)
      (case l => k_is)
      (case c => k_is)
      (case k => k_is)
    case a39 =>
      refine' K75.at_mk KX G ?a ?l ?c ?k (fun _ _ _ _ _ _ us hl => match us, hl with | [_], _ => rfl)
      (case a => k_is)
      (case l => k_is)
      (case c => k_is)
      (case k => k_is)
    case a40 =>
      refine' K75.at_mk KX G ?a ?l ?c ?k (fun _ _ _ _ _ _ us hl => match us, hl with | [_], _ => rfl)
      (case a => k_is)
      (case l => k_is)
      (case c => k_is)
      (case k => k_is)
    case a41 =>
      refine' K75.at_mk KX G ?a ?l ?c ?k (fun _ _ _ _ _ _ us hl => match us, hl with | [_], _ => rfl)
      (case a => k_is)
      (case l => k_is)
      (case c => k_is)
      (case k => k_is)
    case a44 =>
      refine' K75.at_mk KX G ?a ?l ?c ?k (fun _ _ _ _ _ _ us hl => match us, hl with | [_], _ => rfl)
      (case a => k_is)
      (case l => k_is)
      (case c => k_is)
      (case k => k_is)
    case a45 =>
      refine' K75.at_mk KX G ?a ?l ?c ?k (fun _ _ _ _ _ _ us hl => match us, hl with | [_], _ => rfl)
      (case a => k_is)
      (case l => k_is)
      (case c => k_is)
      (case k => k_is)
    case a46 =>
      refine' K75.at_mk KX G ?a ?l ?c ?k (fun _ _ _ _ _ _ us hl => match us, hl with | [_, _], _ => rfl)
      (case a => k_is)
      (case l => k_is)
      (case c => k_is)
      (case k => k_is)
    case a32 =>
      refine' K75.at_mk KX G ?a ?l ?c ?k (fun _ _ _ _ _ _ us hl => match us, hl with | [_], _ => rfl)
      (case a => k_is)
      (case l => k_is)
      (case c => k_is)
      (case k => k_is)
    case a47 =>
      refine' K75.at_mk KX G ?a ?l ?c ?k (fun _ _ _ _ _ _ us hl => match us, hl with | [_], _ => rfl)
      (case a => k_is)
      (case l => k_is)
      (case c => k_is)
      (case k => k_is)
    case a49 =>
      refine' K75.at_mk KX G ?a ?l ?c ?k (fun _ _ _ _ _ _ us hl => match us, hl with | [_], _ => rfl)
      (case a => k_is)
      (case l => k_is)
      (case c => k_is)
      (case k => k_is)
    case a50 =>
      refine' K75.at_mk KX G ?a ?l ?c ?k (fun _ _ _ _ _ _ us hl => match us, hl with | [_, _], _ => rfl)
      (case a => k_is)
      (case l => k_is)
      (case c => k_is)
      (case k => k_is)
    case a51 =>
      refine' K75.at_mk KX G ?a ?l ?c ?k (fun _ _ _ _ _ _ us hl => match us, hl with | [_, _], _ => rfl)
      (case a => k_is)
      (case l => k_is)
      (case c => k_is)
      (case k => k_is)
    case a52 =>
      refine' K75.at_mk KX G ?a ?l ?c ?k (fun _ _ _ _ _ _ us hl => match us, hl with | [_, _], _ => rfl)
      (case a => k_is)
      (case l => k_is)
      (case c => k_is)
      (case k => k_is)
    case a53 =>
      refine' K75.at_mk KX G ?a ?l ?c ?k (fun _ _ _ _ _ _ us hl => match us, hl with | [_], _ => rfl)
      (case a => k_is)
      (case l => k_is)
      (case c => k_is)
      (case k => k_is)
    case a54 =>
      refine' K75.at_mk KX G ?a ?l ?c ?k (fun _ _ _ _ _ _ us hl => match us, hl with | [_, _], _ => rfl)
      (case a => k_is)
      (case l => k_is)
      (case c => k_is)
      (case k => k_is)
    case a55 =>
      refine' K75.at_mk KX G ?a ?l ?c ?k (fun _ _ _ _ _ _ us hl => match us, hl with | [_, _], _ => rfl)
      (case a => k_is)
      (case l => k_is)
      (case c => k_is)
      (case k => k_is)
    case a56 =>
      refine' K75.at_mk KX G ?a ?l ?c ?k (fun _ _ _ _ _ _ us hl => match us, hl with | [_, _, _], _ => rfl)
      (case a => k_is)
      (case l => k_is)
      (case c => k_is)
      (case k => k_is)
    case a57 =>
      refine' K75.at_mk KX G ?a ?l ?c ?k (fun _ _ _ _ _ _ us hl => match us, hl with | [_, _, _], _ => rfl)
      (case a => k_is)
      (case l => k_is)
      (case c => k_is)
      (case k => k_is)
    case a58 =>
      refine' K75.at_mk KX G ?a ?l ?c ?k (fun _ _ _ _ _ _ us hl => match us, hl with | [_, _, _, _], _ => rfl)
      (case a => k_is)
      (case l => k_is)
      (case c => k_is)
      (case k => k_is)
    case a59 =>
      refine' K75.at_mk KX G ?a ?l ?c ?k (fun _ _ _ _ _ _ us hl => match us, hl with | [_, _, _], _ => rfl)
      (case a => k_is)
      (case l => k_is)
      (case c => k_is)
      (case k => k_is)
    case a60 =>
      refine' K75.at_mk KX G ?a ?l ?c ?k (fun _ _ _ _ _ _ us hl => match us, hl with | [_, _], _ => rfl)
      (case a => k_is)
      (case l => k_is)
      (case c => k_is)
      (case k => k_is)
    case a61 =>
      refine' K75.at_mk KX G ?a ?l ?c ?k (fun _ _ _ _ _ _ us hl => match us, hl with | [_, _], _ => rfl)
      (case a => k_is)
      (case l => k_is)
      (case c => k_is)
      (case k => k_is)
    case a62 =>
      refine' K75.at_mk KX G ?a ?l ?c ?k (fun _ _ _ _ _ _ us hl => match us, hl with | [_], _ => rfl)
      (case a => k_is)
      (case l => k_is)
      (case c => k_is)
      (case k => k_is)
    case a63 =>
      refine' K75.at_mk KX G ?a ?l ?c ?k (fun _ _ _ _ _ _ us hl => match us, hl with | [_], _ => rfl)
      (case a => k_is)
      (case l => k_is)
      (case c => k_is)
      (case k => k_is)
    case a64 =>
      refine' K75.at_mk KX G ?a ?l ?c ?k (fun _ _ _ _ _ _ us hl => match us, hl with | [_], _ => rfl)
      (case a => k_is)
      (case l => k_is)
      (case c => k_is)
      (case k => k_is)
    case a65 =>
      refine' K75.at_mk KX G ?a ?l ?c ?k (fun _ _ _ _ _ _ us hl => match us, hl with | [_, _], _ => rfl)
      (case a => k_is)
      (case l => k_is)
      (case c => k_is)
      (case k => k_is)
    case a66 =>
      refine' K75.at_mk KX G ?a ?l ?c ?k (fun _ _ _ _ _ _ us hl => match us, hl with | [_, _], _ => rfl)
      (case a => k_is)
      (case l => k_is)
      (case c => k_is)
      (case k => k_is)
    case a67 =>
      refine' K75.at_mk KX G ?a ?l ?c ?k (fun _ _ _ _ _ _ us hl => match us, hl with | [_], _ => rfl)
      (case a => k_is)
      (case l => k_is)
      (case c => k_is)
      (case k => k_is)
    case a68 =>
      refine' K75.at_mk KX G ?a ?l ?c ?k (fun _ _ _ _ _ _ us hl => match us, hl with | [_], _ => rfl)
      (case a => k_is)
      (case l => k_is)
      (case c => k_is)
      (case k => k_is)
    case a69 =>
      refine' K75.at_mk KX G ?a ?l ?c ?k (fun _ _ _ _ _ _ us hl => match us, hl with | [_, _], _ => rfl)
      (case a => k_is)
      (case l => k_is)
      (case c => k_is)
      (case k => k_is)
    case a70 =>
      refine' K75.at_mk KX G ?a ?l ?c ?k (fun _ _ _ _ _ _ us hl => match us, hl with | [_], _ => rfl)
      (case a => k_is)
      (case l => k_is)
      (case c => k_is)
      (case k => k_is)
    case eD =>
      refine' K75.err_mk (x := "BadStoreDeed") KX G ?aC ?aR ?xL ?hbm ?sa ?ga ?gg ?nb ?a1 ?t1 ?l1 ?c1 ?kC ?eC ?tC ?hC ?sC ?ha ?hn ?ht ?hm ?kt
      (case aC => k_is)
      (case aR => k_is)
      (case xL => k_is)
      (case hbm => first | decide +kernel | rfl)
      (case sa => first | k_is | rfl | decide +kernel)
      (case ga => first | k_is | rfl | decide +kernel)
      (case gg => first | k_is | rfl | decide +kernel)
      (case nb => first | k_is | rfl | decide +kernel)
      (case a1 => first | k_is | rfl | decide +kernel)
      (case t1 => first | k_is | rfl | decide +kernel)
      (case l1 => first | k_is | rfl | decide +kernel)
      (case c1 => first | k_is | rfl | decide +kernel)
      (case kC => first | k_is | rfl | decide +kernel)
      (case eC => first | k_is | rfl | decide +kernel)
      (case tC => first | k_is | rfl | decide +kernel)
      (case hC => first | k_is | rfl | decide +kernel)
      (case sC => first | k_is | rfl | decide +kernel)
      (case ha => first | k_is | rfl | decide +kernel)
      (case hn => first | k_is | rfl | decide +kernel)
      (case ht => first | k_is | rfl | decide +kernel)
      (case hm => first | k_is | rfl | decide +kernel)
      (case kt => first | k_is | rfl | decide +kernel)
    case eT =>
      refine' K75.err_mk (x := "BadText") KX G ?aC ?aR ?xL ?hbm ?sa ?ga ?gg ?nb ?a1 ?t1 ?l1 ?c1 ?kC ?eC ?tC ?hC ?sC ?ha ?hn ?ht ?hm ?kt
      (case aC => k_is)
      (case aR => k_is)
      (case xL => k_is)
      (case hbm => first | decide +kernel | rfl)
      (case sa => first | k_is | rfl | decide +kernel)
      (case ga => first | k_is | rfl | decide +kernel)
      (case gg => first | k_is | rfl | decide +kernel)
      (case nb => first | k_is | rfl | decide +kernel)
      (case a1 => first | k_is | rfl | decide +kernel)
      (case t1 => first | k_is | rfl | decide +kernel)
      (case l1 => first | k_is | rfl | decide +kernel)
      (case c1 => first | k_is | rfl | decide +kernel)
      (case kC => first | k_is | rfl | decide +kernel)
      (case eC => first | k_is | rfl | decide +kernel)
      (case tC => first | k_is | rfl | decide +kernel)
      (case hC => first | k_is | rfl | decide +kernel)
      (case sC => first | k_is | rfl | decide +kernel)
      (case ha => first | k_is | rfl | decide +kernel)
      (case hn => first | k_is | rfl | decide +kernel)
      (case ht => first | k_is | rfl | decide +kernel)
      (case hm => first | k_is | rfl | decide +kernel)
      (case kt => first | k_is | rfl | decide +kernel)
    case forms =>
      refine' ⟨_, PySem.W.mg_of KX G ?d, { kd := ⟨_, _, { at_ := ?at_, lit := ?lit, low := ?low }⟩, yes := ?yes, no := ?no }⟩
      (case d => k_is)
      (case at_ => k_is)
      (case lit => repeat (first | exact True.intro | refine ⟨⟨_, _, rfl, rfl⟩, ?_⟩))
      (case low => first | decide +kernel | rfl)
      (case no => k_is)
      case yes =>
        intro x ks h
        unfold K75.words12 at h
        simp only [List.mem_cons, List.not_mem_nil, or_false, Prod.mk.injEq] at h
        rcases h with ⟨rfl, rfl⟩ | ⟨rfl, rfl⟩ | ⟨rfl, rfl⟩ | ⟨rfl, rfl⟩ | ⟨rfl, rfl⟩ | ⟨rfl, rfl⟩ | ⟨rfl, rfl⟩ | ⟨rfl, rfl⟩ | ⟨rfl, rfl⟩ | ⟨rfl, rfl⟩ | ⟨rfl, rfl⟩ | ⟨rfl, rfl⟩
        · refine' K75.form_mk (fs := [_, _, _]) (.cons (PySem.W.mg_of KX G ?m0) (.cons (PySem.W.mg_of KX G ?m1) (.cons (PySem.W.mg_of KX G ?m2) .nil))) ?ns ?lk ?arr
          (case m0 => k_is)
          (case m1 => k_is)
          (case m2 => k_is)
          (case ns => k_is)
          (case lk => k_is)
          (case arr => first | rfl | decide +kernel)
        · refine' K75.form_mk (fs := [_]) (.cons (PySem.W.mg_of KX G ?m0) .nil) ?ns ?lk ?arr
          (case m0 => k_is)
          (case ns => k_is)
          (case lk => k_is)
          (case arr => first | rfl | decide +kernel)
        · refine' K75.form_mk (fs := [_, _]) (.cons (PySem.W.mg_of KX G ?m0) (.cons (PySem.W.mg_of KX G ?m1) .nil)) ?ns ?lk ?arr
          (case m0 => k_is)
          (case m1 => k_is)
          (case ns => k_is)
          (case lk => k_is)
          (case arr => first | rfl | decide +kernel)
        · refine' K75.form_mk (fs := [_, _]) (.cons (PySem.W.mg_of KX G ?m0) (.cons (PySem.W.mg_of KX G ?m1) .nil)) ?ns ?lk ?arr
          (case m0 => k_is)
          (case m1 => k_is)
          (case ns => k_is)
          (case lk => k_is)
          (case arr => first | rfl | decide +kernel)
        · refine' K75.form_mk (fs := [_, _]) (.cons (PySem.W.mg_of KX G ?m0) (.cons (PySem.W.mg_of KX G ?m1) .nil)) ?ns ?lk ?arr
          (case m0 => k_is)
          (case m1 => k_is)
          (case ns => k_is)
          (case lk => k_is)
          (case arr => first | rfl | decide +kernel)
        · refine' K75.form_mk (fs := [_]) (.cons (PySem.W.mg_of KX G ?m0) .nil) ?ns ?lk ?arr
          (case m0 => k_is)
          (case ns => k_is)
          (case lk => k_is)
          (case arr => first | rfl | decide +kernel)
        · refine' K75.form_mk (fs := [_, _, _]) (.cons (PySem.W.mg_of KX G ?m0) (.cons (PySem.W.mg_of KX G ?m1) (.cons (PySem.W.mg_of KX G ?m2) .nil))) ?ns ?lk ?arr
          (case m0 => k_is)
          (case m1 => k_is)
          (case m2 => k_is)
          (case ns => k_is)
          (case lk => k_is)
          (case arr => first | rfl | decide +kernel)
        · refine' K75.form_mk (fs := [_, _]) (.cons (PySem.W.mg_of KX G ?m0) (.cons (PySem.W.mg_of KX G ?m1) .nil)) ?ns ?lk ?arr
          (case m0 => k_is)
          (case m1 => k_is)
          (case ns => k_is)
          (case lk => k_is)
          (case arr => first | rfl | decide +kernel)
        · refine' K75.form_mk (fs := [_, _, _]) (.cons (PySem.W.mg_of KX G ?m0) (.cons (PySem.W.mg_of KX G ?m1) (.cons (PySem.W.mg_of KX G ?m2) .nil))) ?ns ?lk ?arr
          (case m0 => k_is)
          (case m1 => k_is)
          (case m2 => k_is)
          (case ns => k_is)
          (case lk => k_is)
          (case arr => first | rfl | decide +kernel)
        · refine' K75.form_mk (fs := [_, _, _, _]) (.cons (PySem.W.mg_of KX G ?m0) (.cons (PySem.W.mg_of KX G ?m1) (.cons (PySem.W.mg_of KX G ?m2) (.cons (PySem.W.mg_of KX G ?m3) .nil)))) ?ns ?lk ?arr
          (case m0 => k_is)
          (case m1 => k_is)
          (case m2 => k_is)
          (case m3 => k_is)
          (case ns => k_is)
          (case lk => k_is)
          (case arr => first | rfl | decide +kernel)
        · refine' K75.form_mk (fs := [_, _, _, _, _, _, _]) (.cons (PySem.W.mg_of KX G ?m0) (.cons (PySem.W.mg_of KX G ?m1) (.cons (PySem.W.mg_of KX G ?m2) (.cons (PySem.W.mg_of KX G ?m3) (.cons (PySem.W.mg_of KX G ?m4) (.cons (PySem.W.mg_of KX G ?m5) (.cons (PySem.W.mg_of KX G ?m6) .nil))))))) ?ns ?lk ?arr
          (case m0 => k_is)
          (case m1 => k_is)
          (case m2 => k_is)
          (case m3 => k_is)
          (case m4 => k_is)
          (case m5 => k_is)
          (case m6 => k_is)
          (case ns => k_is)
          (case lk => k_is)
          (case arr => first | rfl | decide +kernel)
        · refine' K75.form_mk (fs := [_, _, _]) (.cons (PySem.W.mg_of KX G ?m0) (.cons (PySem.W.mg_of KX G ?m1) (.cons (PySem.W.mg_of KX G ?m2) .nil))) ?ns ?lk ?arr
          (case m0 => k_is)
          (case m1 => k_is)
          (case m2 => k_is)
          (case ns => k_is)
          (case lk => k_is)
          (case arr => first | rfl | decide +kernel)
    case items =>
      refine' ⟨_, PySem.W.mg_of KX G ?d, { kd := ⟨_, _, { at_ := ?at_, lit := ?lit, low := ?low }⟩, yes := ?yes, no := ?no }⟩
      (case d => k_is)
      (case at_ => k_is)
      (case lit => repeat (first | exact True.intro | refine ⟨⟨_, _, rfl, rfl⟩, ?_⟩))
      (case low => first | decide +kernel | rfl)
      (case no => k_is)
      case yes =>
        intro x ks h
        unfold K75.words12 at h
        simp only [List.mem_cons, List.not_mem_nil, or_false, Prod.mk.injEq] at h
        rcases h with ⟨rfl, rfl⟩ | ⟨rfl, rfl⟩ | ⟨rfl, rfl⟩ | ⟨rfl, rfl⟩ | ⟨rfl, rfl⟩ | ⟨rfl, rfl⟩ | ⟨rfl, rfl⟩ | ⟨rfl, rfl⟩ | ⟨rfl, rfl⟩ | ⟨rfl, rfl⟩ | ⟨rfl, rfl⟩ | ⟨rfl, rfl⟩
        · refine' K75.item_mk ?ns ?hz
          (case ns => k_is)
          (case hz => first | decide +kernel | rfl)
        · refine' K75.item_mk ?ns ?hz
          (case ns => k_is)
          (case hz => first | decide +kernel | rfl)
        · refine' K75.item_mk ?ns ?hz
          (case ns => k_is)
          (case hz => first | decide +kernel | rfl)
        · refine' K75.item_mk ?ns ?hz
          (case ns => k_is)
          (case hz => first | decide +kernel | rfl)
        · refine' K75.item_mk ?ns ?hz
          (case ns => k_is)
          (case hz => first | decide +kernel | rfl)
        · refine' K75.item_mk ?ns ?hz
          (case ns => k_is)
          (case hz => first | decide +kernel | rfl)
        · refine' K75.item_mk ?ns ?hz
          (case ns => k_is)
          (case hz => first | decide +kernel | rfl)
        · refine' K75.item_mk ?ns ?hz
          (case ns => k_is)
          (case hz => first | decide +kernel | rfl)
        · refine' K75.item_mk ?ns ?hz
          (case ns => k_is)
          (case hz => first | decide +kernel | rfl)
        · refine' K75.item_mk ?ns ?hz
          (case ns => k_is)
          (case hz => first | decide +kernel | rfl)
        · refine' K75.item_mk ?ns ?hz
          (case ns => k_is)
          (case hz => first | decide +kernel | rfl)
        · refine' K75.item_mk ?ns ?hz
          (case ns => k_is)
          (case hz => first | decide +kernel | rfl)
