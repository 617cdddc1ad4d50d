import PyProof.Rows.All
import Wide.All
import OpenK.AllK
import Wide.FinOn
import HandS.ForMost
import HandS.More
import HandS.Exc
import HandS.ExcInit
import HandS.IsInst
import HandS.WordsExc
import HandS.Defaults
import HandS.HeadHook1
import HandS.HeadHook2
import HandS.ExcField
import HandS.CallSlots
import HandS.Zip
import HandS.Walk
import HandS.Deep
import HandS.TupMul
import HandS.MakeKwOnly
import HandS.SortKw
import HandS.Star
import HandS.SlotsOwn
import HandS.NoneIn
import HandS.Wide
import HandS.TryOnly
import HandS.ExcOwn
import KE.LtData
import PySem.Challenge.RW_cutofftills_k79_whole_allowances_part_re
import PyProof.EnumMake
import PyProof.Draws
import KE.GoesMore
import KE.GoesEnum
import KE.KStateDown
import Lean
import HandS.Head0
import HandS.Head1
import HandS.Head2
import HandS.HeadEnd
set_option Elab.async false
set_option linter.all false
set_option maxRecDepth 100000
/-! ## KMath -/
namespace K79
/-! ### counts -/
abbrev Num := Option Nat
abbrev Cnt := List Num
def leN : Num → Num → Bool
  | _, none => true
  | none, some _ => false
  | some a, some b => decide (a ≤ b)
def below (c d : Cnt) : Bool := (List.zipWith leN c d).all id
theorem leN_refl (a : Num) : leN a a = true := by cases a <;> simp [leN]
theorem leN_trans {a b c : Num} (h : leN a b = true) (k : leN b c = true) : leN a c = true := by
  cases a <;> cases b <;> cases c <;> simp_all [leN]
  omega
theorem leN_antisymm {a b : Num} (h : leN a b = true) (k : leN b a = true) : a = b := by
  cases a <;> cases b <;> simp_all [leN]
  omega
theorem below_cons (a b : Num) (c d : Cnt) : below (a :: c) (b :: d) = (leN a b && below c d) := by simp [below]
theorem below_refl : ∀ c : Cnt, below c c = true
  | [] => rfl
  | a :: c => by rw [below_cons, leN_refl, below_refl c]; rfl
theorem below_trans : ∀ {c d e : Cnt}, c.length = d.length → d.length = e.length → below c d = true → below d e = true → below c e = true
  | [], _, _, _, _, _, _ => by simp [below]
  | a :: c, [], _, h, _, _, _ => by simp at h
  | a :: c, b :: d, [], _, h, _, _ => by simp at h
  | a :: c, b :: d, x :: e, h1, h2, h3, h4 => by
    rw [below_cons, Bool.and_eq_true] at *
    exact ⟨leN_trans h3.1 h4.1, below_trans (by simpa using h1) (by simpa using h2) h3.2 h4.2⟩
theorem below_antisymm : ∀ {c d : Cnt}, c.length = d.length → below c d = true → below d c = true → c = d
  | [], [], _, _, _ => rfl
  | [], _ :: _, h, _, _ => by simp at h
  | _ :: _, [], h, _, _ => by simp at h
  | a :: c, b :: d, h, h1, h2 => by
    rw [below_cons, Bool.and_eq_true] at h1 h2
    rw [leN_antisymm h1.1 h2.1, below_antisymm (by simpa using h) h1.2 h2.2]
/-- some place at which one is above -/
theorem not_below : ∀ {c d : Cnt}, c.length = d.length → below c d = false → ∃ (i : Nat) (a b : Num), c[i]? = some a ∧ d[i]? = some b ∧ leN a b = false
  | [], _, _, h => by simp [below] at h
  | _ :: _, [], h, _ => by simp at h
  | a :: c, b :: d, h, h1 => by
    rw [below_cons] at h1
    cases e : leN a b with
    | false => exact ⟨0, a, b, rfl, rfl, e⟩
    | true =>
      rw [e, Bool.true_and] at h1
      obtain ⟨i, x, y, h2, h3, h4⟩ := not_below (by simpa using h) h1
      exact ⟨i + 1, x, y, by simpa using h2, by simpa using h3, h4⟩

/-! ### greatest ones -/
theorem countP_lt {α : Type} {p q : α → Bool} : ∀ {S : List α} {x : α}, (∀ y ∈ S, p y = true → q y = true) → x ∈ S → q x = true → p x = false → S.countP p < S.countP q
  | [], _, _, h, _, _ => by simp at h
  | y :: S, x, hm, hx, hq, hp => by
    have hm' : ∀ z ∈ S, p z = true → q z = true := fun z hz => hm z (List.mem_cons_of_mem _ hz)
    have mono : S.countP p ≤ S.countP q := List.countP_mono_left hm'
    rw [List.countP_cons, List.countP_cons]
    rcases List.mem_cons.mp hx with e | hx
    · rw [← e, hq, hp]
      simp only [Bool.false_eq_true, if_false, if_true]
      omega
    · have ih := countP_lt hm' hx hq hp
      have hy := hm y List.mem_cons_self
      cases e : p y with
      | false =>
        simp only [Bool.false_eq_true, if_false]
        omega
      | true =>
        rw [hy e]
        simp only [if_true]
        omega
/-- in once no other one is above -/
def maxIn (S : List Cnt) (m : Cnt) : Prop := ∀ y ∈ S, y ≠ m → below m y = false
theorem exists_max {S : List Cnt} {k : Nat} (hl : ∀ c ∈ S, c.length = k) : ∀ (n : Nat) (x : Cnt), x ∈ S → S.countP (fun y => below x y) = n → ∃ m, m ∈ S ∧ below x m = true ∧ maxIn S m := by
  intro n
  induction n using Nat.strongRecOn with
  | ind n ih =>
    intro x hx hn
    by_cases h : maxIn S x
    · exact ⟨x, hx, below_refl x, h⟩
    · have h1 : ∃ y, y ∈ S ∧ y ≠ x ∧ below x y = true := by
        apply Classical.byContradiction
        intro hc
        apply h
        intro y hy hne
        cases e : below x y with
        | false => rfl
        | true => exact absurd ⟨y, hy, hne, e⟩ hc
      obtain ⟨y, hy, hne, hb⟩ := h1
      have lt : S.countP (fun z => below y z) < S.countP (fun z => below x z) := by
        refine countP_lt (x := x) (fun z hz h2 => ?_) hx (below_refl x) ?_
        · exact below_trans ((hl x hx).trans (hl y hy).symm) ((hl y hy).trans (hl z hz).symm) hb h2
        · cases e : below y x with
          | false => rfl
          | true => exact absurd (below_antisymm ((hl y hy).trans (hl x hx).symm) e hb) hne
      obtain ⟨m, hm, h3, h4⟩ := ih _ (hn ▸ lt) y hy rfl
      exact ⟨m, hm, below_trans ((hl x hx).trans (hl y hy).symm) ((hl y hy).trans (hl m hm).symm) hb h3, h4⟩

/-! ### payments -/
/-- limit, how many, what is left -/
abbrev Row := Nat × Num × Nat
def payN (l : Nat) (o n : Num) : Row :=
  if l = 0 ∨ n = some 0 ∨ o = some 0 then (l, some 0, 0)
  else match o with
    | none => (l, n, 0)
    | some m => match n with
      | none => (l, some (m / l), m % l)
      | some k => if m ≤ k * l then (l, some (m / l), m % l) else (l, some k, 0)
def rowsN : List Nat → List Num → Cnt → List Row
  | l :: ls, o :: os, n :: ns => payN l o n :: rowsN ls os ns
  | _, _, _ => []
theorem rowsN_length : ∀ (ls : List Nat) (os : List Num) (ns : Cnt), os.length = ls.length → ns.length = ls.length → (rowsN ls os ns).length = ls.length
  | [], _, _, _, _ => by simp [rowsN]
  | _ :: _, [], _, h, _ => by simp at h
  | _ :: _, _ :: _, [], _, h => by simp at h
  | l :: ls, o :: os, n :: ns, h1, h2 => by
    simp only [rowsN, List.length_cons]
    rw [rowsN_length ls os ns (by simpa using h1) (by simpa using h2)]
theorem rowsN_get : ∀ (ls : List Nat) (os : List Num) (ns : Cnt) (i l : Nat) (o n : Num), ls[i]? = some l → os[i]? = some o → ns[i]? = some n → (rowsN ls os ns)[i]? = some (payN l o n)
  | [], _, _, _, _, _, _, h, _, _ => by simp at h
  | _ :: _, [], _, _, _, _, _, _, h, _ => by simp at h
  | _ :: _, _ :: _, [], _, _, _, _, _, _, h => by simp at h
  | l :: ls, o :: os, n :: ns, 0, _, _, _, h1, h2, h3 => by
    simp at h1 h2 h3
    simp [rowsN, h1, h2, h3]
  | l :: ls, o :: os, n :: ns, i + 1, _, _, _, h1, h2, h3 => by
    simp at h1 h2 h3
    simpa [rowsN] using rowsN_get ls os ns i _ _ _ h1 h2 h3
/-! ### so many payments, the greatest first -/
abbrev Part := Nat × Num
def take1 (m : Num) (t : Nat) : Nat := match m with
  | none => t
  | some k => min k t
/-- all parts of one value -/
def innr (v : Nat) : List Part → Nat × Nat → Nat × Nat
  | [], s => s
  | p :: ps, s => innr v ps (if p.1 = v then (s.1 + take1 p.2 s.2 * v, s.2 - take1 p.2 s.2) else s)
theorem innr_append (v : Nat) : ∀ (ps qs : List Part) (s : Nat × Nat), innr v (ps ++ qs) s = innr v qs (innr v ps s)
  | [], _, _ => rfl
  | p :: ps, qs, s => innr_append v ps qs _
def outr (ps : List Part) (t : Nat) (vs : List Nat) : Nat → Nat × Nat
  | 0 => (0, t)
  | i + 1 => match vs[i]? with
    | none => outr ps t vs i
    | some v => if v ∈ vs.take i then outr ps t vs i else innr v ps (outr ps t vs i)
def partsN (rows : List Row) : List Part := rows.map (fun r => (r.1, r.2.1)) ++ rows.map (fun r => (r.2.2, some 1))
def hvS (vs : List Nat) (rows : List Row) (t : Nat) : Nat := (outr (partsN rows) t vs vs.length).1
/-- the sorted list is one -/
theorem sorted_one : ∀ {l m : List Nat}, l.Perm m → l.Pairwise (fun a b => b ≤ a) → m.Pairwise (fun a b => b ≤ a) → l = m
  | [], m, h, _, _ => (List.nil_perm.mp h).symm
  | a :: l, m, h, h1, h2 => by
    cases m with
    | nil => exact absurd h.length_eq (by simp)
    | cons b m =>
      have e : a = b := by
        have ha : a ∈ b :: m := h.subset List.mem_cons_self
        have hb : b ∈ a :: l := h.symm.subset List.mem_cons_self
        have k1 : b ≤ a := by
          rcases List.mem_cons.mp hb with q | q
          · omega
          · exact (List.pairwise_cons.mp h1).1 b q
        have k2 : a ≤ b := by
          rcases List.mem_cons.mp ha with q | q
          · omega
          · exact (List.pairwise_cons.mp h2).1 a q
        omega
      subst e
      rw [sorted_one (List.Perm.cons_inv h) (List.pairwise_cons.mp h1).2 (List.pairwise_cons.mp h2).2]
def vals (rows : List Row) : List Nat := (partsN rows).map (·.1)
def desc (l : List Nat) : List Nat := l.mergeSort (fun a b => decide (b ≤ a))
theorem desc_perm (l : List Nat) : (desc l).Perm l := List.mergeSort_perm _ _
theorem desc_pair (l : List Nat) : (desc l).Pairwise (fun a b => b ≤ a) := by
  have h := List.pairwise_mergeSort (le := fun a b : Nat => decide (b ≤ a)) (fun a b c h1 h2 => by simp at *; omega) (fun a b => by simp; omega) l
  exact h.imp (fun h => by simpa using h)
theorem desc_eq {l m : List Nat} (h : m.Perm l) (h1 : m.Pairwise (fun a b => b ≤ a)) : m = desc l := sorted_one (h.trans (desc_perm l).symm) h1 (desc_pair l)
def heav (rows : List Row) (t : Nat) : Nat := hvS (desc (vals rows)) rows t

/-! ### more parts, no less -/
structure Ge (v : Nat) (s s' : Nat × Nat) : Prop where
  left : s'.2 ≤ s.2
  tot : s.1 + (s.2 - s'.2) * v ≤ s'.1
theorem Ge.mono {u v : Nat} {s s' : Nat × Nat} (h : Ge u s s') (k : v ≤ u) : Ge v s s' :=
  ⟨h.left, Nat.le_trans (Nat.add_le_add_left (Nat.mul_le_mul_left _ k) _) h.tot⟩
theorem take1_le (m : Num) (t : Nat) : take1 m t ≤ t := by
  cases m with
  | none => exact Nat.le_refl _
  | some k => exact Nat.min_le_right _ _
theorem Ge.step {v : Nat} {s s' : Nat × Nat} {m m' : Num} (h : Ge v s s') (k : leN m m' = true) :
    Ge v (s.1 + take1 m s.2 * v, s.2 - take1 m s.2) (s'.1 + take1 m' s'.2 * v, s'.2 - take1 m' s'.2) := by
  obtain ⟨T, t⟩ := s
  obtain ⟨T', t'⟩ := s'
  obtain ⟨h1, h2⟩ := h
  simp only at h1 h2 ⊢
  have a1 := take1_le m t
  have a2 := take1_le m' t'
  have a3 : t' - take1 m' t' ≤ t - take1 m t := by
    cases m with
    | none =>
      cases m' with
      | none => simp [take1]
      | some b => simp [leN] at k
    | some a =>
      cases m' with
      | none => simp [take1]
      | some b =>
        simp [leN] at k
        simp only [take1]
        omega
  refine ⟨a3, ?_⟩
  simp only
  generalize take1 m t = x at *
  generalize take1 m' t' = y at *
  have e : x * v + ((t - x) - (t' - y)) * v = (t - t') * v + y * v := by
    rw [← Nat.add_mul, ← Nat.add_mul]
    congr 1
    omega
  omega
theorem innr_ge (v : Nat) : ∀ {ps qs : List Part} {s s' : Nat × Nat}, ps.map (·.1) = qs.map (·.1) → (∀ (i : Nat) p q, ps[i]? = some p → qs[i]? = some q → leN p.2 q.2 = true) → Ge v s s' → Ge v (innr v ps s) (innr v qs s')
  | [], [], _, _, _, _, h => h
  | [], _ :: _, _, _, h, _, _ => by simp at h
  | _ :: _, [], _, _, h, _, _ => by simp at h
  | p :: ps, q :: qs, s, s', h, hl, g => by
    simp only [List.map_cons, List.cons.injEq] at h
    have h0 := hl 0 p q rfl rfl
    show Ge v (innr v ps (if p.1 = v then (s.1 + take1 p.2 s.2 * v, s.2 - take1 p.2 s.2) else s)) (innr v qs (if q.1 = v then (s'.1 + take1 q.2 s'.2 * v, s'.2 - take1 q.2 s'.2) else s'))
    refine innr_ge (ps := ps) (qs := qs) v h.2 (fun i x y hx hy => hl (i + 1) x y (by simpa using hx) (by simpa using hy)) ?_
    by_cases e : p.1 = v
    · rw [if_pos e, if_pos (h.1 ▸ e)]
      exact g.step h0
    · rw [if_neg e, if_neg (h.1 ▸ e)]
      exact g
/-- for every value that is still to come -/
theorem outr_ge {ps qs : List Part} {vs : List Nat} (t : Nat) (h : ps.map (·.1) = qs.map (·.1)) (hl : ∀ (i : Nat) p q, ps[i]? = some p → qs[i]? = some q → leN p.2 q.2 = true) (hv : vs.Pairwise (fun a b => b ≤ a)) :
    ∀ i, i ≤ vs.length → ∀ v, (∀ x ∈ vs.take i, v ≤ x) → Ge v (outr ps t vs i) (outr qs t vs i)
  | 0, _, v, _ => by
    refine ⟨Nat.le_refl _, ?_⟩
    simp [outr]
  | i + 1, hi, v, hx => by
    have hlt : i < vs.length := hi
    have e : vs[i]? = some vs[i] := List.getElem?_eq_getElem hlt
    have htake : vs.take (i + 1) = vs.take i ++ [vs[i]] := by rw [List.take_add_one, e]; rfl
    have hvi : v ≤ vs[i] := hx _ (by rw [htake]; exact List.mem_append_right _ List.mem_cons_self)
    have hall : ∀ x ∈ vs.take i, vs[i] ≤ x := fun x hxm => by
      obtain ⟨j, hj, e2⟩ := List.mem_iff_getElem.mp hxm
      have hj2 : j < i := by
        rw [List.length_take] at hj
        omega
      rw [List.getElem_take] at e2
      rw [← e2]
      exact List.pairwise_iff_getElem.mp hv j i (by omega) hlt hj2
    have ih := outr_ge t h hl hv i (by omega) vs[i] hall
    unfold outr
    rw [e]
    simp only
    by_cases hm : vs[i] ∈ vs.take i
    · rw [if_pos hm, if_pos hm]
      exact ih.mono hvi
    · rw [if_neg hm, if_neg hm]
      exact (innr_ge vs[i] h hl ih).mono hvi
theorem heav_mono {rows rows' : List Row} (t : Nat) (h : (partsN rows).map (·.1) = (partsN rows').map (·.1)) (hl : ∀ (i : Nat) p q, (partsN rows)[i]? = some p → (partsN rows')[i]? = some q → leN p.2 q.2 = true) : heav rows t ≤ heav rows' t := by
  unfold heav hvS
  have e : vals rows = vals rows' := h
  rw [e]
  have g := outr_ge (vs := desc (vals rows')) t h hl (desc_pair _) _ (Nat.le_refl _) 0 (fun _ _ => Nat.zero_le _)
  have := g.tot
  omega
end K79
/-! ## KText -/
set_option maxRecDepth 100000
set_option maxHeartbeats 0
namespace K79
open PySem PySem.Spec PyProof.Rows L2
abbrev prg : Program := PySem.Challenge.pw_cutofftills_k79_whole_allowances_part_re
abbrev row : PySem.W.OpenLaw := PySem.Challenge.rw_cutofftills_k79_whole_allowances_part_re
def top (i : Nat) : Stmt := prg.main.body.getD i (.Pass ⟨0, 0, 0, 0⟩)
abbrev sBP : Stmt := inClass (top 2) 0
abbrev sIsInt : Stmt := top 6
abbrev sBetween : Stmt := top 7
abbrev sKind : Stmt := top 8
abbrev sCount : Stmt := top 12
abbrev sNoMore : Stmt := top 13
abbrev sBelow : Stmt := top 14
abbrev sRank : Stmt := top 16
abbrev sAhead : Stmt := top 17
abbrev sOrder : Stmt := top 18
abbrev sGreat : Stmt := top 19
abbrev sRInit : Stmt := inClass (top 20) 0
abbrev sRCont : Stmt := inClass (top 20) 3
abbrev sRCheck : Stmt := inClass (top 20) 5
abbrev sRLe : Stmt := inClass (top 20) 6
abbrev sIsSum : Stmt := top 23
abbrev sAreSums : Stmt := top 24
abbrev sIsKept : Stmt := top 25
abbrev sAInit : Stmt := inClass (top 26) 0
abbrev sALen : Stmt := inClass (top 26) 1
abbrev sAWorth : Stmt := inClass (top 26) 3
abbrev sAPay : Stmt := inClass (top 26) 4
abbrev sHeav : Stmt := top 27
abbrev sMostBy : Stmt := top 28
abbrev sPart : Stmt := top 29
abbrev sPool : Stmt := top 31
abbrev sDraw : Stmt := top 32
abbrev sPick : Stmt := top 33
abbrev sLReach : Stmt := top 34
abbrev sMore : Stmt := top 35
abbrev sRefused : Stmt := top 36
abbrev sGR : Stmt := top 37
abbrev sLaw : Stmt := top 38
abbrev dG (x : Str) (st : Stmt) : He.DefD := ⟨(x, none), x, x, defArgs st, defBody st, defScope st, [], []⟩
abbrev dM (c m q : Str) (st : Stmt) : He.DefD := ⟨(c, some m), m, q, defArgs st, defBody st, defScope st, [], []⟩
/-- the address of the written tuple ('nothing',) -/
def memAt (K : PySem.W.Frag) : Addr := match K.lookup (He.fAd K ("Allowance", some "__init__")) with
  | some ⟨_, _, .func fd, _⟩ => (match fd.kwdefaults with
    | .ref D => (match PySem.W.nsIn K D "memory" with
      | some (some (.ref a)) => a
      | _ => 0)
    | _ => 0)
  | _ => 0
abbrev dAI : He.DefD := { at_ := ("Allowance", some "__init__"), name := "__init__", qual := "Allowance.__init__", params := defArgs sAInit, body := defBody sAInit, scope := defScope sAInit, dfl := [], kwd := [("outages", .non), ("memory", .adr memAt)] }
def fn : List He.DefD := [
  dM "BadPart" "__init__" "BadPart.__init__" sBP,
  dG "is_integer" sIsInt, dG "is_between" sBetween, dG "has_kind" sKind, dG "is_count" sCount, dG "is_no_more" sNoMore, dG "is_below" sBelow, dG "rank" sRank, dG "is_ahead" sAhead, dG "in_order" sOrder, dG "greatest_of" sGreat,
  dM "Reach" "__init__" "Reach.__init__" sRInit, dM "Reach" "__contains__" "Reach.__contains__" sRCont, dM "Reach" "check" "Reach.check" sRCheck, dM "Reach" "__le__" "Reach.__le__" sRLe,
  dG "is_sum" sIsSum, dG "are_sums" sAreSums, dG "is_kept" sIsKept,
  dAI,
  dM "Allowance" "__len__" "Allowance.__len__" sALen, dM "Allowance" "worth" "Allowance.worth" sAWorth, dM "Allowance" "payments" "Allowance.payments" sAPay,
  dG "heaviest" sHeav, dG "most_by" sMostBy, dG "parting_allowance" sPart,
  dG "_law_pool" sPool, dG "_law_draw" sDraw, dG "_law_pick" sPick, dG "_law_reach" sLReach, dG "_law_more" sMore, dG "_law_refused" sRefused, dG "_law_great_right" sGR, dG "law" sLaw]
def fa : List He.Fa := [
  .glo "TownError", .glo "BadPart", .glo "Reach", .glo "Allowance", .glo "is_integer", .glo "is_between", .glo "has_kind", .glo "is_count", .glo "is_no_more", .glo "is_below", .glo "rank", .glo "is_ahead", .glo "in_order", .glo "greatest_of",
  .glo "is_sum", .glo "are_sums", .glo "is_kept", .glo "heaviest", .glo "most_by", .glo "parting_allowance", .glo "_law_pool", .glo "_law_draw", .glo "_law_pick", .glo "_law_reach", .glo "_law_more", .glo "_law_refused", .glo "_law_great_right", .glo "law",
  .free "isinstance", .free "int", .free "bool", .free "tuple", .free "list", .free "str", .free "len", .free "all", .free "any", .free "zip", .free "enumerate", .free "sum", .free "min", .free "max", .free "sorted", .free "range", .free "abs",
  .int "MOST_AREAS" 4, .int "MOST_NUMBER" (10 ^ 29), .int "MANY" (10 ^ 30),
  .cls "Reach", .cls "Allowance", .noat "Reach" "size", .noat "Reach" "peaks", .noat "Allowance" "by_day", .noat "Allowance" "by_outage", .noat "Allowance" "memory", .mkr "Reach", .mkr "Allowance",
  .meth "Reach" "__contains__", .meth "Reach" "check", .meth "Reach" "__le__", .meth "Allowance" "__len__", .meth "Allowance" "worth", .meth "Allowance" "payments", .exm "BadPart" "BadPart" true, .noat "BadPart" "part"]
/-! ### the further facts -/
def veI (K : PySem.W.Frag) (T : Addr) : Bool := match PySem.W.findCls K (.ref T) (.type "type") "__init__" with
  | some (.val (.builtin n)) => decide (n = "ValueError.__init__")
  | _ => false
/-- what isinstance asks of a class of one's own -/
def ownB (K : PySem.W.Frag) (C : Addr) : Bool := He.eqO (PySem.W.findIn K (.ref C) "__class__") (some (some (.builtin "object.__class__"))) && (He.eqO (PySem.W.specialIn K (.builtin "object.__class__") "__get__") (some (some (.builtin "getset_descriptor.__get__"))) &&
  (decide (PySem.W.takesIn K (.builtin "object.__class__") = some true) && decide (PySem.W.mroIn K C (.type "object") = some true)))
def exoB (K : PySem.W.Frag) (C : Addr) : Bool := match K.lookup C with
  | some ⟨.type "type", _, .cls cd, sl⟩ => (match cd.mro, sl.toList with
    | .ref C' :: bm, [_, _, _, _, some (.builtin n), _] => C' == C && n == "ValueError.__new__" && !cd.hasDel && PySem.HandSPX.refsVE bm && cd.hasDict
    | _, _ => false)
  | _ => false
theorem exoB_ok {K : PySem.W.Frag} {C : Addr} (q : exoB K C = true) : ∃ nm q N bs bm sn sub ab col dd k0 k1 k2 k3 k5, K.lookup C = some (excClassObj nm q C N bs bm true sn sub ab col dd k0 k1 k2 k3 k5 "ValueError.__new__") ∧ PySem.HandSPX.refsVE bm = true := by
  unfold exoB at q
  split at q
  · rename_i dd cd sl ho
    split at q
    · rename_i C' bm k0 k1 k2 k3 n k5 hm hs
      simp only [Bool.and_eq_true, beq_iff_eq, Bool.not_eq_true'] at q
      obtain ⟨⟨⟨⟨rfl, rfl⟩, hdel⟩, ht⟩, hok⟩ := q
      obtain ⟨nm, bs, mro, ns, qn, hd, sn, sub, ab, col, del⟩ := cd
      dsimp only at hm hdel hok
      subst hm hdel hok
      have hsl : sl = #[k0, k1, k2, k3, some (.builtin "ValueError.__new__"), k5] := by
        obtain ⟨l⟩ := sl
        simp only at hs
        rw [hs]
      subst hsl
      exact ⟨nm, qn, ns, bs, bm, sn, sub, ab, col, dd, k0, k1, k2, k3, k5, ho, ht⟩
    · cases q
  · cases q
def exB (K : PySem.W.Frag) (C : Addr) : Bool := exoB K C && (He.eqO (PySem.W.findIn K (.ref C) "__setattr__") (some (some (.builtin "object.__setattr__"))) && (decide (PySem.W.subIn K (.ref C) (.type "BaseException") = some true) &&
  (decide (PySem.W.typeIn K (.ref C) = some (.type "type")) && (PySem.W.keepIn K (.ref C) && (xfB K C && (He.eqO (PySem.W.findIn K (.ref C) "__init__") (some (some (.ref (He.ma K C "__init__")))) && decide (PySem.W.typeIn K (.ref (He.ma K C "__init__")) = some (.type "function"))))))))
def teB (K : PySem.W.Frag) (T : Addr) : Bool := PySem.W.readsIn K T (.type "type") && (He.eqO (PySem.W.specialIn K (.ref T) "__getattribute__") (some (some (.builtin "type.__getattribute__"))) && veI K T)
def tupAt (K : PySem.W.Frag) (a : Addr) (vs : List V) : Bool := match K.lookup a with
  | some ⟨.type c, _, .seq its _, _⟩ => decide (c = "tuple") && (decide (its.size ≤ sizeLine) && He.relAll vs its.toList)
  | _ => false
def moreK (K : PySem.W.Frag) : Bool := ownB K (He.ga K "Reach") && (ownB K (He.ga K "Allowance") && (decide (PySem.W.kitOne K (.ref (He.ga K "Reach")) (.ref (He.ga K "Reach")) = some true) && (decide (PySem.W.kitOne K (.type "NoneType") (.ref (He.ga K "Reach")) = some false) &&
  (exB K (He.ga K "BadPart") && (teB K (He.ga K "TownError") && tupAt K (memAt K) [.str "nothing"])))))
structure SaysY (K : PySem.W.Frag) : Prop where
  d : He.SaysD fa fn K
  m : moreK K = true
/-- the facts at a module's names mg -/
structure Tx (K : PySem.W.Frag) (mg : Str → Option Value) : Prop where
  sy : SaysY K
  at_ : ∃ h : Heap, K.In h ∧ h.Ns mainGlobals mg
section
variable {K : PySem.W.Frag} {mg : Str → Option Value}
theorem Tx.g_TownError (T : Tx K mg) : mg "TownError" = some (.ref (He.ga K "TownError")) := by
  obtain ⟨h, X, G⟩ := T.at_
  exact He.glo_ok X G (T.sy.d.fact 0 (f := .glo "TownError") rfl)
theorem Tx.g_BadPart (T : Tx K mg) : mg "BadPart" = some (.ref (He.ga K "BadPart")) := by
  obtain ⟨h, X, G⟩ := T.at_
  exact He.glo_ok X G (T.sy.d.fact 1 (f := .glo "BadPart") rfl)
theorem Tx.g_Reach (T : Tx K mg) : mg "Reach" = some (.ref (He.ga K "Reach")) := by
  obtain ⟨h, X, G⟩ := T.at_
  exact He.glo_ok X G (T.sy.d.fact 2 (f := .glo "Reach") rfl)
theorem Tx.g_Allowance (T : Tx K mg) : mg "Allowance" = some (.ref (He.ga K "Allowance")) := by
  obtain ⟨h, X, G⟩ := T.at_
  exact He.glo_ok X G (T.sy.d.fact 3 (f := .glo "Allowance") rfl)
theorem Tx.g_is_integer (T : Tx K mg) : mg "is_integer" = some (.ref (He.ga K "is_integer")) := by
  obtain ⟨h, X, G⟩ := T.at_
  exact He.glo_ok X G (T.sy.d.fact 4 (f := .glo "is_integer") rfl)
theorem Tx.g_is_between (T : Tx K mg) : mg "is_between" = some (.ref (He.ga K "is_between")) := by
  obtain ⟨h, X, G⟩ := T.at_
  exact He.glo_ok X G (T.sy.d.fact 5 (f := .glo "is_between") rfl)
theorem Tx.g_has_kind (T : Tx K mg) : mg "has_kind" = some (.ref (He.ga K "has_kind")) := by
  obtain ⟨h, X, G⟩ := T.at_
  exact He.glo_ok X G (T.sy.d.fact 6 (f := .glo "has_kind") rfl)
theorem Tx.g_is_count (T : Tx K mg) : mg "is_count" = some (.ref (He.ga K "is_count")) := by
  obtain ⟨h, X, G⟩ := T.at_
  exact He.glo_ok X G (T.sy.d.fact 7 (f := .glo "is_count") rfl)
theorem Tx.g_is_no_more (T : Tx K mg) : mg "is_no_more" = some (.ref (He.ga K "is_no_more")) := by
  obtain ⟨h, X, G⟩ := T.at_
  exact He.glo_ok X G (T.sy.d.fact 8 (f := .glo "is_no_more") rfl)
theorem Tx.g_is_below (T : Tx K mg) : mg "is_below" = some (.ref (He.ga K "is_below")) := by
  obtain ⟨h, X, G⟩ := T.at_
  exact He.glo_ok X G (T.sy.d.fact 9 (f := .glo "is_below") rfl)
theorem Tx.g_rank (T : Tx K mg) : mg "rank" = some (.ref (He.ga K "rank")) := by
  obtain ⟨h, X, G⟩ := T.at_
  exact He.glo_ok X G (T.sy.d.fact 10 (f := .glo "rank") rfl)
theorem Tx.g_is_ahead (T : Tx K mg) : mg "is_ahead" = some (.ref (He.ga K "is_ahead")) := by
  obtain ⟨h, X, G⟩ := T.at_
  exact He.glo_ok X G (T.sy.d.fact 11 (f := .glo "is_ahead") rfl)
theorem Tx.g_in_order (T : Tx K mg) : mg "in_order" = some (.ref (He.ga K "in_order")) := by
  obtain ⟨h, X, G⟩ := T.at_
  exact He.glo_ok X G (T.sy.d.fact 12 (f := .glo "in_order") rfl)
theorem Tx.g_greatest_of (T : Tx K mg) : mg "greatest_of" = some (.ref (He.ga K "greatest_of")) := by
  obtain ⟨h, X, G⟩ := T.at_
  exact He.glo_ok X G (T.sy.d.fact 13 (f := .glo "greatest_of") rfl)
theorem Tx.g_is_sum (T : Tx K mg) : mg "is_sum" = some (.ref (He.ga K "is_sum")) := by
  obtain ⟨h, X, G⟩ := T.at_
  exact He.glo_ok X G (T.sy.d.fact 14 (f := .glo "is_sum") rfl)
theorem Tx.g_are_sums (T : Tx K mg) : mg "are_sums" = some (.ref (He.ga K "are_sums")) := by
  obtain ⟨h, X, G⟩ := T.at_
  exact He.glo_ok X G (T.sy.d.fact 15 (f := .glo "are_sums") rfl)
theorem Tx.g_is_kept (T : Tx K mg) : mg "is_kept" = some (.ref (He.ga K "is_kept")) := by
  obtain ⟨h, X, G⟩ := T.at_
  exact He.glo_ok X G (T.sy.d.fact 16 (f := .glo "is_kept") rfl)
theorem Tx.g_heaviest (T : Tx K mg) : mg "heaviest" = some (.ref (He.ga K "heaviest")) := by
  obtain ⟨h, X, G⟩ := T.at_
  exact He.glo_ok X G (T.sy.d.fact 17 (f := .glo "heaviest") rfl)
theorem Tx.g_most_by (T : Tx K mg) : mg "most_by" = some (.ref (He.ga K "most_by")) := by
  obtain ⟨h, X, G⟩ := T.at_
  exact He.glo_ok X G (T.sy.d.fact 18 (f := .glo "most_by") rfl)
theorem Tx.g_parting_allowance (T : Tx K mg) : mg "parting_allowance" = some (.ref (He.ga K "parting_allowance")) := by
  obtain ⟨h, X, G⟩ := T.at_
  exact He.glo_ok X G (T.sy.d.fact 19 (f := .glo "parting_allowance") rfl)
theorem Tx.g_law_pool (T : Tx K mg) : mg "_law_pool" = some (.ref (He.ga K "_law_pool")) := by
  obtain ⟨h, X, G⟩ := T.at_
  exact He.glo_ok X G (T.sy.d.fact 20 (f := .glo "_law_pool") rfl)
theorem Tx.g_law_draw (T : Tx K mg) : mg "_law_draw" = some (.ref (He.ga K "_law_draw")) := by
  obtain ⟨h, X, G⟩ := T.at_
  exact He.glo_ok X G (T.sy.d.fact 21 (f := .glo "_law_draw") rfl)
theorem Tx.g_law_pick (T : Tx K mg) : mg "_law_pick" = some (.ref (He.ga K "_law_pick")) := by
  obtain ⟨h, X, G⟩ := T.at_
  exact He.glo_ok X G (T.sy.d.fact 22 (f := .glo "_law_pick") rfl)
theorem Tx.g_law_reach (T : Tx K mg) : mg "_law_reach" = some (.ref (He.ga K "_law_reach")) := by
  obtain ⟨h, X, G⟩ := T.at_
  exact He.glo_ok X G (T.sy.d.fact 23 (f := .glo "_law_reach") rfl)
theorem Tx.g_law_more (T : Tx K mg) : mg "_law_more" = some (.ref (He.ga K "_law_more")) := by
  obtain ⟨h, X, G⟩ := T.at_
  exact He.glo_ok X G (T.sy.d.fact 24 (f := .glo "_law_more") rfl)
theorem Tx.g_law_refused (T : Tx K mg) : mg "_law_refused" = some (.ref (He.ga K "_law_refused")) := by
  obtain ⟨h, X, G⟩ := T.at_
  exact He.glo_ok X G (T.sy.d.fact 25 (f := .glo "_law_refused") rfl)
theorem Tx.g_law_great_right (T : Tx K mg) : mg "_law_great_right" = some (.ref (He.ga K "_law_great_right")) := by
  obtain ⟨h, X, G⟩ := T.at_
  exact He.glo_ok X G (T.sy.d.fact 26 (f := .glo "_law_great_right") rfl)
theorem Tx.g_law (T : Tx K mg) : mg "law" = some (.ref (He.ga K "law")) := by
  obtain ⟨h, X, G⟩ := T.at_
  exact He.glo_ok X G (T.sy.d.fact 27 (f := .glo "law") rfl)
theorem Tx.n_isinstance (T : Tx K mg) : mg "isinstance" = none := by
  obtain ⟨h, X, G⟩ := T.at_
  exact He.free_ok X G (T.sy.d.fact 28 (f := .free "isinstance") rfl)
theorem Tx.n_int (T : Tx K mg) : mg "int" = none := by
  obtain ⟨h, X, G⟩ := T.at_
  exact He.free_ok X G (T.sy.d.fact 29 (f := .free "int") rfl)
theorem Tx.n_bool (T : Tx K mg) : mg "bool" = none := by
  obtain ⟨h, X, G⟩ := T.at_
  exact He.free_ok X G (T.sy.d.fact 30 (f := .free "bool") rfl)
theorem Tx.n_tuple (T : Tx K mg) : mg "tuple" = none := by
  obtain ⟨h, X, G⟩ := T.at_
  exact He.free_ok X G (T.sy.d.fact 31 (f := .free "tuple") rfl)
theorem Tx.n_list (T : Tx K mg) : mg "list" = none := by
  obtain ⟨h, X, G⟩ := T.at_
  exact He.free_ok X G (T.sy.d.fact 32 (f := .free "list") rfl)
theorem Tx.n_str (T : Tx K mg) : mg "str" = none := by
  obtain ⟨h, X, G⟩ := T.at_
  exact He.free_ok X G (T.sy.d.fact 33 (f := .free "str") rfl)
theorem Tx.n_len (T : Tx K mg) : mg "len" = none := by
  obtain ⟨h, X, G⟩ := T.at_
  exact He.free_ok X G (T.sy.d.fact 34 (f := .free "len") rfl)
theorem Tx.n_all (T : Tx K mg) : mg "all" = none := by
  obtain ⟨h, X, G⟩ := T.at_
  exact He.free_ok X G (T.sy.d.fact 35 (f := .free "all") rfl)
theorem Tx.n_any (T : Tx K mg) : mg "any" = none := by
  obtain ⟨h, X, G⟩ := T.at_
  exact He.free_ok X G (T.sy.d.fact 36 (f := .free "any") rfl)
theorem Tx.n_zip (T : Tx K mg) : mg "zip" = none := by
  obtain ⟨h, X, G⟩ := T.at_
  exact He.free_ok X G (T.sy.d.fact 37 (f := .free "zip") rfl)
theorem Tx.n_enumerate (T : Tx K mg) : mg "enumerate" = none := by
  obtain ⟨h, X, G⟩ := T.at_
  exact He.free_ok X G (T.sy.d.fact 38 (f := .free "enumerate") rfl)
theorem Tx.n_sum (T : Tx K mg) : mg "sum" = none := by
  obtain ⟨h, X, G⟩ := T.at_
  exact He.free_ok X G (T.sy.d.fact 39 (f := .free "sum") rfl)
theorem Tx.n_min (T : Tx K mg) : mg "min" = none := by
  obtain ⟨h, X, G⟩ := T.at_
  exact He.free_ok X G (T.sy.d.fact 40 (f := .free "min") rfl)
theorem Tx.n_max (T : Tx K mg) : mg "max" = none := by
  obtain ⟨h, X, G⟩ := T.at_
  exact He.free_ok X G (T.sy.d.fact 41 (f := .free "max") rfl)
theorem Tx.n_sorted (T : Tx K mg) : mg "sorted" = none := by
  obtain ⟨h, X, G⟩ := T.at_
  exact He.free_ok X G (T.sy.d.fact 42 (f := .free "sorted") rfl)
theorem Tx.n_range (T : Tx K mg) : mg "range" = none := by
  obtain ⟨h, X, G⟩ := T.at_
  exact He.free_ok X G (T.sy.d.fact 43 (f := .free "range") rfl)
theorem Tx.n_abs (T : Tx K mg) : mg "abs" = none := by
  obtain ⟨h, X, G⟩ := T.at_
  exact He.free_ok X G (T.sy.d.fact 44 (f := .free "abs") rfl)
theorem Tx.i_MOST_AREAS (T : Tx K mg) : ∃ t, mg "MOST_AREAS" = some (.int (4) t) := by
  obtain ⟨h, X, G⟩ := T.at_
  exact He.int_ok X G (T.sy.d.fact 45 (f := .int "MOST_AREAS" (4)) rfl)
theorem Tx.i_MOST_NUMBER (T : Tx K mg) : ∃ t, mg "MOST_NUMBER" = some (.int ((10 ^ 29)) t) := by
  obtain ⟨h, X, G⟩ := T.at_
  exact He.int_ok X G (T.sy.d.fact 46 (f := .int "MOST_NUMBER" ((10 ^ 29))) rfl)
theorem Tx.i_MANY (T : Tx K mg) : ∃ t, mg "MANY" = some (.int ((10 ^ 30)) t) := by
  obtain ⟨h, X, G⟩ := T.at_
  exact He.int_ok X G (T.sy.d.fact 47 (f := .int "MANY" ((10 ^ 30))) rfl)
theorem Tx.c_Reach (T : Tx K mg) : Cls K (He.ga K "Reach") := He.cls_ok (T.sy.d.fact 48 (f := .cls "Reach") rfl)
theorem Tx.c_Allowance (T : Tx K mg) : Cls K (He.ga K "Allowance") := He.cls_ok (T.sy.d.fact 49 (f := .cls "Allowance") rfl)
theorem Tx.no_Reach_size (T : Tx K mg) : NoAttr K (He.ga K "Reach") "size" := He.noat_ok (T.sy.d.fact 50 (f := .noat "Reach" "size") rfl)
theorem Tx.no_Reach_peaks (T : Tx K mg) : NoAttr K (He.ga K "Reach") "peaks" := He.noat_ok (T.sy.d.fact 51 (f := .noat "Reach" "peaks") rfl)
theorem Tx.no_Allowance_by_day (T : Tx K mg) : NoAttr K (He.ga K "Allowance") "by_day" := He.noat_ok (T.sy.d.fact 52 (f := .noat "Allowance" "by_day") rfl)
theorem Tx.no_Allowance_by_outage (T : Tx K mg) : NoAttr K (He.ga K "Allowance") "by_outage" := He.noat_ok (T.sy.d.fact 53 (f := .noat "Allowance" "by_outage") rfl)
theorem Tx.no_Allowance_memory (T : Tx K mg) : NoAttr K (He.ga K "Allowance") "memory" := He.noat_ok (T.sy.d.fact 54 (f := .noat "Allowance" "memory") rfl)
theorem Tx.mk_Reach (T : Tx K mg) : Mk K (He.ga K "Reach") (He.ma K (He.ga K "Reach") "__init__") := He.mkr_ok (T.sy.d.fact 55 (f := .mkr "Reach") rfl)
theorem Tx.mk_Allowance (T : Tx K mg) : Mk K (He.ga K "Allowance") (He.ma K (He.ga K "Allowance") "__init__") := He.mkr_ok (T.sy.d.fact 56 (f := .mkr "Allowance") rfl)
theorem Tx.m_Reach_contains (T : Tx K mg) : Meth K (He.ga K "Reach") "__contains__" (He.ma K (He.ga K "Reach") "__contains__") := He.meth_ok (T.sy.d.fact 57 (f := .meth "Reach" "__contains__") rfl)
theorem Tx.m_Reach_check (T : Tx K mg) : Meth K (He.ga K "Reach") "check" (He.ma K (He.ga K "Reach") "check") := He.meth_ok (T.sy.d.fact 58 (f := .meth "Reach" "check") rfl)
theorem Tx.m_Reach_le (T : Tx K mg) : Meth K (He.ga K "Reach") "__le__" (He.ma K (He.ga K "Reach") "__le__") := He.meth_ok (T.sy.d.fact 59 (f := .meth "Reach" "__le__") rfl)
theorem Tx.m_Allowance_len (T : Tx K mg) : Meth K (He.ga K "Allowance") "__len__" (He.ma K (He.ga K "Allowance") "__len__") := He.meth_ok (T.sy.d.fact 60 (f := .meth "Allowance" "__len__") rfl)
theorem Tx.m_Allowance_worth (T : Tx K mg) : Meth K (He.ga K "Allowance") "worth" (He.ma K (He.ga K "Allowance") "worth") := He.meth_ok (T.sy.d.fact 61 (f := .meth "Allowance" "worth") rfl)
theorem Tx.m_Allowance_payments (T : Tx K mg) : Meth K (He.ga K "Allowance") "payments" (He.ma K (He.ga K "Allowance") "payments") := He.meth_ok (T.sy.d.fact 62 (f := .meth "Allowance" "payments") rfl)
theorem Tx.exm (T : Tx K mg) : PySem.W.exmOne K (.ref (He.ga K "BadPart")) (.ref (He.ga K "BadPart")) = some true := He.exm_ok (T.sy.d.fact 63 (f := .exm "BadPart" "BadPart" true) rfl)
theorem Tx.no_BadPart_part (T : Tx K mg) : NoAttr K (He.ga K "BadPart") "part" := He.noat_ok (T.sy.d.fact 64 (f := .noat "BadPart" "part") rfl)
theorem Tx.F_BadPart_init (T : Tx K mg) : ∃ fd, FunD K "__init__" "BadPart.__init__" (defArgs sBP) (defBody sBP) (defScope sBP) [] [] (He.ma K (He.ga K "BadPart") "__init__") fd := T.sy.d.def_ 0 (d := dM "BadPart" "__init__" "BadPart.__init__" sBP) rfl
theorem Tx.F_is_integer (T : Tx K mg) : ∃ fd, FunD K "is_integer" "is_integer" (defArgs sIsInt) (defBody sIsInt) (defScope sIsInt) [] [] (He.ga K "is_integer") fd := T.sy.d.def_ 1 (d := dG "is_integer" sIsInt) rfl
theorem Tx.F_is_between (T : Tx K mg) : ∃ fd, FunD K "is_between" "is_between" (defArgs sBetween) (defBody sBetween) (defScope sBetween) [] [] (He.ga K "is_between") fd := T.sy.d.def_ 2 (d := dG "is_between" sBetween) rfl
theorem Tx.F_has_kind (T : Tx K mg) : ∃ fd, FunD K "has_kind" "has_kind" (defArgs sKind) (defBody sKind) (defScope sKind) [] [] (He.ga K "has_kind") fd := T.sy.d.def_ 3 (d := dG "has_kind" sKind) rfl
theorem Tx.F_is_count (T : Tx K mg) : ∃ fd, FunD K "is_count" "is_count" (defArgs sCount) (defBody sCount) (defScope sCount) [] [] (He.ga K "is_count") fd := T.sy.d.def_ 4 (d := dG "is_count" sCount) rfl
theorem Tx.F_is_no_more (T : Tx K mg) : ∃ fd, FunD K "is_no_more" "is_no_more" (defArgs sNoMore) (defBody sNoMore) (defScope sNoMore) [] [] (He.ga K "is_no_more") fd := T.sy.d.def_ 5 (d := dG "is_no_more" sNoMore) rfl
theorem Tx.F_is_below (T : Tx K mg) : ∃ fd, FunD K "is_below" "is_below" (defArgs sBelow) (defBody sBelow) (defScope sBelow) [] [] (He.ga K "is_below") fd := T.sy.d.def_ 6 (d := dG "is_below" sBelow) rfl
theorem Tx.F_rank (T : Tx K mg) : ∃ fd, FunD K "rank" "rank" (defArgs sRank) (defBody sRank) (defScope sRank) [] [] (He.ga K "rank") fd := T.sy.d.def_ 7 (d := dG "rank" sRank) rfl
theorem Tx.F_is_ahead (T : Tx K mg) : ∃ fd, FunD K "is_ahead" "is_ahead" (defArgs sAhead) (defBody sAhead) (defScope sAhead) [] [] (He.ga K "is_ahead") fd := T.sy.d.def_ 8 (d := dG "is_ahead" sAhead) rfl
theorem Tx.F_in_order (T : Tx K mg) : ∃ fd, FunD K "in_order" "in_order" (defArgs sOrder) (defBody sOrder) (defScope sOrder) [] [] (He.ga K "in_order") fd := T.sy.d.def_ 9 (d := dG "in_order" sOrder) rfl
theorem Tx.F_greatest_of (T : Tx K mg) : ∃ fd, FunD K "greatest_of" "greatest_of" (defArgs sGreat) (defBody sGreat) (defScope sGreat) [] [] (He.ga K "greatest_of") fd := T.sy.d.def_ 10 (d := dG "greatest_of" sGreat) rfl
theorem Tx.F_Reach_init (T : Tx K mg) : ∃ fd, FunD K "__init__" "Reach.__init__" (defArgs sRInit) (defBody sRInit) (defScope sRInit) [] [] (He.ma K (He.ga K "Reach") "__init__") fd := T.sy.d.def_ 11 (d := dM "Reach" "__init__" "Reach.__init__" sRInit) rfl
theorem Tx.F_Reach_contains (T : Tx K mg) : ∃ fd, FunD K "__contains__" "Reach.__contains__" (defArgs sRCont) (defBody sRCont) (defScope sRCont) [] [] (He.ma K (He.ga K "Reach") "__contains__") fd := T.sy.d.def_ 12 (d := dM "Reach" "__contains__" "Reach.__contains__" sRCont) rfl
theorem Tx.F_Reach_check (T : Tx K mg) : ∃ fd, FunD K "check" "Reach.check" (defArgs sRCheck) (defBody sRCheck) (defScope sRCheck) [] [] (He.ma K (He.ga K "Reach") "check") fd := T.sy.d.def_ 13 (d := dM "Reach" "check" "Reach.check" sRCheck) rfl
theorem Tx.F_Reach_le (T : Tx K mg) : ∃ fd, FunD K "__le__" "Reach.__le__" (defArgs sRLe) (defBody sRLe) (defScope sRLe) [] [] (He.ma K (He.ga K "Reach") "__le__") fd := T.sy.d.def_ 14 (d := dM "Reach" "__le__" "Reach.__le__" sRLe) rfl
theorem Tx.F_is_sum (T : Tx K mg) : ∃ fd, FunD K "is_sum" "is_sum" (defArgs sIsSum) (defBody sIsSum) (defScope sIsSum) [] [] (He.ga K "is_sum") fd := T.sy.d.def_ 15 (d := dG "is_sum" sIsSum) rfl
theorem Tx.F_are_sums (T : Tx K mg) : ∃ fd, FunD K "are_sums" "are_sums" (defArgs sAreSums) (defBody sAreSums) (defScope sAreSums) [] [] (He.ga K "are_sums") fd := T.sy.d.def_ 16 (d := dG "are_sums" sAreSums) rfl
theorem Tx.F_is_kept (T : Tx K mg) : ∃ fd, FunD K "is_kept" "is_kept" (defArgs sIsKept) (defBody sIsKept) (defScope sIsKept) [] [] (He.ga K "is_kept") fd := T.sy.d.def_ 17 (d := dG "is_kept" sIsKept) rfl
theorem Tx.F_Allowance_init (T : Tx K mg) : ∃ fd, FunD K "__init__" "Allowance.__init__" (defArgs sAInit) (defBody sAInit) (defScope sAInit) [] [("outages", .non), ("memory", .ref (memAt K))] (He.ma K (He.ga K "Allowance") "__init__") fd := T.sy.d.def_ 18 (d := dAI) rfl
theorem Tx.F_Allowance_len (T : Tx K mg) : ∃ fd, FunD K "__len__" "Allowance.__len__" (defArgs sALen) (defBody sALen) (defScope sALen) [] [] (He.ma K (He.ga K "Allowance") "__len__") fd := T.sy.d.def_ 19 (d := dM "Allowance" "__len__" "Allowance.__len__" sALen) rfl
theorem Tx.F_Allowance_worth (T : Tx K mg) : ∃ fd, FunD K "worth" "Allowance.worth" (defArgs sAWorth) (defBody sAWorth) (defScope sAWorth) [] [] (He.ma K (He.ga K "Allowance") "worth") fd := T.sy.d.def_ 20 (d := dM "Allowance" "worth" "Allowance.worth" sAWorth) rfl
theorem Tx.F_Allowance_payments (T : Tx K mg) : ∃ fd, FunD K "payments" "Allowance.payments" (defArgs sAPay) (defBody sAPay) (defScope sAPay) [] [] (He.ma K (He.ga K "Allowance") "payments") fd := T.sy.d.def_ 21 (d := dM "Allowance" "payments" "Allowance.payments" sAPay) rfl
theorem Tx.F_heaviest (T : Tx K mg) : ∃ fd, FunD K "heaviest" "heaviest" (defArgs sHeav) (defBody sHeav) (defScope sHeav) [] [] (He.ga K "heaviest") fd := T.sy.d.def_ 22 (d := dG "heaviest" sHeav) rfl
theorem Tx.F_most_by (T : Tx K mg) : ∃ fd, FunD K "most_by" "most_by" (defArgs sMostBy) (defBody sMostBy) (defScope sMostBy) [] [] (He.ga K "most_by") fd := T.sy.d.def_ 23 (d := dG "most_by" sMostBy) rfl
theorem Tx.F_parting_allowance (T : Tx K mg) : ∃ fd, FunD K "parting_allowance" "parting_allowance" (defArgs sPart) (defBody sPart) (defScope sPart) [] [] (He.ga K "parting_allowance") fd := T.sy.d.def_ 24 (d := dG "parting_allowance" sPart) rfl
theorem Tx.F_law_pool (T : Tx K mg) : ∃ fd, FunD K "_law_pool" "_law_pool" (defArgs sPool) (defBody sPool) (defScope sPool) [] [] (He.ga K "_law_pool") fd := T.sy.d.def_ 25 (d := dG "_law_pool" sPool) rfl
theorem Tx.F_law_draw (T : Tx K mg) : ∃ fd, FunD K "_law_draw" "_law_draw" (defArgs sDraw) (defBody sDraw) (defScope sDraw) [] [] (He.ga K "_law_draw") fd := T.sy.d.def_ 26 (d := dG "_law_draw" sDraw) rfl
theorem Tx.F_law_pick (T : Tx K mg) : ∃ fd, FunD K "_law_pick" "_law_pick" (defArgs sPick) (defBody sPick) (defScope sPick) [] [] (He.ga K "_law_pick") fd := T.sy.d.def_ 27 (d := dG "_law_pick" sPick) rfl
theorem Tx.F_law_reach (T : Tx K mg) : ∃ fd, FunD K "_law_reach" "_law_reach" (defArgs sLReach) (defBody sLReach) (defScope sLReach) [] [] (He.ga K "_law_reach") fd := T.sy.d.def_ 28 (d := dG "_law_reach" sLReach) rfl
theorem Tx.F_law_more (T : Tx K mg) : ∃ fd, FunD K "_law_more" "_law_more" (defArgs sMore) (defBody sMore) (defScope sMore) [] [] (He.ga K "_law_more") fd := T.sy.d.def_ 29 (d := dG "_law_more" sMore) rfl
theorem Tx.F_law_refused (T : Tx K mg) : ∃ fd, FunD K "_law_refused" "_law_refused" (defArgs sRefused) (defBody sRefused) (defScope sRefused) [] [] (He.ga K "_law_refused") fd := T.sy.d.def_ 30 (d := dG "_law_refused" sRefused) rfl
theorem Tx.F_law_great_right (T : Tx K mg) : ∃ fd, FunD K "_law_great_right" "_law_great_right" (defArgs sGR) (defBody sGR) (defScope sGR) [] [] (He.ga K "_law_great_right") fd := T.sy.d.def_ 31 (d := dG "_law_great_right" sGR) rfl
theorem Tx.F_law (T : Tx K mg) : ∃ fd, FunD K "law" "law" (defArgs sLaw) (defBody sLaw) (defScope sLaw) [] [] (He.ga K "law") fd := T.sy.d.def_ 32 (d := dG "law" sLaw) rfl
theorem veI_ok {T : Addr} (h : veI K T = true) : PySem.W.findCls K (.ref T) (.type "type") "__init__" = some (.val (.builtin "ValueError.__init__")) := by
  unfold veI at h
  cases e : PySem.W.findCls K (.ref T) (.type "type") "__init__" with
  | none =>
    rw [e] at h
    cases h
  | some c =>
    rw [e] at h
    cases c with
    | get g a o t => cases h
    | val v =>
      cases v with
      | builtin n =>
        have e2 : n = "ValueError.__init__" := of_decide_eq_true h
        rw [e2]
      | _ => cases h
/-- what isinstance asks of a class of one's own -/
structure OwnC (K : PySem.W.Frag) (C : Addr) : Prop where
  ca : PySem.W.findIn K (.ref C) "__class__" = some (some (.builtin "object.__class__"))
  cn : PySem.W.specialIn K (.builtin "object.__class__") "__get__" = some (some (.builtin "getset_descriptor.__get__"))
  ct : PySem.W.takesIn K (.builtin "object.__class__") = some true
  cm : PySem.W.mroIn K C (.type "object") = some true
theorem ownB_ok {C : Addr} (h : ownB K C = true) : OwnC K C := by
  obtain ⟨h1, h⟩ := He.ba h
  obtain ⟨h2, h⟩ := He.ba h
  obtain ⟨h3, h4⟩ := He.ba h
  exact ⟨He.eqO_ok h1, He.eqO_ok h2, of_decide_eq_true h3, of_decide_eq_true h4⟩
theorem tupAt_ok {a : Addr} {vs : List V} (h : tupAt K a vs = true) (H : Hp) : SqT K H a vs := by
  unfold tupAt at h
  cases q : K.lookup a with
  | none =>
    rw [q] at h
    cases h
  | some o =>
    obtain ⟨oc, od, dt, osl⟩ := o
    rw [q] at h
    cases oc with
    | type c =>
      cases dt with
      | seq its n =>
        obtain ⟨h1, h2⟩ := He.ba (show (decide (c = "tuple") && (decide (its.size ≤ sizeLine) && He.relAll vs its.toList)) = true from h)
        obtain ⟨h3, h4⟩ := He.ba h2
        exact .inr ⟨_, its, n, q, congrArg Value.type (of_decide_eq_true h1), rfl, of_decide_eq_true h3, He.relAll_ok h4⟩
      | _ => cases h
    | _ => cases dt <;> cases h
structure MoreK (K : PySem.W.Frag) : Prop where
  ownR : OwnC K (He.ga K "Reach")
  ownA : OwnC K (He.ga K "Allowance")
  kitR : PySem.W.kitOne K (.ref (He.ga K "Reach")) (.ref (He.ga K "Reach")) = some true
  kitN : PySem.W.kitOne K (.type "NoneType") (.ref (He.ga K "Reach")) = some false
  ex : exB K (He.ga K "BadPart") = true
  te : teB K (He.ga K "TownError") = true
  mem : tupAt K (memAt K) [.str "nothing"] = true
theorem Tx.more (T : Tx K mg) : MoreK K := by
  have h := T.sy.m
  unfold moreK at h
  obtain ⟨h1, h⟩ := He.ba h
  obtain ⟨h2, h⟩ := He.ba h
  obtain ⟨h3, h⟩ := He.ba h
  obtain ⟨h4, h⟩ := He.ba h
  obtain ⟨h5, h⟩ := He.ba h
  obtain ⟨h6, h7⟩ := He.ba h
  exact ⟨ownB_ok h1, ownB_ok h2, of_decide_eq_true h3, of_decide_eq_true h4, h5, h6, h7⟩
end
end K79
/-! ## KRules -/
set_option maxRecDepth 100000
set_option maxHeartbeats 2000000
/-! own rules: <, in, len of instances by their own defs; (x,) * 1; < of data; TownError.__init__(self, ..) -/
namespace L2
open PySem PySem.Spec PyProof.Rows
section
variable {X : Cx} {CX : CXT} {pins : List (Addr × Obj)} {σ : St} {H : Hp} {s : Shared} {a C dx g : Addr} {n : Nat} {sp : Sp} {E : XK} {fd : FuncData} {ps : List Str}
theorem inst_at (I : Inv X pins σ H s) {fs : List (Str × V)} (h : H a = some (.ins C dx fs)) : ∃ od, PySem.W.InstAt s.heap a (PySem.W.instObj C dx) C (some od) := by
  obtain ⟨mA, O, _⟩ := ins_get I.hok h
  obtain ⟨od, J, _⟩ := O.look
  exact ⟨od, J⟩
/-- a def whose parameters are all given, as a plain function of values -/
theorem fnr_of (F : FnOk X.prog X.w X.K X.mg X.base CX n g fd ps sp) (hb : Binds X.K fd ps []) : FnR X.prog X.w X.K X.mg X.base CX n g (fun vs H Q E => sp vs H Q E) := fun A outer s H us vs Q E hr e0 r h => by
  have hl : us.length = ps.length := by
    rw [← Paired.length r]
    exact F.len _ _ _ _ h
  have b := hb s us (e0.mod.kin.keeps fun b o e => (e0.bs b o e).1) (by rw [List.append_nil]; exact hl)
  rw [List.append_nil] at b
  exact F.run A outer s H ⟨us, []⟩ us vs Q E hr e0 b r h
/-- x op y of instances by x's own def -/
def rOwnI (K : PySem.W.Frag) (C : Addr) (sp : Sp) (E : XK) : R2 := fun x y H Q => ∃ a dx fs b C' dy gs, x = .ref a ∧ y = .ref b ∧ H a = some (.ins C dx fs) ∧ H b = some (.ins C' dy gs) ∧ PySem.W.notFirst K C (.ref C') = true ∧ sp [x, y] H Q E
theorem op_ownI {op : CmpOp} (hop : ∀ a b, compareOp op a b = richCompare op a b) (hs : PySem.W.findIn X.K (.ref C) (cmpInfo op).2.1 = some (some (.ref g))) (hf : PySem.W.isFn X.K (.ref g) = true) (F : FnR X.prog X.w X.K X.mg X.base CX n g sp)
    (hr : Room n X.A) (hx : Passes CX X E) : OpR X (compareOp op) (rOwnI X.K C sp E) := by
  intro pins s σ H x y v u Q I rx ry h
  obtain ⟨a, dx, vs, b, C', dy, ws, rfl, rfl, ha, hb, hn, q⟩ := h
  cases (show v = Value.ref a from rx)
  cases (show u = Value.ref b from ry)
  obtain ⟨od, J⟩ := inst_at I ha
  obtain ⟨od', J'⟩ := inst_at I hb
  obtain ⟨m, hF⟩ := I.fr
  rw [hop]
  refine PySem.W.cmp_K (op := op) (tb := .ref C') hr.units0 hF I.ok.mod.kin J J'.type hn hs hf ?_
  refine wpAny_mono (wpAny_call (run_fnR (us := [.ref a, .ref b]) (vs := [.ref a, .ref b]) F hr hx I (.cons rfl (.cons rfl .nil)) q)) (fun w s' z => ?_) fun _ _ x => x
  obtain ⟨z', H', I', rz, qz⟩ := z
  exact SlX.cmpback rz ⟨z', H', I', rz, qz⟩
/-- x in y, x not in y by y's own def, which answers a truth -/
def rInI (neg : Bool) (C : Addr) (sp : Sp) (E : XK) : R2 := fun x y H Q => ∃ a dx fs, y = .ref a ∧ H a = some (.ins C dx fs) ∧ sp [y, x] H (fun z H' => ∃ b, z = .bl b ∧ Q (.bl (if neg then !b else b)) H') E
theorem op_notInI (hs : PySem.W.findIn X.K (.ref C) "__contains__" = some (some (.ref g))) (hf : PySem.W.isFn X.K (.ref g) = true) (F : FnR X.prog X.w X.K X.mg X.base CX n g sp) (hr : Room n X.A) (hx : Passes CX X E) :
    OpR X (compareOp .NotIn) (rInI true C sp E) := by
  intro pins s σ H x y v u Q I rx ry h
  obtain ⟨a, dx, fs, rfl, ha, q⟩ := h
  cases (show u = Value.ref a from ry)
  obtain ⟨od, J⟩ := inst_at I ha
  obtain ⟨m, hF⟩ := I.fr
  refine PySem.W.notIn_K hF I.ok.mod.kin J hs hf ?_
  refine wpAny_mono (wpAny_call (run_fnR (us := [.ref a, v]) (vs := [.ref a, x]) F hr hx I (.cons rfl (.cons rx .nil)) q)) (fun w s' z => ?_) fun _ _ x => x
  obtain ⟨z', H', I', rz, b, ez, qz⟩ := z
  subst ez
  cases (show w = Value.bool b from rz)
  exact wpAny_truthy_bool ⟨.bl (!b), H', I', rfl, by simpa using qz⟩
/-- len(x) of an instance -/
def rLenI (C : Addr) (sp : Sp) (E : XK) : List V → Hp → VK → Prop := fun xs H Q => ∃ a dx fs, xs = [V.ref a] ∧ H a = some (.ins C dx fs) ∧ sp [.ref a] H (fun z H' => ∃ i : Int, z = .int i ∧ 0 ≤ i ∧ i < 2 ^ 63 ∧ Q z H') E
theorem call_lenI (hs : PySem.W.findIn X.K (.ref C) "__len__" = some (some (.ref g))) (hf : PySem.W.isFn X.K (.ref g) = true) (F : FnR X.prog X.w X.K X.mg X.base CX n g sp) (hr : Room (n + 1) X.A) (hx : Passes CX X E) :
    CallR X (.builtin "len") (rLenI C sp E) := by
  intro pins s σ H xs us Q I r h
  obtain ⟨a, dx, fs, rfl, ha, q⟩ := h
  obtain ⟨u, rfl, ru⟩ := r.one
  cases (show u = Value.ref a from ru)
  obtain ⟨od, J⟩ := inst_at I ha
  obtain ⟨m, hF⟩ := I.fr
  have hr2 : Room n X.A.in1 := hr.in1
  refine PySem.W.len_K hF I.ok.mod.kin J hs hf (wpAny_mono (wpAny_call (SlX.run_at (us := [.ref a]) (ws := [.ref a]) F hr2 I.env0.in1 hx I (.cons rfl .nil) q)) (fun w s' z => ?_) fun _ _ x => x)
  obtain ⟨z', H', I', rz, i, ez, h0, h1, qz⟩ := z
  subst ez
  obtain ⟨t, e⟩ := (show ∃ t, w = Value.int i t from rz)
  cases e
  exact ⟨⟨h0, h1⟩, .int i, H', I'.tok _, ⟨_, rfl⟩, qz⟩
/-- < of data, place by place of one kind -/
def rLtD (K : PySem.W.Frag) : R2 := fun x y H Q => ∃ d e, Dp K H x d ∧ Dp K H y e ∧ PySem.W.alike d e = true ∧ d ≠ .none ∧ min d.depth e.depth ≤ 60 ∧ Q (.bl (PySem.W.dataLt d e)) H
theorem op_ltD (hu : X.A.units + 64 < cLine) : OpR X (compareOp .Lt) (rLtD X.K) := by
  intro pins s σ H x y v u Q I rx ry h
  obtain ⟨d, e, hd, he, sd, nn, hz, q⟩ := h
  obtain ⟨as, r1⟩ := Dp.reads I d x v hd rx
  obtain ⟨bs, r2⟩ := Dp.reads I e y u he ry
  exact PySem.W.rcLt_alike d e X.A s v u as bs r1 r2 sd nn (by omega) X.prog X.w X.xe _ ⟨.bl _, H, I, rfl, q⟩
/-- t * 1 is t itself -/
def rRep1 (K : PySem.W.Frag) : R2 := fun x y H Q => ∃ l xs, x = .ref l ∧ y = .int 1 ∧ H l = some (.tup xs) ∧ xs ≠ [] ∧ Q (.ref l) H
theorem tuple_mul1 (l : Addr) (items : Array Value) (n : Nat) (dd : Option Addr) (sl : Array (Option Value)) (u : Tok) :
    Meets (Builtin.«tuple.__mul__» ⟨[.ref l, .int 1 u], []⟩) (fun _ R s => s.heap.get? l = some { cls := .type "tuple", dict := dd, data := .seq items n, slots := sl } ∧ R (.ok (.ret (Value.ref l))) s) :=
  .of_wp fun prog w A R s h => by
    obtain ⟨hp, g, d, tk, os⟩ := s
    obtain ⟨hl, h⟩ := h
    have f1 := AutoSeq1.idx_int
    wp_walk using wpAny_loadPart' hl
    exact ⟨_, rfl, h⟩
theorem op_rep1 : OpR X (binaryOp .Mult) (rRep1 X.K) := by
  intro pins s σ H x y v u Q I rx ry h
  obtain ⟨l, xs, rfl, rfl, hT, hne, q⟩ := h
  cases rx
  obtain ⟨t, rfl⟩ := ry
  obtain ⟨its, r, ⟨⟨cls, dd, data, sl⟩, ho, hc, n, hd⟩, hs⟩ := I.tuple (SqT.of hT)
  simp only at hc hd
  subst hc hd
  refine wpAny_binaryOp_repeat_ref (T := "tuple") (U := "int") (by decide) ⟨_, ho, rfl⟩ (fun s' => typeIs_int s' 1 t) noFill_tuple_mul F.fills_int_mul F.slot_int_rmul repeat_tuple F.slot_int_index.lookup
    (call_meets F.slot_int_rmul (typeIs_int s 1 t) F.entry_int_rmul (F.args_int_rmul_2 _ _) (int_rmul_tuple 1 t l its.toArray n dd sl)
      ⟨ho, rfl, ⟨_, ho, rfl⟩, call_meets F.slot_tuple_mul ⟨_, ho, rfl⟩ F.entry_tuple_mul (F.args_tuple_mul_2 _ _) (tuple_mul1 l its.toArray n dd sl t) ⟨ho, ?_⟩⟩)
  exact ⟨.ref l, H, I, rfl, q⟩
end
/-! ### T.__init__(self, ..), T a class over ValueError without an __init__ of its own -/
structure TeC (K : PySem.W.Frag) (T : Addr) : Prop where
  rd : PySem.W.readsIn K T (.type "type") = true
  ga : PySem.W.specialIn K (.ref T) "__getattribute__" = some (some (.builtin "type.__getattribute__"))
  vi : PySem.W.findCls K (.ref T) (.type "type") "__init__" = some (.val (.builtin "ValueError.__init__"))
section
variable {X : Cx} {T : Addr} {e : Expr} {es : List Expr} {ta : TA} {p1 p2 pos : Pos} {x : Str}
theorem pe_teinit {pl : Sem Bool} (hg : Gl X x) (hm : X.mg x = some (.ref T)) (te : TeC X.K T) (ha : PA X (e :: es) ta) (hdb : (x == ("__debug__" : Str)) = false := by decide)
    (hc : eval (.Call (.Attribute (.Name x p1) "__init__" p2) (e :: es) [] pos) X.env = (do
      let ov ← eval (.Name x p1) X.env
      standAt p2.atName
      let (f, first) ← holding [ov] (getMethod ov "__init__" pl)
      callWith pos f first (backTo pos (starEach (e :: es) X.env)) (backToKw pos (keywordEach [] X.env))) := by rfl)
    (he : starEach (e :: es) X.env = (false, eval e X.env) :: starEach es X.env := by rfl) (hpl : (backTo pos (starEach es X.env)).any (·.1) = false := by rfl) :
    PE X (.Call (.Attribute (.Name x p1) "__init__" p2) (e :: es) [] pos) (tVeI X.K ta) := by
  refine ⟨fun pins s σ H Q I h => ?_⟩
  refine PySem.W.methodCall_KW (ld_glob I hg hm ?_ hdb) hc
  refine PySem.W.method_cls I.kIn te.ga (PySem.W.cls_value I.kIn te.rd te.vi (by decide +kernel) ?_)
  show wpAny _ _ (callWith pos (Value.builtin "ValueError.__init__") [] (backTo pos (starEach (e :: es) X.env)) []) _ _ _
  refine PyProof.Rows.callWith_method1 (thn (ha.run pos pins _ σ H _ (I.tok _) h) fun us s1 ⟨vs, H1, I1, r1, a, C, ws, ev, hl, T, ea, q⟩ => ?_) he hpl
  subst ev
  cases r1 with
  | @cons _ u0 _ ur ra rw' =>
    obtain rfl : u0 = Value.ref a := ra
    have hlen : ur.length ≤ sizeLine := by
      rw [← Paired.length rw', sizeLine_eq]
      omega
    exact oinit_ok T I1 ea hlen fun s' J => ⟨.non, H1, J, rfl, q⟩
end
end L2
/-! ## KBase -/
set_option maxRecDepth 100000
set_option maxHeartbeats 2000000
/-! the words of the promises: kept heaps, counts as tuples, a def's promise with its binding, comprehensions -/
namespace K79
open PySem PySem.Spec PyProof.Rows L2
/-! ### heaps -/
def NoLst (o : HO) : Prop := ∀ xs, o ≠ .lst xs
/-- all but lists stands as it stood -/
def Stay (H H' : Hp) : Prop := ∀ b o, NoLst o → H b = some o → H' b = some o
/-- all but the addresses Ex stands as it stood -/
def KeepX (Ex : Addr → Prop) (H H' : Hp) : Prop := ∀ b o, ¬ Ex b → H b = some o → H' b = some o
theorem _root_.L2.Same.stay {H H' : Hp} (h : Same H H') : Stay H H' := fun b o _ e => h b o e
theorem Stay.refl (H : Hp) : Stay H H := fun _ _ _ e => e
theorem Stay.trans {H H1 H2 : Hp} (a : Stay H H1) (b : Stay H1 H2) : Stay H H2 := fun c o n e => b c o n (a c o n e)
theorem nl_tup {xs : List V} : NoLst (.tup xs) := fun _ e => by cases e
theorem nl_ins {C dx : Addr} {fs : List (Str × V)} : NoLst (.ins C dx fs) := fun _ e => by cases e
theorem nl_frz {o : Obj} {u : HO} : NoLst (.frz o u) := fun _ e => by cases e
theorem Stay.tup {H H' : Hp} (h : Stay H H') {a : Addr} {xs : List V} (e : H a = some (.tup xs)) : H' a = some (.tup xs) := h a _ nl_tup e
theorem Stay.sqT {K : PySem.W.Frag} {H H' : Hp} (h : Stay H H') {a : Addr} {xs : List V} (e : SqT K H a xs) : SqT K H' a xs := by
  rcases e with (e | ⟨o, e⟩) | e
  · exact .inl (.inl (h.tup e))
  · exact .inl (.inr ⟨o, h a _ nl_frz e⟩)
  · exact .inr e
theorem Stay.upd {H : Hp} {D : Addr} {xs ys : List V} (h : H D = some (.lst xs)) : Stay H (upd H D (.lst ys)) := fun b o n e => by
  by_cases hb : b = D
  · subst hb
    rw [h] at e
    cases e
    exact absurd rfl (n xs)
  · rw [upd_ne hb]
    exact e
theorem same_upd {H : Hp} {p : Addr} {o : HO} (h : H p = none) : Same H (upd H p o) := fun b x e => by
  rw [upd_ne (ne_of_none e h)]
  exact e
theorem same_upd2 {H H' : Hp} {p : Addr} {o : HO} (s : Same H H') (h : H' p = none) : Same H (upd H' p o) := s.trans (same_upd h)
theorem _root_.L2.Same.sqT {K : PySem.W.Frag} {H H' : Hp} (h : Same H H') {a : Addr} {xs : List V} (e : SqT K H a xs) : SqT K H' a xs := (Same.stay h).sqT e
theorem small {n : Nat} (h : n ≤ 16777216) : n ≤ sizeLine := by
  rw [sizeLine_eq]
  exact h
theorem small' {n : Nat} (h : n < 16777216) : n < sizeLine := by
  rw [sizeLine_eq]
  exact h
/-! ### a def's promise, all its parameters given -/
structure Ok (P : Program) (w : World) (K : PySem.W.Frag) (mg : Str → Option Value) (base : Heap) (k : Nat) (f : Addr) (ps : List Str) (sp : Sp) : Prop where
  ex : ∃ fd, FnOk P w K mg base CX0 k f fd ps sp ∧ Binds K fd ps []
  kp : PySem.W.keepIn K (.ref f) = true
section
variable {P : Program} {w : World} {K : PySem.W.Frag} {mg : Str → Option Value} {base : Heap}
theorem Ok.mono {j k : Nat} {f : Addr} {ps : List Str} {sp : Sp} (G : Ok P w K mg base j f ps sp) (h : j ≤ k) : Ok P w K mg base k f ps sp :=
  ⟨let ⟨fd, F, b⟩ := G.ex; ⟨fd, F.mono h, b⟩, G.kp⟩
theorem ok_mk {x qual : Str} {st : Stmt} {f : Addr} {N ps : List Str} {k : Nat} {sp : Sp} (F : ∃ fd, FunD K x qual (defArgs st) (defBody st) (defScope st) [] [] f fd) (S : FnScope N ps (defScope st))
    (hb : ∀ (kV doc pm : Value) (an : Option Addr) (cdv ct : Value) (us : List Value), us.length = ps.length → bindArgs (PySem.W.fnOf x qual (defArgs st) (defBody st) (defScope st) .none kV doc pm an cdv ct) ⟨us, []⟩ = pure (ps.zip us))
    (len : ∀ vs H Q E, sp vs H Q E → vs.length = ps.length)
    (hbody : ∀ (cdv : Value) (A : Around) (outer : List Env) (s : Shared) (H : Hp) (vs : List V) (Q : VK) (E : XK), Room k (A.deeper (envOfC qual (defScope st) s.heap.objs.size f cdv)) → sp vs H Q E →
      ∃ t, PSs (cxOf CX0 P w K mg base N qual (defScope st) f cdv A outer s H E).nox (defBody st) t ∧ t { nx := fun _ H' => Q .non H', rt := Q } (start N vs) H) : Ok P w K mg base (k + 1) f ps sp := by
  obtain ⟨fd, F⟩ := F
  refine ⟨⟨fd, F.ok S len fun cdv A outer s H vs Q E hr hsp => ?_, F.bindsN hb⟩, F.kp⟩
  obtain ⟨t, h, q⟩ := hbody cdv A outer s H vs Q E hr hsp
  exact ⟨t, PSs.nox h, q⟩
end
section
variable {X : Cx} {k : Nat} {f C : Addr} {ps : List Str} {sp : Sp} {x m : Str} {p pos apos : Pos} {e o : Expr} {es : List Expr} {ta : TE} {t : TA}
/-- f(e, ..) -/
theorem pc (G : Ok X.prog X.w X.K X.mg X.base k f ps sp) (hr : Room k X.A) (hm : X.mg x = some (.ref f)) (ha : PA X (e :: es) t) (hg : Gl X x := by rfl)
    (hdb : (x == ("__debug__" : Str)) = false := by decide) (he : starEach (e :: es) X.env = (false, eval e X.env) :: starEach es X.env := by rfl) (hpl : (backTo pos (starEach es X.env)).any (·.1) = false := by rfl) :
    PE X (.Call (.Name x p) (e :: es) [] pos) (tCall sp [] E0 t) := by
  obtain ⟨fd, F, b⟩ := G.ex
  exact pe_call F hr hg hm G.kp b .nil pass0 ha hdb he hpl
/-- f() -/
theorem pc0 (G : Ok X.prog X.w X.K X.mg X.base k f ps sp) (hr : Room k X.A) (hm : X.mg x = some (.ref f)) (hg : Gl X x := by rfl) (hdb : (x == ("__debug__" : Str)) = false := by decide) : PE X (.Call (.Name x p) [] [] pos) (tCall sp [] E0 tNil) := by
  obtain ⟨fd, F, b⟩ := G.ex
  exact pe_call0 F hr hg hm G.kp b .nil pass0 hdb
/-- o.m(e, ..) -/
theorem pm {pl : Sem Bool} (G : Ok X.prog X.w X.K X.mg X.base k f ps sp) (hr : Room k X.A) (c : Cls X.K C) (hm : Meth X.K C m f) (he : PE X o ta) (ha : PA X (e :: es) t)
    (hst : starEach (e :: es) X.env = (false, eval e X.env) :: starEach es X.env := by rfl) (hpl : (backTo pos (starEach es X.env)).any (·.1) = false := by rfl)
    (ht : eval (.Call (.Attribute o m apos) (e :: es) [] pos) X.env = (do
      let ov ← eval o X.env
      standAt apos.atName
      let (f, first) ← holding [ov] (getMethod ov m pl)
      callWith pos f first (backTo pos (starEach (e :: es) X.env)) (backToKw pos (keywordEach [] X.env))) := by rfl) :
    PE X (.Call (.Attribute o m apos) (e :: es) [] pos) (tMeth C m sp [] E0 ta t) := by
  obtain ⟨fd, F, b⟩ := G.ex
  exact pe_meth he c hm F hr b .nil pass0 ha hst hpl ht
/-- C(e, ..) -/
theorem pmk (G : Ok X.prog X.w X.K X.mg X.base k f ps sp) (hr : Room (k + 1) X.A) (M : Mk X.K C f) (hm : X.mg x = some (.ref C)) (ha : PA X (e :: es) t) (hg : Gl X x := by rfl)
    (hdb : (x == ("__debug__" : Str)) = false := by decide) (he : starEach (e :: es) X.env = (false, eval e X.env) :: starEach es X.env := by rfl) (hpl : (backTo pos (starEach es X.env)).any (·.1) = false := by rfl) :
    PE X (.Call (.Name x p) (e :: es) [] pos) (tMake C sp [] E0 t) := by
  obtain ⟨fd, F, b⟩ := G.ex
  exact pe_make M F hr hg hm b .nil pass0 ha hdb he hpl
end
abbrev g2 (K : PySem.W.Frag) (i j : Nat) : TG := gTup K 2 (gCons (gName i) (gCons (gName j) gNil))
abbrev g3 (K : PySem.W.Frag) (i j l : Nat) : TG := gTup K 3 (gCons (gName i) (gCons (gName j) (gCons (gName l) gNil)))
section
variable {X : Cx}
/-- a, b = v -/
theorem pg2 {i j : Nat} {x y : Str} {px py pos : Pos} {k : Nat} (hc : X.calm = true) (hN : X.N.Nodup) (hi : X.N[i]? = some x) (hj : X.N[j]? = some y) (hx : X.env.scope.names.lookup x = some .local) (hy : X.env.scope.names.lookup y = some .local) :
    PG X (.Tuple [.Name x px, .Name y py] k pos) (gTup X.K 2 (gCons (gName i) (gCons (gName j) gNil))) :=
  pg_tup hc (pgs_cons (pg_name hN hi (Or.inl hx) (Or.inr hx)) (pgs_cons (pg_name hN hj (Or.inl hy) (Or.inr hy)) pgs_nil))
/-- a, b, c = v -/
theorem pg3 {i j l : Nat} {x y z : Str} {px py pz pos : Pos} {k : Nat} (hc : X.calm = true) (hN : X.N.Nodup) (hi : X.N[i]? = some x) (hj : X.N[j]? = some y) (hl : X.N[l]? = some z) (hx : X.env.scope.names.lookup x = some .local)
    (hy : X.env.scope.names.lookup y = some .local) (hz : X.env.scope.names.lookup z = some .local) :
    PG X (.Tuple [.Name x px, .Name y py, .Name z pz] k pos) (gTup X.K 3 (gCons (gName i) (gCons (gName j) (gCons (gName l) gNil)))) :=
  pg_tup hc (pgs_cons (pg_name hN hi (Or.inl hx) (Or.inr hx)) (pgs_cons (pg_name hN hj (Or.inl hy) (Or.inr hy)) (pgs_cons (pg_name hN hl (Or.inl hz) (Or.inr hz)) pgs_nil)))
end
/-! ### comprehensions -/
theorem lc_gen {J : It} {n : Nat} {G : Hp → Prop} {Y : Nat → Hp → V → Hp → Prop} (w : Walk J n G Y) {g : TG} {tt : TT} {te : TE} {vs : List Nat} {σ : L2.St} {H1 : Hp} {Q : Addr → Hp → Prop} (Ex : Addr → Prop) (Pr : Nat → List V → Hp → Prop) (hn : n < 16777216)
    (hEx : ∀ b, Ex b → H1 b ≠ none) (hG : ∀ H, KeepX Ex H1 H → G H) (hP : ∀ i acc H H', Stay H H' → Pr i acc H → Pr i acc H') (h0 : Pr 0 [] H1)
    (hs : ∀ (i : Nat) (x : V) (H H' : Hp) (acc : List V) (Kc : VK) (Kn : Hp → Prop), i < n → KeepX Ex H1 H → acc.length ≤ i → Pr i acc H → (∀ y H4, KeepX Ex H H4 → Pr (i + 1) (acc ++ [y]) H4 → Kc y H4) → (∀ H3, KeepX Ex H H3 → Pr (i + 1) acc H3 → Kn H3) → Y i H x H' →
      g x (wipe σ vs) H' fun σ2 H2 => wipe σ2 vs = wipe σ vs ∧ tt σ2 H2 fun b H3 => if b = true then te σ2 H3 Kc else Kn H3)
    (hd : ∀ H D acc, H1 D = none → KeepX Ex H1 H → H D = some (.lst acc) → acc.length ≤ n → Pr n acc H → Q D H) : ∀ D, H1 D = none →
    ∃ W : Nat → Nat → Hp → Prop, (∃ m, W 0 m (upd H1 D (.lst []))) ∧ ∀ i m H, W i m H →
      (J.stop i H ∧ Q D H) ∨ (J.go i H ∧ ∃ Nx : Hp → Prop, (∀ H', Nx H' → ∃ m', m' < m ∧ W (i + 1) m' H') ∧ ∀ x H', J.yld i H x H' → g x (wipe σ vs) H' fun σ2 H2 => wipe σ2 vs = wipe σ vs ∧ tt σ2 H2 fun b H3 =>
        if b = true then te σ2 H3 fun y H4 => ∃ acc, H4 D = some (.lst acc) ∧ acc.length < sizeLine ∧ Nx (upd H4 D (.lst (acc ++ [y]))) else Nx H3) := by
  intro D nD
  have nEx : ¬ Ex D := fun z => hEx D z nD
  have kD : ∀ {H : Hp} {ys : List V}, KeepX Ex H1 H → KeepX Ex H1 (upd H D (.lst ys)) := fun {H ys} k b o nb e => by
    rw [upd_ne (ne_of_none e nD)]
    exact k b o nb e
  refine lc_it w (Qd := fun H => Q D H) (fun i H => ∃ acc, H D = some (.lst acc) ∧ acc.length ≤ i ∧ KeepX Ex H1 H ∧ Pr i acc H)
    ⟨[], upd_same, Nat.le_refl _, kD (fun _ _ _ e => e), hP 0 [] H1 _ (Same.stay (same_upd nD)) h0⟩ (fun i H _ ⟨acc, _, _, k, _⟩ => hG H k) (fun i x H H' hi ⟨acc, eD, la, k, p⟩ y => ?_) (fun H ⟨acc, eD, la, k, p⟩ => hd H D acc nD k eD la p)
  refine hs i x H H' acc _ _ hi k la p (fun y H4 k4 p4 => ?_) (fun H3 k3 p3 => ?_) y
  · have e4 : H4 D = some (.lst acc) := k4 D _ nEx eD
    refine ⟨acc, e4, small' (by omega), acc ++ [y], upd_same, by rw [List.length_append]; exact Nat.succ_le_succ la, kD (fun b o nb e => k4 b o nb (k b o nb e)), hP _ _ _ _ (Stay.upd e4) p4⟩
  · exact ⟨acc, k3 D _ nEx eD, Nat.le_succ_of_le la, fun b o nb e => k3 b o nb (k b o nb e), p3⟩
/-- nothing that stood is changed -/
theorem lc_same {J : It} {n : Nat} {G : Hp → Prop} {Y : Nat → Hp → V → Hp → Prop} (w : Walk J n G Y) {g : TG} {tt : TT} {te : TE} {vs : List Nat} {σ : L2.St} {H1 : Hp} {Q : Addr → Hp → Prop} (Pr : Nat → List V → Hp → Prop) (hn : n < 16777216)
    (hG : ∀ H, Same H1 H → G H) (hP : ∀ i acc H H', Stay H H' → Pr i acc H → Pr i acc H') (h0 : Pr 0 [] H1)
    (hs : ∀ (i : Nat) (x : V) (H H' : Hp) (acc : List V) (Kc : VK) (Kn : Hp → Prop), i < n → Same H1 H → acc.length ≤ i → Pr i acc H → (∀ y H4, Same H H4 → Pr (i + 1) (acc ++ [y]) H4 → Kc y H4) → (∀ H3, Same H H3 → Pr (i + 1) acc H3 → Kn H3) → Y i H x H' →
      g x (wipe σ vs) H' fun σ2 H2 => wipe σ2 vs = wipe σ vs ∧ tt σ2 H2 fun b H3 => if b = true then te σ2 H3 Kc else Kn H3)
    (hd : ∀ H D acc, H1 D = none → Same H1 H → H D = some (.lst acc) → acc.length ≤ n → Pr n acc H → Q D H) : ∀ D, H1 D = none →
    ∃ W : Nat → Nat → Hp → Prop, (∃ m, W 0 m (upd H1 D (.lst []))) ∧ ∀ i m H, W i m H →
      (J.stop i H ∧ Q D H) ∨ (J.go i H ∧ ∃ Nx : Hp → Prop, (∀ H', Nx H' → ∃ m', m' < m ∧ W (i + 1) m' H') ∧ ∀ x H', J.yld i H x H' → g x (wipe σ vs) H' fun σ2 H2 => wipe σ2 vs = wipe σ vs ∧ tt σ2 H2 fun b H3 =>
        if b = true then te σ2 H3 fun y H4 => ∃ acc, H4 D = some (.lst acc) ∧ acc.length < sizeLine ∧ Nx (upd H4 D (.lst (acc ++ [y]))) else Nx H3) :=
  lc_gen w (fun _ => False) Pr hn (fun _ z => z.elim) (fun H k => hG H fun b o e => k b o (fun z => z) e) hP h0
    (fun i x H H' acc Kc Kn hi k la p kc kn y => hs i x H H' acc Kc Kn hi (fun b o e => k b o (fun z => z) e) la p (fun y H4 s => kc y H4 fun b o _ e => s b o e) (fun H3 s => kn H3 fun b o _ e => s b o e) y)
    (fun H D acc nD k => hd H D acc nD fun b o e => k b o (fun z => z) e)
/-- .. without a test -/
theorem lc_gen0 {J : It} {n : Nat} {G : Hp → Prop} {Y : Nat → Hp → V → Hp → Prop} (w : Walk J n G Y) {g : TG} {te : TE} {vs : List Nat} {σ : L2.St} {H1 : Hp} {Q : Addr → Hp → Prop} (Ex : Addr → Prop) (Pr : Nat → List V → Hp → Prop) (hn : n < 16777216)
    (hEx : ∀ b, Ex b → H1 b ≠ none) (hG : ∀ H, KeepX Ex H1 H → G H) (hP : ∀ i acc H H', Stay H H' → Pr i acc H → Pr i acc H') (h0 : Pr 0 [] H1)
    (hs : ∀ (i : Nat) (x : V) (H H' : Hp) (acc : List V) (Kc : VK), i < n → KeepX Ex H1 H → acc.length ≤ i → Pr i acc H → (∀ y H4, KeepX Ex H H4 → Pr (i + 1) (acc ++ [y]) H4 → Kc y H4) → Y i H x H' →
      g x (wipe σ vs) H' fun σ2 H2 => wipe σ2 vs = wipe σ vs ∧ te σ2 H2 Kc)
    (hd : ∀ H D acc, H1 D = none → KeepX Ex H1 H → H D = some (.lst acc) → acc.length ≤ n → Pr n acc H → Q D H) : ∀ D, H1 D = none →
    ∃ W : Nat → Nat → Hp → Prop, (∃ m, W 0 m (upd H1 D (.lst []))) ∧ ∀ i m H, W i m H →
      (J.stop i H ∧ Q D H) ∨ (J.go i H ∧ ∃ Nx : Hp → Prop, (∀ H', Nx H' → ∃ m', m' < m ∧ W (i + 1) m' H') ∧ ∀ x H', J.yld i H x H' → g x (wipe σ vs) H' fun σ2 H2 => wipe σ2 vs = wipe σ vs ∧ tYes σ2 H2 fun b H3 =>
        if b = true then te σ2 H3 fun y H4 => ∃ acc, H4 D = some (.lst acc) ∧ acc.length < sizeLine ∧ Nx (upd H4 D (.lst (acc ++ [y]))) else Nx H3) := by
  have e : ∀ (t : TE) (Kc : VK) (Kn : Hp → Prop) (σ2 : L2.St) (H2 : Hp), (tYes σ2 H2 fun b H3 => if b = true then t σ2 H3 Kc else Kn H3) = t σ2 H2 Kc := fun t Kc Kn σ2 H2 => by
    show (if true = true then t σ2 H2 Kc else Kn H2) = _
    rw [if_pos rfl]
  refine lc_gen w (tt := tYes) Ex Pr hn hEx hG hP h0 (fun i x H H' acc Kc Kn hi k la p kc kn y => ?_) hd
  simp only [e]
  exact hs i x H H' acc Kc hi k la p kc y
theorem lc_same0 {J : It} {n : Nat} {G : Hp → Prop} {Y : Nat → Hp → V → Hp → Prop} (w : Walk J n G Y) {g : TG} {te : TE} {vs : List Nat} {σ : L2.St} {H1 : Hp} {Q : Addr → Hp → Prop} (Pr : Nat → List V → Hp → Prop) (hn : n < 16777216)
    (hG : ∀ H, Same H1 H → G H) (hP : ∀ i acc H H', Stay H H' → Pr i acc H → Pr i acc H') (h0 : Pr 0 [] H1)
    (hs : ∀ (i : Nat) (x : V) (H H' : Hp) (acc : List V) (Kc : VK), i < n → Same H1 H → acc.length ≤ i → Pr i acc H → (∀ y H4, Same H H4 → Pr (i + 1) (acc ++ [y]) H4 → Kc y H4) → Y i H x H' →
      g x (wipe σ vs) H' fun σ2 H2 => wipe σ2 vs = wipe σ vs ∧ te σ2 H2 Kc)
    (hd : ∀ H D acc, H1 D = none → Same H1 H → H D = some (.lst acc) → acc.length ≤ n → Pr n acc H → Q D H) : ∀ D, H1 D = none →
    ∃ W : Nat → Nat → Hp → Prop, (∃ m, W 0 m (upd H1 D (.lst []))) ∧ ∀ i m H, W i m H →
      (J.stop i H ∧ Q D H) ∨ (J.go i H ∧ ∃ Nx : Hp → Prop, (∀ H', Nx H' → ∃ m', m' < m ∧ W (i + 1) m' H') ∧ ∀ x H', J.yld i H x H' → g x (wipe σ vs) H' fun σ2 H2 => wipe σ2 vs = wipe σ vs ∧ tYes σ2 H2 fun b H3 =>
        if b = true then te σ2 H3 fun y H4 => ∃ acc, H4 D = some (.lst acc) ∧ acc.length < sizeLine ∧ Nx (upd H4 D (.lst (acc ++ [y]))) else Nx H3) :=
  lc_gen0 w (fun _ => False) Pr hn (fun _ z => z.elim) (fun H k => hG H fun b o e => k b o (fun z => z) e) hP h0
    (fun i x H H' acc Kc hi k la p kc y => hs i x H H' acc Kc hi (fun b o e => k b o (fun z => z) e) la p (fun y H4 s => kc y H4 fun b o _ e => s b o e) y)
    (fun H D acc nD k => hd H D acc nD fun b o e => k b o (fun z => z) e)
/-! ### counts -/
def cv : Num → V
  | none => .non
  | some n => .int n
theorem cv_inj {a b : Num} (h : cv a = cv b) : a = b := by
  cases a <;> cases b <;> simp [cv] at h
  · rfl
  · congr 1
    omega
theorem map_cv_inj : ∀ {c d : Cnt}, c.map cv = d.map cv → c = d
  | [], [], _ => rfl
  | [], _ :: _, h => by simp at h
  | _ :: _, [], h => by simp at h
  | a :: c, b :: d, h => by
    simp only [List.map_cons, List.cons.injEq] at h
    rw [cv_inj h.1, map_cv_inj h.2]
/-- u is a tuple of c's numbers -/
def CntV (H : Hp) (u : V) (c : Cnt) : Prop := ∃ a, u = .ref a ∧ H a = some (.tup (c.map cv))
theorem CntV.stay {H H' : Hp} {u : V} {c : Cnt} (h : CntV H u c) (s : Stay H H') : CntV H' u c := let ⟨a, e, z⟩ := h; ⟨a, e, s.tup z⟩
theorem CntV.one {H : Hp} {u : V} {c d : Cnt} (h : CntV H u c) (k : CntV H u d) : c = d := by
  obtain ⟨a, rfl, e⟩ := h
  obtain ⟨b, eb, e2⟩ := k
  cases eb
  rw [e] at e2
  have e3 := Option.some.inj e2
  injection e3 with e4
  exact map_cv_inj e4
/-- a count: so many numbers, none too great -/
structure Val (k : Nat) (c : Cnt) : Prop where
  len : c.length = k
  top : ∀ n, some n ∈ c → n ≤ 10 ^ 29
abbrev Cnts (H : Hp) : List V → List Cnt → Prop := Paired (CntV H)
theorem paired_mono {α β : Type} {R S : α → β → Prop} : ∀ {l : List α} {m : List β}, Paired R l m → (∀ a b, R a b → S a b) → Paired S l m
  | _, _, .nil, _ => .nil
  | _, _, .cons r t, f => .cons (f _ _ r) (paired_mono t f)
theorem Cnts.stay {H H' : Hp} {us : List V} {cs : List Cnt} (h : Cnts H us cs) (s : Stay H H') : Cnts H' us cs := paired_mono h fun _ _ z => z.stay s
theorem paired_len {α β : Type} {R : α → β → Prop} : ∀ {l : List α} {m : List β}, Paired R l m → l.length = m.length
  | _, _, .nil => rfl
  | _, _, .cons _ t => by rw [List.length_cons, List.length_cons, paired_len t]
theorem paired_get {α β : Type} {R : α → β → Prop} : ∀ {l : List α} {m : List β} {i : Nat} {a : α}, Paired R l m → l[i]? = some a → ∃ b, m[i]? = some b ∧ R a b
  | _, _, _, _, .nil, e => by simp at e
  | _, _, 0, _, .cons r _, e => by
    simp at e
    subst e
    exact ⟨_, rfl, r⟩
  | _, _, i + 1, _, .cons _ t, e => by
    obtain ⟨b, h1, h2⟩ := paired_get (i := i) t (by simpa using e)
    exact ⟨b, by simpa using h1, h2⟩
theorem paired_app {α β : Type} {R : α → β → Prop} : ∀ {l : List α} {m : List β} {l' : List α} {m' : List β}, Paired R l m → Paired R l' m' → Paired R (l ++ l') (m ++ m')
  | _, _, _, _, .nil, s => s
  | _, _, _, _, .cons r t, s => .cons r (paired_app t s)
theorem paired_mem {α β : Type} {R : α → β → Prop} {l : List α} {m : List β} {a : α} (h : Paired R l m) (ha : a ∈ l) : ∃ b, b ∈ m ∧ R a b := by
  obtain ⟨i, hi, e⟩ := List.mem_iff_getElem.mp ha
  obtain ⟨b, h1, h2⟩ := paired_get (i := i) h (by rw [List.getElem?_eq_getElem hi, e])
  exact ⟨b, List.mem_of_getElem? h1, h2⟩
theorem paired_memR {α β : Type} {R : α → β → Prop} : ∀ {l : List α} {m : List β} {b : β}, Paired R l m → b ∈ m → ∃ a, a ∈ l ∧ R a b
  | _, _, _, .nil, h => by simp at h
  | _, _, b, .cons r t, h => by
    rcases List.mem_cons.mp h with e | h
    · subst e
      exact ⟨_, List.mem_cons_self, r⟩
    · obtain ⟨a, h1, h2⟩ := paired_memR t h
      exact ⟨a, List.mem_cons_of_mem _ h1, h2⟩
end K79
/-! ## KD1 -/
set_option maxRecDepth 100000
set_option maxHeartbeats 2000000
namespace K79
open PySem PySem.Spec PyProof.Rows L2
section
variable {P : Program} {w : World} {K : PySem.W.Frag} {mg : Str → Option Value} {base : Heap}
/-! ### is_integer -/
def spIsInt : Sp := fun vs H Q _ => (∃ i : Int, vs = [.int i] ∧ Q (.bl true) H) ∨ (vs = [.non] ∧ Q (.bl false) H)
theorem scIsInt : FnScope ["value"] ["value"] (defScope sIsInt) := ⟨rfl, rfl, rfl, by decide +kernel, rfl, by decide +kernel, by decide +kernel⟩
theorem kit_ii : PySem.W.kitOne K (.type "int") (.type "int") = some true := kit_ty (by decide +kernel)
theorem kit_ib : PySem.W.kitOne K (.type "int") (.type "bool") = some false := kit_ty (by decide +kernel)
theorem kit_ni : PySem.W.kitOne K (.type "NoneType") (.type "int") = some false := kit_ty (by decide +kernel)
theorem kit_tt : PySem.W.kitOne K (.type "tuple") (.type "tuple") = some true := kit_ty (by decide +kernel)
theorem kit_ss : PySem.W.kitOne K (.type "str") (.type "str") = some true := kit_ty (by decide +kernel)
theorem ok_isInt (T : Tx K mg) : Ok P w K mg base 1 (He.ga K "is_integer") ["value"] spIsInt := by
  refine ok_mk T.F_is_integer scIsInt (fun _ _ _ _ _ _ us hl => match us, hl with | [_], _ => rfl) (fun vs H Q E h => ?_) (fun cdv A outer s H vs Q E hr h => ?_)
  · rcases h with ⟨i, rfl, _⟩ | ⟨rfl, _⟩ <;> rfl
  · refine ⟨_, pss_one (ps_ret (pe_and (pe_callB call_isi (by rfl) T.n_isinstance (by decide +kernel) (pa_cons (pv 0) (pa_cons (pe_bltn (v := .ty "int") (by rfl) T.n_int (by decide +kernel) rfl) pa_nil)))
      (pe_one (pe_not (pe_callB call_isi (by rfl) T.n_isinstance (by decide +kernel) (pa_cons (pv 0) (pa_cons (pe_bltn (v := .ty "bool") (by rfl) T.n_bool (by decide +kernel) rfl) pa_nil))))))), ?_⟩
    rcases h with ⟨i, rfl, q⟩ | ⟨rfl, q⟩
    · refine ⟨_, rfl, _, _, _, _, _, rfl, .ty _, .base (.int i), kit_ii, _, rfl, iteT ?_⟩
      exact ⟨_, rfl, _, _, _, _, _, rfl, .ty _, .base (.int i), kit_ib, _, rfl, q⟩
    · exact ⟨_, rfl, _, _, _, _, _, rfl, .ty _, .base .non, kit_ni, _, rfl, iteF q⟩
/-! ### is_between -/
def spBetween : Sp := fun vs H Q _ => ∃ i lo hi : Int, vs = [.int i, .int lo, .int hi] ∧ Q (.bl (decide (lo ≤ i ∧ i ≤ hi))) H
theorem scBetween : FnScope ["value", "least", "most"] ["value", "least", "most"] (defScope sBetween) := ⟨rfl, rfl, rfl, by decide +kernel, rfl, by decide +kernel, by decide +kernel⟩
theorem ok_between (T : Tx K mg) : Ok P w K mg base 2 (He.ga K "is_between") ["value", "least", "most"] spBetween := by
  refine ok_mk T.F_is_between scBetween (fun _ _ _ _ _ _ us hl => match us, hl with | [_, _, _], _ => rfl) (fun vs H Q E h => ?_) (fun cdv A outer s H vs Q E hr h => ?_)
  · obtain ⟨i, lo, hi, rfl, _⟩ := h
    rfl
  · obtain ⟨i, lo, hi, rfl, q⟩ := h
    refine ⟨_, pss_one (ps_ret (pe_and (pc (ok_isInt T) hr T.g_is_integer (pa_cons (pv 0) pa_nil)) (pe_one (pe_chain op_le op_le (pv 1) (pv 0) (pv 2))))), ?_⟩
    refine ⟨_, rfl, .inl ⟨i, rfl, _, rfl, iteT ?_⟩⟩
    refine ⟨_, rfl, _, rfl, _, _, rfl, rfl, _, rfl, ?_⟩
    by_cases h1 : lo ≤ i
    · rw [decide_eq_true h1]
      refine iteT ⟨_, rfl, _, _, rfl, rfl, ?_⟩
      have e : decide (lo ≤ i ∧ i ≤ hi) = decide (i ≤ hi) := by simp [h1]
      rw [e] at q
      exact q
    · rw [decide_eq_false h1]
      refine iteF ?_
      have e : decide (lo ≤ i ∧ i ≤ hi) = false := by simp [h1]
      rw [e] at q
      exact q
/-! ### is_no_more -/
def spNoMore : Sp := fun vs H Q _ => ∃ a b : Num, vs = [cv a, cv b] ∧ Q (.bl (leN a b)) H
theorem scNoMore : FnScope ["one", "other"] ["one", "other"] (defScope sNoMore) := ⟨rfl, rfl, rfl, by decide +kernel, rfl, by decide +kernel, by decide +kernel⟩
theorem ok_noMore (T : Tx K mg) : Ok P w K mg base 1 (He.ga K "is_no_more") ["one", "other"] spNoMore := by
  refine ok_mk T.F_is_no_more scNoMore (fun _ _ _ _ _ _ us hl => match us, hl with | [_, _], _ => rfl) (fun vs H Q E h => ?_) (fun cdv A outer s H vs Q E hr h => ?_)
  · obtain ⟨a, b, rfl, _⟩ := h
    rfl
  · obtain ⟨a, b, rfl, q⟩ := h
    refine ⟨_, pss_one (ps_ret (pe_or (pe_cmp (pc_isN (pv 1)) rfl) (pe_one (pe_and (pe_cmp (pc_notN (pv 0)) rfl) (pe_one (pe_cmpR op_le (pv 0) (pv 1) (nomark _))))))), ?_⟩
    cases b with
    | none =>
      refine ⟨_, rfl, _, rfl, iteT ?_⟩
      have e : leN a none = true := by cases a <;> rfl
      rw [e] at q
      exact q
    | some n =>
      refine ⟨_, rfl, _, rfl, iteF ?_⟩
      cases a with
      | none => exact ⟨_, rfl, _, rfl, iteF q⟩
      | some m =>
        refine ⟨_, rfl, _, rfl, iteT ⟨_, rfl, _, rfl, _, _, rfl, rfl, ?_⟩⟩
        have e : decide (((m : Nat) : Int) ≤ (n : Int)) = leN (some m) (some n) := by simp [leN]
        rw [← e] at q
        exact q
/-! ### is_count -/
def spCount : Sp := fun vs H Q _ => ∃ (a : Addr) (c : Cnt) (k : Nat), vs = [.ref a, .int k] ∧ H a = some (.tup (c.map cv)) ∧ Val k c ∧ k ≤ 4 ∧ ∀ H', Same H H' → Q (.bl true) H'
theorem scCount : FnScope ["value", "many", "number"] ["value", "many"] (defScope sCount) := ⟨rfl, rfl, rfl, by decide +kernel, rfl, by decide +kernel, by decide +kernel⟩
theorem all_true {n : Nat} : (List.replicate n true).all id = true := by
  induction n with
  | zero => rfl
  | succ n ih => rw [List.replicate_succ, List.all_cons, ih]; rfl
theorem ok_count (T : Tx K mg) : Ok P w K mg base 3 (He.ga K "is_count") ["value", "many"] spCount := by
  refine ok_mk T.F_is_count scCount (fun _ _ _ _ _ _ us hl => match us, hl with | [_, _], _ => rfl) (fun vs H Q E h => ?_) (fun cdv A outer s H vs Q E hr h => ?_)
  · obtain ⟨a, c, k, rfl, _⟩ := h
    rfl
  · obtain ⟨a, c, k, rfl, ha, hv, hk, q⟩ := h
    obtain ⟨t, mN⟩ := T.i_MOST_NUMBER
    refine ⟨_, pss_cons (ps_if (PW.pt (pw_or (pt_not (pt_val (pe_callB call_isi (by rfl) T.n_isinstance (by decide +kernel) (pa_cons (pv 0) (pa_cons (pe_bltn (v := .ty "tuple") (by rfl) T.n_tuple (by decide +kernel) rfl) pa_nil)))))
        (pw_or1 (pt_cmpR op_ne (pe_callB call_len_seq (by rfl) T.n_len PySem.boot_len (pa_cons (pv 0) pa_nil)) (pv 1) (nomark _))))) (pss_one (ps_ret pe_bl)) pss_nil)
      (pss_one (ps_ret (pe_callB (cr_all rfl) (by rfl) T.n_all (by decide +kernel) (pa_cons
        (pe_lc (own := [("number", 2)]) (g := gName 2) (tt := tYes) rfl scCount.nd (pi_tup (pv 0)) (blkOk_by (own := [("number", 2)]) (N := ["value", "many", "number"]) (sc := defScope sCount) (by decide +kernel))
          (fun _ _ _ _ _ => pg_name (i := 2) scCount.nd rfl (Or.inl rfl)) (fun _ _ _ _ _ => pts_nil)
          (fun _ _ _ _ _ => pe_or (pe_cmp (pc_isN (pv 2)) rfl) (pe_one (pc (ok_between T) hr T.g_is_between (pa_cons (pv 2) (pa_cons pe_int (pa_cons (pe_glob (v := .int (10 ^ 29)) rfl mN ⟨_, rfl⟩) pa_nil))))))) pa_nil)))), ?_⟩
    -- the shape
    refine ⟨_, rfl, _, _, _, _, _, rfl, .ty _, .base (.tup ha), kit_tt, _, rfl, ?_⟩
    refine iteF ⟨_, rfl, _, _, rfl, .inr (SqT.of ha), _, rfl, rfl, _, rfl, ?_⟩
    have e1 : (V.int ((c.map cv).length : Nat)) = V.int (k : Nat) := by rw [List.length_map, hv.len]
    refine iteNS e1 ?_
    -- the numbers
    refine ⟨_, rfl, a, rfl, ⟨_, SqT.of ha⟩, lc_same0 (walk_tup (K := K) (xs := c.map cv)) (fun i acc _ => acc = (List.replicate i true).map V.bl) (by rw [List.length_map, hv.len]; omega) (fun H' s => s.sqT (SqT.of ha)) (fun _ _ _ _ _ h => h) rfl
      (fun i x H1 H' acc Kc hi sm _ p kc y => ?_) (fun H' D acc nD sm eD _ p => ?_)⟩
    · obtain ⟨rfl, ex⟩ := y
      refine ⟨rfl, ?_⟩
      rw [List.getElem?_map] at ex
      cases e : c[i]? with
      | none =>
        rw [e] at ex
        cases ex
      | some n =>
        rw [e] at ex
        cases ex
        have fin : Kc (.bl true) H' := kc _ _ (Same.refl _) (by rw [p, List.replicate_succ', List.map_append]; rfl)
        cases n with
        | none => exact ⟨_, rfl, _, rfl, iteT fin⟩
        | some m =>
          refine ⟨_, rfl, _, rfl, iteF ⟨_, rfl, m, 0, 10 ^ 29, rfl, ?_⟩⟩
          have hm : m ≤ 10 ^ 29 := hv.top m (List.mem_of_getElem? e)
          have ed : decide ((0 : Int) ≤ (m : Int) ∧ (m : Int) ≤ 10 ^ 29) = true := decide_eq_true ⟨by omega, by omega⟩
          rw [ed]
          exact fin
    · refine ⟨D, _, rfl, SqL.of (p ▸ eD), ?_⟩
      rw [all_true]
      exact q H' sm
end
end K79
/-! ## KD2 -/
set_option maxRecDepth 100000
set_option maxHeartbeats 2000000
namespace K79
open PySem PySem.Spec PyProof.Rows L2
theorem walk_zipT {K : PySem.W.Frag} {a b : Addr} {xs ys : List V} {n : Nat} (hn : n = min xs.length ys.length) : Walk (RZ.ItzT K a b) n (fun H => SqT K H a xs ∧ SqT K H b ys) (YPair (fun i => xs[i]?) (fun i => ys[i]?)) := by
  subst hn
  refine ⟨fun i _ hi q => ?_, fun _ q => ⟨xs, ys, q.1, q.2, by omega⟩, fun i H v H' _ q y => ?_⟩
  · have h1 : i < xs.length := by omega
    have h2 : i < ys.length := by omega
    exact ⟨xs, ys, xs[i], ys[i], q.1, q.2, by simp [h1], by simp [h2]⟩
  · obtain ⟨T, x, z, h1, h2, h3, h4, h5⟩ := y
    exact ⟨T, x, z, h1, h2, h3, h4 xs q.1, h5 ys q.2⟩
theorem get_map {α β : Type} {f : α → β} {l : List α} {i : Nat} {y : β} (h : (l.map f)[i]? = some y) : ∃ x, l[i]? = some x ∧ y = f x := by
  rw [List.getElem?_map] at h
  cases e : l[i]? with
  | none =>
    rw [e] at h
    cases h
  | some x =>
    rw [e] at h
    exact ⟨x, rfl, (Option.some.inj h).symm⟩
theorem take_succ {α : Type} {l : List α} {i : Nat} {x : α} (h : l[i]? = some x) : l.take (i + 1) = l.take i ++ [x] := by
  rw [List.take_add_one, h]
  rfl
section
variable {P : Program} {w : World} {K : PySem.W.Frag} {mg : Str → Option Value} {base : Heap}
/-! ### is_below -/
def spBelow : Sp := fun vs H Q _ => ∃ (a b : Addr) (c d : Cnt) (k : Nat), vs = [.ref a, .ref b] ∧ H a = some (.tup (c.map cv)) ∧ H b = some (.tup (d.map cv)) ∧ c.length = k ∧ d.length = k ∧ k ≤ 4 ∧ ∀ H', Same H H' → Q (.bl (below c d)) H'
theorem scBelow : FnScope ["one", "other", "number", "limit"] ["one", "other"] (defScope sBelow) := ⟨rfl, rfl, rfl, by decide +kernel, rfl, by decide +kernel, by decide +kernel⟩
theorem ok_below (T : Tx K mg) : Ok P w K mg base 2 (He.ga K "is_below") ["one", "other"] spBelow := by
  refine ok_mk T.F_is_below scBelow (fun _ _ _ _ _ _ us hl => match us, hl with | [_, _], _ => rfl) (fun vs H Q E h => ?_) (fun cdv A outer s H vs Q E hr h => ?_)
  · obtain ⟨a, b, c, d, k, rfl, _⟩ := h
    rfl
  · obtain ⟨a, b, c, d, k, rfl, ha, hb, lc, ld, hk, q⟩ := h
    refine ⟨_, pss_one (ps_ret (pe_callB (cr_all rfl) (by rfl) T.n_all (by decide +kernel) (pa_cons
        (pe_lc (own := [("number", 2), ("limit", 3)]) (g := g2 K 2 3) (tt := tYes) rfl scBelow.nd (RZ.pi_zipA (by rfl) T.n_zip (pa_cons (pv 0) (pa_cons (pv 1) pa_nil))) (blkOk_by (own := [("number", 2), ("limit", 3)]) (N := ["one", "other", "number", "limit"]) (sc := defScope sBelow) (by decide +kernel))
          (fun _ _ _ _ _ => pg2 (i := 2) (j := 3) rfl scBelow.nd rfl rfl rfl rfl) (fun _ _ _ _ _ => pts_nil)
          (fun _ _ _ _ _ => pc (ok_noMore T) hr T.g_is_no_more (pa_cons (pv 2) (pa_cons (pv 3) pa_nil)))) pa_nil))), ?_⟩
    refine ⟨_, rfl, _, rfl, a, b, c.map cv, d.map cv, rfl, .inr ⟨SqT.of ha, SqT.of hb, ?_⟩⟩
    refine lc_same0 (walk_zipT (K := K) (xs := c.map cv) (ys := d.map cv) (n := k) (by rw [List.length_map, List.length_map, lc, ld, Nat.min_self])) (fun i acc _ => acc = ((List.zipWith leN c d).take i).map V.bl) (by omega)
      (fun H' s => ⟨s.sqT (SqT.of ha), s.sqT (SqT.of hb)⟩) (fun _ _ _ _ _ h => h) rfl (fun i x H1 H' acc Kc hi sm _ p kc y => ?_) (fun H' D acc nD sm eD _ p => ?_)
    · obtain ⟨Tp, x, z, rfl, nT, rfl, e1, e2⟩ := y
      obtain ⟨m, em, rfl⟩ := get_map e1
      obtain ⟨n, en, rfl⟩ := get_map e2
      refine ⟨Tp, _, rfl, SqT.of upd_same, rfl, _, _, rfl, _, _, rfl, rfl, rfl, ?_⟩
      refine ⟨_, rfl, _, rfl, m, n, rfl, ?_⟩
      refine kc _ _ (same_upd nT) ?_
      rw [take_succ (x := leN m n) (by rw [List.getElem?_zipWith, em, en]), List.map_append, p]
      rfl
    · refine ⟨D, _, rfl, SqL.of (p ▸ eD), ?_⟩
      have e : (List.zipWith leN c d).take k = List.zipWith leN c d := List.take_of_length_le (by rw [List.length_zipWith]; omega)
      rw [e]
      exact q H' sm
/-! ### rank -/
abbrev RkV (H : Hp) (u : V) (n : Num) : Prop := ∃ t, u = .ref t ∧ H t = some (.tup [.bl n.isNone, .int ((n.getD 0 : Nat) : Int)])
def spRank : Sp := fun vs H Q _ => ∃ (a : Addr) (c : Cnt), vs = [.ref a] ∧ H a = some (.tup (c.map cv)) ∧ c.length ≤ 4 ∧ ∀ H' p us, Same H H' → H' p = some (.lst us) → Paired (RkV H') us c → Q (.ref p) H'
theorem scRank : FnScope ["count", "number"] ["count"] (defScope sRank) := ⟨rfl, rfl, rfl, by decide +kernel, rfl, by decide +kernel, by decide +kernel⟩
theorem isN (n : Num) : decide (cv n = .non) = n.isNone := by cases n <;> simp [cv]
theorem ok_rank (T : Tx K mg) : Ok P w K mg base 1 (He.ga K "rank") ["count"] spRank := by
  refine ok_mk T.F_rank scRank (fun _ _ _ _ _ _ us hl => match us, hl with | [_], _ => rfl) (fun vs H Q E h => ?_) (fun cdv A outer s H vs Q E hr h => ?_)
  · obtain ⟨a, c, rfl, _⟩ := h
    rfl
  · obtain ⟨a, c, rfl, ha, hk, q⟩ := h
    refine ⟨_, pss_one (ps_ret (pe_lc (own := [("number", 1)]) (g := gName 1) (tt := tYes) rfl scRank.nd (pi_tup (pv 0)) (blkOk_by (own := [("number", 1)]) (N := ["count", "number"]) (sc := defScope sRank) (by decide +kernel))
          (fun _ _ _ _ _ => pg_name (i := 1) scRank.nd rfl (Or.inl rfl)) (fun _ _ _ _ _ => pts_nil)
          (fun _ _ _ _ _ => pe_tup (pa_cons (pe_cmp (pc_isN (pv 1)) rfl) (pa_cons (pe_ifExp (pt_cmp (pc_isN (pv 1)) rfl) pe_int (pv 1)) pa_nil))))), ?_⟩
    refine ⟨_, rfl, a, rfl, ⟨_, SqT.of ha⟩, lc_same0 (walk_tup (K := K) (xs := c.map cv)) (fun i acc H => Paired (RkV H) acc (c.take i)) (by rw [List.length_map]; omega) (fun H' s => s.sqT (SqT.of ha))
      (fun i acc H H' st h => paired_mono h fun u n ⟨t, e, z⟩ => ⟨t, e, st.tup z⟩) .nil (fun i x H1 H' acc Kc hi sm _ p kc y => ?_) (fun H' D acc nD sm eD _ p => ?_)⟩
    · obtain ⟨rfl, ex⟩ := y
      obtain ⟨n, en, rfl⟩ := get_map ex
      refine ⟨rfl, ⟨_, rfl, _, rfl, _, rfl, ?_⟩⟩
      have fin : ∀ t, H' t = none → Kc (.ref t) (upd H' t (.tup [.bl n.isNone, .int ((n.getD 0 : Nat) : Int)])) := fun t nt => by
        refine kc _ _ (same_upd nt) ?_
        rw [take_succ en]
        exact paired_app (paired_mono p fun u n ⟨t, e, z⟩ => ⟨t, e, same_upd nt _ _ z⟩) (.cons ⟨t, rfl, upd_same⟩ .nil)
      cases n with
      | none => exact iteT ⟨small (by show 2 ≤ _; decide), fin⟩
      | some m => exact iteF ⟨_, rfl, small (by show 2 ≤ _; decide), fin⟩
    · have e : c.take (c.map cv).length = c := List.take_of_length_le (by rw [List.length_map]; exact Nat.le_refl _)
      rw [e] at p
      exact q H' D acc sm eD p
/-! ### is_ahead -/
def rkD (n : Num) : PyData := .tuple [.bool n.isNone, .int ((n.getD 0 : Nat) : Int)]
theorem rk_dp {H : Hp} : ∀ {us : List V} {c : Cnt}, Paired (RkV H) us c → DpAll K H us (c.map rkD)
  | _, _, .nil => .nil
  | _, _, .cons ⟨t, e, z⟩ r => e ▸ .cons (.tup (SqT.of z) (.cons (.bl _) (.cons (.int _) .nil))) (rk_dp r)
theorem rk_alike : ∀ c d : Cnt, PySem.W.alikeAll (c.map rkD) (d.map rkD) = true
  | [], _ => by simp [PySem.W.alikeAll]
  | _ :: _, [] => by simp [PySem.W.alikeAll]
  | a :: c, b :: d => by
    rw [List.map_cons, List.map_cons, PySem.W.alikeAll, rk_alike c d]
    simp [PySem.W.alike, PySem.W.alikeAll, rkD]
theorem rk_depth : ∀ c : Cnt, PyData.depthAll (c.map rkD) ≤ 1
  | [] => by simp [PyData.depthAll]
  | a :: c => by
    have := rk_depth c
    rw [List.map_cons, PyData.depthAll]
    simp [rkD, PyData.depth, PyData.depthAll]
    omega
def spAhead : Sp := fun vs H Q _ => ∃ (a b : Addr) (c d : Cnt), vs = [.ref a, .ref b] ∧ H a = some (.tup (c.map cv)) ∧ H b = some (.tup (d.map cv)) ∧ c.length ≤ 4 ∧ d.length ≤ 4 ∧ ∀ H' r, Same H H' → Q (.bl r) H'
theorem scAhead : FnScope ["one", "other"] ["one", "other"] (defScope sAhead) := ⟨rfl, rfl, rfl, by decide +kernel, rfl, by decide +kernel, by decide +kernel⟩
theorem ok_ahead (T : Tx K mg) : Ok P w K mg base 2 (He.ga K "is_ahead") ["one", "other"] spAhead := by
  refine ok_mk T.F_is_ahead scAhead (fun _ _ _ _ _ _ us hl => match us, hl with | [_, _], _ => rfl) (fun vs H Q E h => ?_) (fun cdv A outer s H vs Q E hr h => ?_)
  · obtain ⟨a, b, c, d, rfl, _⟩ := h
    rfl
  · obtain ⟨a, b, c, d, rfl, ha, hb, lc, ld, q⟩ := h
    refine ⟨_, pss_one (ps_ret (pe_cmpR (op_ltD hr.units) (pc (ok_rank T) hr T.g_rank (pa_cons (pv 0) pa_nil)) (pc (ok_rank T) hr T.g_rank (pa_cons (pv 1) pa_nil)) (nomark _))), ?_⟩
    refine ⟨_, rfl, a, c, rfl, ha, lc, fun H1 p us s1 ep pp => ⟨_, rfl, b, d, rfl, s1 _ _ hb, ld, fun H2 p2 us2 s2 ep2 pp2 => ?_⟩⟩
    have pp' : Paired (RkV H2) us c := paired_mono pp fun u n ⟨t, e, z⟩ => ⟨t, e, s2 _ _ z⟩
    refine ⟨.list (c.map rkD), .list (d.map rkD), .lst (SqL.of (s2 _ _ ep)) (rk_dp pp'), .lst (SqL.of ep2) (rk_dp pp2), ?_, (fun z => by cases z), ?_, q H2 _ (s1.trans s2)⟩
    · simp [PySem.W.alike, rk_alike]
    · have h1 := rk_depth c
      have h2 : min (PyData.depth (.list (c.map rkD))) (PyData.depth (.list (d.map rkD))) ≤ PyData.depth (.list (c.map rkD)) := Nat.min_le_left _ _
      have h3 : PyData.depth (.list (c.map rkD)) = PyData.depthAll (c.map rkD) + 1 := by simp [PyData.depth]
      omega
end
end K79
/-! ## KD3 -/
set_option maxRecDepth 100000
set_option maxHeartbeats 2000000
namespace K79
open PySem PySem.Spec PyProof.Rows L2
theorem cut_take (xs : List V) (m : Nat) : cutV xs none (some (m : Int)) = xs.take m := by
  unfold cutV
  rw [HT.sIx_nat, HT.sIx_none, List.drop_zero, Nat.sub_zero]
  rw [List.take_eq_take_iff]
  omega
theorem cut_drop (xs : List V) (m : Nat) : cutV xs (some (m : Int)) none = xs.drop m := by
  unfold cutV
  rw [HT.sIx_nat, HT.sIx_none]
  by_cases h : m ≤ xs.length
  · rw [Nat.min_eq_left h]
    exact List.take_of_length_le (by rw [List.length_drop]; exact Nat.le_refl _)
  · have h2 : xs.length ≤ m := by omega
    rw [Nat.min_eq_right h2, List.drop_length, List.drop_of_length_le h2]
    exact List.take_nil
theorem nolst_list {H : Hp} {a b : Addr} {o : HO} {xs : List V} (h : H a = some o) (n : NoLst o) (k : H b = some (.lst xs)) : a ≠ b := ne_of h k (n xs)
section
variable {P : Program} {w : World} {K : PySem.W.Frag} {mg : Str → Option Value} {base : Heap}
/-! ### in_order -/
def spOrder : Sp := fun vs H Q _ => ∃ (l : Addr) (us : List V) (cs : List Cnt), vs = [.ref l] ∧ H l = some (.lst us) ∧ Cnts H us cs ∧ (∀ c ∈ cs, c.length ≤ 4) ∧ us.length ≤ 20 ∧ ∀ H' p us', Same H H' → H' p = some (.lst us') → us'.Perm us → Q (.ref p) H'
theorem scOrder : FnScope ["counts", "found", "count", "at", "other"] ["counts"] (defScope sOrder) := ⟨rfl, rfl, rfl, by decide +kernel, rfl, by decide +kernel, by decide +kernel⟩
theorem ok_order (T : Tx K mg) : Ok P w K mg base 3 (He.ga K "in_order") ["counts"] spOrder := by
  refine ok_mk T.F_in_order scOrder (fun _ _ _ _ _ _ us hl => match us, hl with | [_], _ => rfl) (fun vs H Q E h => ?_) (fun cdv A outer s H vs Q E hr h => ?_)
  · obtain ⟨l, us, cs, rfl, _⟩ := h
    rfl
  · obtain ⟨l, us, cs, rfl, hl, hc, h4, h20, q⟩ := h
    refine ⟨_, pss_cons (ps_set (i := 1) scOrder.nd rfl (Or.inl rfl) (pe_lst pa_nil))
      (pss_cons (ps_for PassesOwn.never rfl (pi_list (pv 0)) (pg_name (i := 2) scOrder.nd rfl (Or.inr rfl))
        (pss_cons (ps_set (i := 3) scOrder.nd rfl (Or.inl rfl) (pe_callB call_len_seq (by rfl) T.n_len PySem.boot_len (pa_cons
            (pe_lc (own := [("other", 4)]) (g := gName 4) rfl scOrder.nd (pi_list (pv 1)) (blkOk_by (own := [("other", 4)]) (N := ["counts", "found", "count", "at", "other"]) (sc := defScope sOrder) (by decide +kernel))
              (fun _ _ _ _ _ => pg_name (i := 4) scOrder.nd rfl (Or.inl rfl)) (fun _ _ _ _ _ => pts_one (pt_val (pc (ok_ahead T) hr T.g_is_ahead (pa_cons (pv 4) (pa_cons (pv 2) pa_nil))))) (fun _ _ _ _ _ => pv 4)) pa_nil)))
        (pss_one (ps_set (i := 1) scOrder.nd rfl (Or.inl rfl) (pe_lst (StX.pa_star (pe_slice sl_list (pv 1) po_none (po_some (pv 3))) (pa_cons (pv 2) (StX.pa_star (pe_slice sl_list (pv 1) (po_some (pv 3)) po_none) pa_nil))))))))
      (pss_one (ps_ret (pv 1)))), ?_⟩
    -- found = []
    refine ⟨small (by show 0 ≤ _; decide), fun o no => ?_⟩
    have s0 : Same H (upd H o (.lst [])) := same_upd no
    refine ⟨_, rfl, l, rfl, ⟨_, s0.seq (SqL.of hl)⟩, for_it (walk_list (K := K) (xs := us)) (fun i σ H' => ∃ f y2 y3 acc, σ = [some (.ref l), some (.ref f), y2, y3, none] ∧ Same H H' ∧ H' f = some (.lst acc) ∧ acc.Perm (us.take i))
      ⟨o, none, none, [], rfl, s0, upd_same, .nil⟩ (fun i σ H' _ ⟨_, _, _, _, _, s1, _⟩ => s1.seq (SqL.of hl)) (fun i u σ H1 H1' hi hp y => ?_) (fun σ H1 hp => ?_)⟩
    · obtain ⟨f, y2, y3, acc, rfl, s1, ef, pm⟩ := hp
      obtain ⟨rfl, eu⟩ := y
      obtain ⟨c, ec, hu⟩ := paired_get hc eu
      obtain ⟨a, rfl, ea⟩ := hu
      have lc := h4 c (List.mem_of_getElem? ec)
      have la : acc.length ≤ 20 := by
        rw [pm.length_eq, List.length_take]
        omega
      -- at = len([..])
      refine ⟨_, rfl, f, rfl, ⟨_, SqL.of ef⟩, lc_same (walk_list (K := K) (xs := acc)) (fun _ _ _ => True) (by omega) (fun H' s => s.seq (SqL.of ef)) (fun _ _ _ _ _ _ => trivial) trivial
        (fun j x H2 H2' ac Kc Kn hj s2 _ _ kc kn y => ?_) (fun H2 D ac nD s2 eD lD _ => ?_)⟩
      · obtain ⟨rfl, ex⟩ := y
        obtain ⟨d, hd, b, rfl, eb⟩ := paired_mem hc ((List.take_subset i us) (pm.subset (List.mem_of_getElem? ex)))
        refine ⟨rfl, _, rfl, _, rfl, b, a, d, c, rfl, s2 _ _ (s1 _ _ eb), s2 _ _ (s1 _ _ ea), h4 d hd, lc, fun H3 r s3 => ⟨r, rfl, ?_⟩⟩
        cases r with
        | true => exact iteT ⟨_, rfl, kc _ _ s3 trivial⟩
        | false => exact iteF (kn _ s3 trivial)
      · refine ⟨D, ac, rfl, .inl (SqL.of eD), ?_⟩
        have ef2 : H2 f = some (.lst acc) := s2 _ _ ef
        -- found = [*found[:at], count, *found[at:]]
        refine ⟨_, rfl, _, rfl, _, rfl, f, acc, rfl, SqL.of ef2, fun p1 n1 => ?_⟩
        rw [cut_take]
        have k1 := same_upd (o := .lst (acc.take ac.length)) n1
        refine ⟨p1, _, rfl, .inr (SqL.of upd_same), _, rfl, _, rfl, _, rfl, _, rfl, f, acc, rfl, SqL.of (k1 _ _ ef2), fun p2 n2 => ?_⟩
        rw [cut_drop]
        have k2 := same_upd (o := .lst (acc.drop ac.length)) n2
        refine ⟨p2, _, rfl, .inr (SqL.of upd_same), small ?_, fun p3 n3 => ?_⟩
        · simp only [List.length_append, List.length_cons, List.length_nil, List.length_take, List.length_drop, List.append_nil]
          omega
        · have k3 := same_upd (o := .lst (acc.take ac.length ++ V.ref a :: (acc.drop ac.length ++ []))) n3
          refine ⟨p3, _, _, _, rfl, ((((s1.trans s2).trans k1).trans k2).trans k3), upd_same, ?_⟩
          rw [take_succ eu, List.append_nil]
          refine (List.perm_middle).trans ?_
          rw [List.take_append_drop]
          exact (pm.cons _).trans (List.perm_append_singleton _ _).symm
    · obtain ⟨f, y2, y3, acc, rfl, s1, ef, pm⟩ := hp
      rw [List.take_length] at pm
      exact ⟨_, rfl, q H1 f acc s1 ef pm⟩
end
end K79
/-! ## KD4 -/
set_option maxRecDepth 100000
set_option maxHeartbeats 2000000
namespace K79
open PySem PySem.Spec PyProof.Rows L2
/-! ### counts as data -/
def nD : Num → PyData
  | none => .none
  | some n => .int n
def cD (c : Cnt) : PyData := .tuple (c.map nD)
theorem nD_dp {K : PySem.W.Frag} {H : Hp} : ∀ c : Cnt, DpAll K H (c.map cv) (c.map nD)
  | [] => .nil
  | none :: c => .cons .non (nD_dp c)
  | some n :: c => .cons (.int _) (nD_dp c)
theorem cD_dp {K : PySem.W.Frag} {H : Hp} {u : V} {c : Cnt} (h : CntV H u c) : Dp K H u (cD c) := by
  obtain ⟨a, rfl, e⟩ := h
  exact .tup (SqT.of e) (nD_dp c)
theorem cDs_dp {K : PySem.W.Frag} {H : Hp} : ∀ {us : List V} {cs : List Cnt}, Cnts H us cs → DpAll K H us (cs.map cD)
  | _, _, .nil => .nil
  | _, _, .cons r t => .cons (cD_dp r) (cDs_dp t)
theorem nD_eqv : ∀ c d : Cnt, PyData.eqvAll (c.map nD) (d.map nD) = decide (c = d)
  | [], [] => by simp [PyData.eqvAll]
  | [], _ :: _ => by simp [PyData.eqvAll]
  | _ :: _, [] => by simp [PyData.eqvAll]
  | a :: c, b :: d => by
    rw [List.map_cons, List.map_cons, PyData.eqvAll, nD_eqv c d]
    cases a <;> cases b <;> simp [nD, PyData.eqv]
    rename_i m n
    by_cases h : m = n
    · subst h
      simp
    · have h2 : ¬ ((m : Int) = (n : Int)) := by omega
      simp [h, h2]
theorem cD_eqv (c d : Cnt) : PyData.eqv (cD c) (cD d) = decide (c = d) := by
  unfold cD
  rw [PyData.eqv, nD_eqv]
theorem nD_lay : ∀ c : Cnt, PyData.canLayAll0 (c.map nD) = true
  | [] => by simp [PyData.canLayAll0]
  | a :: c => by
    rw [List.map_cons, PyData.canLayAll0, nD_lay c]
    cases a <;> simp [nD, PyData.canLay0]
theorem nD_depth : ∀ c : Cnt, PyData.depthAll (c.map nD) = 0
  | [] => by simp [PyData.depthAll]
  | a :: c => by
    rw [List.map_cons, PyData.depthAll, nD_depth c]
    cases a <;> simp [nD, PyData.depth]
theorem cD_shaped (c : Cnt) : SeqAt.shaped (cD c) = true := by
  unfold SeqAt.shaped cD
  rw [PyData.canLay0, nD_lay, PyData.depth, nD_depth]
  rfl
theorem cDs_lay : ∀ cs : List Cnt, PyData.canLayAll0 (cs.map cD) = true
  | [] => by simp [PyData.canLayAll0]
  | c :: cs => by
    rw [List.map_cons, PyData.canLayAll0, cDs_lay cs, Bool.and_true]
    unfold cD
    rw [PyData.canLay0, nD_lay]
theorem cDs_depth : ∀ cs : List Cnt, PyData.depthAll (cs.map cD) ≤ 1
  | [] => by simp [PyData.depthAll]
  | c :: cs => by
    have := cDs_depth cs
    rw [List.map_cons, PyData.depthAll]
    unfold cD at this ⊢
    rw [PyData.depth, nD_depth]
    omega
theorem cDs_shaped (cs : List Cnt) : SeqAt.shaped (.list (cs.map cD)) = true := by
  unfold SeqAt.shaped
  rw [PyData.canLay0, cDs_lay, PyData.depth]
  have := cDs_depth cs
  simp
  omega
theorem cDs_any (cs : List Cnt) (c : Cnt) : ((cs.map cD).any fun z => PyData.eqv z (cD c)) = decide (c ∈ cs) := by
  induction cs with
  | nil => simp
  | cons d cs ih =>
    rw [List.map_cons, List.any_cons, ih, cD_eqv]
    by_cases h : c = d
    · subst h
      simp
    · have h2 : ¬ d = c := fun e => h e.symm
      simp [h, h2]
theorem paired_take {α β : Type} {R : α → β → Prop} : ∀ {l : List α} {m : List β} (n : Nat), Paired R l m → Paired R (l.take n) (m.take n)
  | _, _, 0, _ => .nil
  | _, _, _ + 1, .nil => .nil
  | _, _, n + 1, .cons r t => .cons r (paired_take n t)
theorem perm_cnts {H : Hp} {us us' : List V} (p : us'.Perm us) : ∀ {cs : List Cnt}, Cnts H us cs → ∃ cs', Cnts H us' cs' ∧ cs'.Perm cs := by
  induction p with
  | nil =>
    intro cs h
    exact ⟨cs, h, .refl _⟩
  | cons x p ih =>
    intro cs h
    cases h with
    | cons r t =>
      obtain ⟨cs', h1, h2⟩ := ih t
      exact ⟨_, .cons r h1, h2.cons _⟩
  | swap x y l =>
    intro cs h
    cases h with
    | cons r t =>
      cases t with
      | cons r2 t2 => exact ⟨_, .cons r2 (.cons r t2), .swap _ _ _⟩
  | trans p1 p2 ih1 ih2 =>
    intro cs h
    obtain ⟨c1, h1, k1⟩ := ih2 h
    obtain ⟨c2, h2, k2⟩ := ih1 h1
    exact ⟨c2, h2, k2.trans k1⟩
/-- the comprehension that a statement assigns, or returns within a call -/
def lcOf : Stmt → Scope
  | .Assign _ (.ListComp _ _ sc _) _ => sc
  | .Return (some (.Call _ [.ListComp _ _ sc _] _ _)) _ => sc
  | .Return (some (.ListComp _ _ sc _)) _ => sc
  | _ => { kind := .function, names := [], isGenerator := false, isCoroutine := false }
section
variable {P : Program} {w : World} {K : PySem.W.Frag} {mg : Str → Option Value} {base : Heap}
/-! ### greatest_of -/
def spGreat : Sp := fun vs H Q _ => ∃ (l : Addr) (us : List V) (cs : List Cnt) (k : Nat), vs = [.ref l] ∧ H l = some (.lst us) ∧ Cnts H us cs ∧ (∀ c ∈ cs, c.length = k) ∧ k ≤ 4 ∧ us.length ≤ 20 ∧
  ∀ H' p us' cs', Same H H' → H' p = some (.lst us') → Cnts H' us' cs' → us'.length ≤ us.length → (∀ c ∈ cs', c ∈ cs) → (∀ c ∈ cs, ∃ m ∈ cs', below c m = true) → Q (.ref p) H'
theorem scGreat : FnScope ["counts", "once", "at", "count", "other"] ["counts"] (defScope sGreat) := ⟨rfl, rfl, rfl, by decide +kernel, rfl, by decide +kernel, by decide +kernel⟩
theorem ok_great (T : Tx K mg) : Ok P w K mg base 4 (He.ga K "greatest_of") ["counts"] spGreat := by
  refine ok_mk T.F_greatest_of scGreat (fun _ _ _ _ _ _ us hl => match us, hl with | [_], _ => rfl) (fun vs H Q E h => ?_) (fun cdv A outer s H vs Q E hr h => ?_)
  · obtain ⟨l, us, cs, k, rfl, _⟩ := h
    rfl
  · obtain ⟨l, us, cs, k, rfl, hl, hc, hk, h4, h20, q⟩ := h
    have hu65 : (A.deeper (envOfC "greatest_of" (defScope sGreat) s.heap.objs.size (He.ga K "greatest_of") cdv)).units + 65 < cLine := by
      have := hr.un
      omega
    refine ⟨_, pss_cons (ps_set (i := 1) scGreat.nd rfl (Or.inr rfl)
        (pe_lc (own := [("at", 2), ("count", 3)]) (g := g2 K 2 3) (tt := tTest (tOp (rNotInD K) (tVar 3) (L2.tSl (rSlL K) (tVar 0) tNoPart (tPart (tVar 2))))) (te := tVar 3) rfl scGreat.nd (pi_enum (by rfl) T.n_enumerate (pa_cons (pv 0) pa_nil)) (blkOk_by (own := [("at", 2), ("count", 3)]) (N := ["counts", "once", "at", "count", "other"]) (sc := defScope sGreat) (by decide +kernel))
          (fun _ _ _ _ _ => pg2 (i := 2) (j := 3) rfl scGreat.nd rfl rfl rfl rfl) (fun _ _ _ _ _ => pts_one (pt_cmpR (op_notInD hu65) (pv 3) (pe_slice sl_list (pv 0) po_none (po_some (pv 2))) rfl)) (fun _ _ _ _ _ => pv 3)))
      (pss_one (ps_ret (pc (ok_order T) hr T.g_in_order (pa_cons
        (pe_lc (own := [("count", 3)]) (g := gName 3) (tt := tNot (tB (tCB (rAny K) (tCons (tLc (iList K (tVar 1)) (gName 4) (tTest (tOp (rNeD K) (tVar 4) (tVar 3))) (tCall spBelow [] E0 (tCons (tVar 3) (tCons (tVar 4) tNil))) [4]) tNil)))) (te := tVar 3) rfl scGreat.nd (pi_list (pv 1)) (blkOk_by (own := [("count", 3)]) (N := ["counts", "once", "at", "count", "other"]) (sc := defScope sGreat) (by decide +kernel))
          (fun _ _ _ _ _ => pg_name (i := 3) scGreat.nd rfl (Or.inr rfl))
          (fun _ _ _ _ _ => pts_one (pt_not (pt_val (pe_callB (cr_any rfl) (by rfl) T.n_any (by decide +kernel) (pa_cons
            (pe_lc (own := [("other", 4)]) (g := gName 4) rfl scGreat.nd (pi_list (pv 1)) (blkOk_by (own := [("other", 4)]) (N := ["counts", "once", "at", "count", "other"]) (sc := relS (lcOf ((defBody sGreat).getD 1 (.Pass ⟨0, 0, 0, 0⟩))) (defScope sGreat)) (by decide +kernel))
              (fun _ _ _ _ _ => pg_name (i := 4) scGreat.nd rfl (Or.inl rfl)) (fun _ _ _ _ _ => pts_one (pt_cmpR (op_neD hr.units) (pv 4) (pv 3) (nomark _))) (fun _ _ _ _ _ => pc (ok_below T) (hr.mono (by decide)) T.g_is_below (pa_cons (pv 3) (pa_cons (pv 4) pa_nil)))) pa_nil)))))
          (fun _ _ _ _ _ => pv 3)) pa_nil)))), ?_⟩
    -- once
    refine ⟨_, rfl, l, us, rfl, SqL.of hl, lc_same (walk_enum (K := K) (xs := us)) (fun i acc H' => ∃ ds, Cnts H' acc ds ∧ ∀ c, c ∈ ds ↔ c ∈ cs.take i) (by omega) (fun H' s => s.seq (SqL.of hl)) (fun i acc H H' st ⟨ds, h1, h2⟩ => ⟨ds, h1.stay st, h2⟩) ⟨[], .nil, by simp⟩
      (fun i x H1 H1' acc Kc Kn hi s1 _ pr kc kn y => ?_) (fun H1 D acc nD s1 eD lD pr => ?_)⟩
    · obtain ⟨Tp, x1, x2, rfl, nT, rfl, e1, e2⟩ := y
      cases e1
      obtain ⟨c, ec, hu⟩ := paired_get hc e2
      obtain ⟨ds, hds, hm⟩ := pr
      have sT := same_upd (o := .tup [.int (i : Nat), x2]) nT
      have s2 := s1.trans sT
      have hu2 := hu.stay s2.stay
      refine ⟨Tp, _, rfl, SqT.of upd_same, rfl, _, _, rfl, _, _, rfl, rfl, rfl, ?_⟩
      refine ⟨_, rfl, _, rfl, _, rfl, _, rfl, l, us, rfl, s2.seq (SqL.of hl), fun p np => ?_⟩
      rw [cut_take]
      have s3 := same_upd (o := .lst (us.take i)) np
      have hc3 : Cnts _ (us.take i) (cs.take i) := paired_take i (hc.stay (s2.trans s3).stay)
      refine ⟨cD c, (cs.take i).map cD, cD_dp (hu2.stay s3.stay), .lst (SqL.of upd_same) (cDs_dp hc3), cD_shaped c, cDs_shaped _, _, rfl, ?_⟩
      rw [cDs_any]
      by_cases hin : c ∈ cs.take i
      · rw [decide_eq_true hin]
        refine iteF (kn _ (sT.trans s3) ⟨ds, (hds.stay (sT.trans s3).stay), fun d => ?_⟩)
        rw [hm, take_succ ec, List.mem_append, List.mem_singleton]
        exact ⟨.inl, fun z => z.elim id fun z => z ▸ hin⟩
      · rw [decide_eq_false hin]
        refine iteT ⟨_, rfl, kc _ _ (sT.trans s3) ⟨ds ++ [c], paired_app (hds.stay (sT.trans s3).stay) (.cons (hu2.stay s3.stay) .nil), fun d => ?_⟩⟩
        rw [take_succ ec, List.mem_append, List.mem_append, hm]
    · -- return in_order([..])
      obtain ⟨c1, h1, m1⟩ := pr
      have lcs : (us.length : Nat) = cs.length := paired_len hc
      have m1' : ∀ c, c ∈ c1 ↔ c ∈ cs := fun c => by rw [m1, lcs, List.take_length]
      have k1 : ∀ c ∈ c1, c.length = k := fun c hcm => hk c ((m1' c).mp hcm)
      refine ⟨_, rfl, D, rfl, ⟨_, SqL.of eD⟩, lc_same (walk_list (K := K) (xs := acc)) (fun i ac H' => ∃ ds, Cnts H' ac ds ∧ ∀ c, c ∈ ds ↔ (c ∈ c1.take i ∧ maxIn c1 c)) (by omega) (fun H' s => s.seq (SqL.of eD)) (fun i ac H H' st ⟨ds, h1, h2⟩ => ⟨ds, h1.stay st, h2⟩) ⟨[], .nil, by simp⟩
        (fun i x H2 H2' ac Kc Kn hi s2 _ pr kc kn y => ?_) (fun H2 D2 ac nD2 s2 eD2 lD2 pr => ?_)⟩
      · obtain ⟨rfl, ex⟩ := y
        obtain ⟨c, ec, hu⟩ := paired_get h1 ex
        obtain ⟨ds, hds, hm⟩ := pr
        have hcm : c ∈ c1 := List.mem_of_getElem? ec
        refine ⟨rfl, ?_⟩
        refine ⟨_, rfl, D, rfl, ⟨_, s2.seq (SqL.of eD)⟩, lc_same (walk_list (K := K) (xs := acc)) (fun j bs _ => bs = (((c1.take j).filter (fun d => decide (d ≠ c))).map (below c)).map V.bl) (by omega) (fun H' s => s.seq (s2.seq (SqL.of eD))) (fun _ _ _ _ _ h => h) rfl
          (fun j x3 H3 H3' bs Kc2 Kn2 hj s3 _ pr2 kc2 kn2 y => ?_) (fun H3 D3 bs nD3 s3 eD3 lD3 pr2 => ?_)⟩
        · obtain ⟨rfl, ex3⟩ := y
          obtain ⟨d, ed, hd⟩ := paired_get h1 ex3
          have hdm : d ∈ c1 := List.mem_of_getElem? ed
          have hd3 := hd.stay (s2.trans s3).stay
          have hu3 := hu.stay (s2.trans s3).stay
          refine ⟨rfl, _, rfl, _, rfl, cD d, cD c, cD_dp hd3, cD_dp hu3, cD_shaped d, cD_shaped c, _, rfl, ?_⟩
          rw [cD_eqv]
          by_cases e : d = c
          · rw [decide_eq_true e]
            refine iteF (kn2 _ (Same.refl _) ?_)
            rw [take_succ ed, List.filter_append, pr2]
            simp [e]
          · rw [decide_eq_false e]
            obtain ⟨a1, rfl, ea1⟩ := hu3
            obtain ⟨a2, rfl, ea2⟩ := hd3
            refine iteT ⟨_, rfl, _, rfl, a1, a2, c, d, k, rfl, ea1, ea2, k1 c hcm, k1 d hdm, h4, fun H4 s4 => ?_⟩
            refine kc2 _ _ s4 ?_
            rw [take_succ ed, List.filter_append, pr2]
            simp [e]
        · refine ⟨D3, _, rfl, SqL.of (pr2 ▸ eD3), _, rfl, ?_⟩
          have la : acc.length = c1.length := paired_len h1
          rw [la, List.take_length]
          have key : (((c1.filter (fun d => decide (d ≠ c))).map (below c)).any id) = true ↔ ¬ maxIn c1 c := by
            rw [List.any_map, List.any_eq_true]
            constructor
            · rintro ⟨d, hd, hb⟩ hmx
              obtain ⟨h1, h2⟩ := List.mem_filter.mp hd
              have := hmx d h1 (of_decide_eq_true h2)
              simp only [Function.comp, id] at hb
              rw [this] at hb
              cases hb
            · intro hn
              apply Classical.byContradiction
              intro hc2
              apply hn
              intro d hd hne
              cases eb : below c d with
              | false => rfl
              | true => exact absurd ⟨d, List.mem_filter.mpr ⟨hd, decide_eq_true hne⟩, eb⟩ hc2
          cases eb : (((c1.filter (fun d => decide (d ≠ c))).map (below c)).any id) with
          | true =>
            refine iteF (kn _ s3 ⟨ds, hds.stay s3.stay, fun d => ?_⟩)
            rw [hm, take_succ ec, List.mem_append, List.mem_singleton]
            refine ⟨fun z => ⟨.inl z.1, z.2⟩, fun z => ⟨z.1.elim id fun e => ?_, z.2⟩⟩
            exact absurd (e ▸ z.2) (key.mp eb)
          | false =>
            have hmx : maxIn c1 c := Classical.byContradiction fun hn => by
              rw [key.mpr hn] at eb
              cases eb
            refine iteT ⟨_, rfl, kc _ _ s3 ⟨ds ++ [c], paired_app (hds.stay s3.stay) (.cons (hu.stay (s2.trans s3).stay) .nil), fun d => ?_⟩⟩
            rw [take_succ ec, List.mem_append, List.mem_append, hm, List.mem_singleton]
            refine ⟨fun z => z.elim (fun z => ⟨.inl z.1, z.2⟩) fun e => ⟨.inr e, e ▸ hmx⟩, fun z => z.1.elim (fun y => .inl ⟨y, z.2⟩) .inr⟩
      · obtain ⟨ds, hds, hm⟩ := pr
        have la : acc.length = c1.length := paired_len h1
        have hm' : ∀ c, c ∈ ds ↔ (c ∈ c1 ∧ maxIn c1 c) := fun c => by rw [hm, la, List.take_length]
        refine ⟨D2, ac, ds, rfl, eD2, hds, fun c hcm => ?_, by omega, fun H3 p us' s3 ep pm => ?_⟩
        · rw [k1 c ((hm' c).mp hcm).1]
          exact h4
        · obtain ⟨cs', h5, pm5⟩ := perm_cnts pm (hds.stay s3.stay)
          refine q H3 p us' cs' ((s1.trans s2).trans s3) ep h5 (by rw [pm.length_eq]; omega) (fun c hcm => ?_) (fun c hcm => ?_)
          · exact (m1' c).mp ((hm' c).mp (pm5.subset hcm)).1
          · obtain ⟨m, hm1, hb, hmx⟩ := exists_max k1 _ c ((m1' c).mpr hcm) rfl
            exact ⟨m, pm5.symm.subset ((hm' m).mpr ⟨hm1, hmx⟩), hb⟩
end
end K79
/-! ## KD5 -/
set_option maxRecDepth 100000
set_option maxHeartbeats 2000000
namespace K79
open PySem PySem.Spec PyProof.Rows L2
/-! ### a reach's fields -/
theorem ps_ : ¬ (("peaks" : Str) = "size") := by decide +kernel
theorem sp_ : ¬ (("size" : Str) = "peaks") := by decide +kernel
def rf (k : Nat) (pa : Addr) : List (Str × V) := putF "peaks" (.ref pa) (putF "size" (.int k) [])
theorem rf_peaks (k : Nat) (pa : Addr) : (rf k pa).lookup ("peaks" : Str) = some (.ref pa) := by
  unfold rf
  rw [lookup_putF, if_pos rfl]
theorem rf_size (k : Nat) (pa : Addr) : (rf k pa).lookup ("size" : Str) = some (.int k) := by
  unfold rf
  rw [lookup_putF, if_neg sp_, lookup_putF, if_pos rfl]
theorem rf_no (k : Nat) (pa : Addr) {m : Str} (h1 : ¬ m = "peaks") (h2 : ¬ m = "size") : (rf k pa).lookup m = none := by
  unfold rf
  rw [lookup_putF, if_neg h1, lookup_putF, if_neg h2]
  rfl
/-- at x: a reach of k areas, its greatest counts ps -/
structure RchAt (C : Addr) (H : Hp) (x : Addr) (k : Nat) (ps : List Cnt) : Prop where
  at_ : ∃ dx pa pvs, H x = some (.ins C dx (rf k pa)) ∧ H pa = some (.tup pvs) ∧ Cnts H pvs ps
  val : ∀ c ∈ ps, Val k c
  lo : 1 ≤ k
  hi : k ≤ 4
  some_ : ps ≠ []
  few : ps.length ≤ 21
theorem RchAt.stay {C : Addr} {H H' : Hp} {x : Addr} {k : Nat} {ps : List Cnt} (r : RchAt C H x k ps) (s : Stay H H') : RchAt C H' x k ps :=
  ⟨let ⟨dx, pa, pvs, h1, h2, h3⟩ := r.at_; ⟨dx, pa, pvs, s x _ nl_ins h1, s.tup h2, h3.stay s⟩, r.val, r.lo, r.hi, r.some_, r.few⟩
def zeroC (k : Nat) : Cnt := List.replicate k (some 0)
theorem zeroC_val (k : Nat) : Val k (zeroC k) := ⟨by simp [zeroC], fun n h => by
  have := (List.mem_replicate.mp h).2
  cases this
  omega⟩
theorem zero_flat : ∀ k : Nat, (List.replicate k [V.int 0]).flatten = (zeroC k).map cv
  | 0 => rfl
  | k + 1 => by
    rw [List.replicate_succ, List.flatten_cons, zero_flat k]
    rfl
/-- (0,) * k -/
theorem rep_zero {K : PySem.W.Frag} {H : Hp} {z : Addr} {k : Nat} {C : VK} (hz : H z = some (.tup [.int 0])) (h1 : 1 ≤ k) (h4 : k ≤ 4) (h : ∀ za H', Same H H' → H' za = some (.tup ((zeroC k).map cv)) → C (.ref za) H') :
    rRep1 K (.ref z) (.int k) H C ∨ rRepT K (.ref z) (.int k) H C := by
  by_cases e : k = 1
  · subst e
    exact .inl ⟨z, _, rfl, rfl, hz, by simp, h z H (Same.refl _) hz⟩
  · refine .inr ⟨z, k, [.int 0], rfl, rfl, SqT.of hz, by simp, by omega, by omega, by simp, fun p np => ?_⟩
    rw [Int.toNat_natCast, zero_flat]
    exact h p _ (same_upd np) upd_same
section
variable {P : Program} {w : World} {K : PySem.W.Frag} {mg : Str → Option Value} {base : Heap}
theorem kit_seqL : PySem.W.kitAny K (.type "list") [.type "list", .type "tuple"] = some true := kitAny_cons (b := true) (kit_ty (by decide +kernel)) (fun z => by cases z) (fun _ => rfl)
/-! ### Reach.__init__ -/
def spRInit (C : Addr) : Sp := fun vs H Q _ => ∃ (x dx l : Addr) (k : Nat) (us : List V) (cs : List Cnt), vs = [.ref x, .int k, .ref l] ∧ H x = some (.ins C dx []) ∧ H l = some (.lst us) ∧ Cnts H us cs ∧ (∀ c ∈ cs, Val k c) ∧ 1 ≤ k ∧ k ≤ 4 ∧ us.length ≤ 19 ∧
  ∀ H' ps, (∀ b o, b ≠ x → H b = some o → H' b = some o) → RchAt C H' x k ps → (∀ c ∈ ps, c = zeroC k ∨ c ∈ cs) → (∀ c ∈ cs, ∃ m ∈ ps, below c m = true) → Q .non H'
theorem scRInit : FnScope ["self", "many", "counts", "index", "count"] ["self", "many", "counts"] (defScope sRInit) := ⟨rfl, rfl, rfl, by decide +kernel, rfl, by decide +kernel, by decide +kernel⟩
theorem ok_rinit (T : Tx K mg) : Ok P w K mg base 5 (He.ma K (He.ga K "Reach") "__init__") ["self", "many", "counts"] (spRInit (He.ga K "Reach")) := by
  refine ok_mk T.F_Reach_init scRInit (fun _ _ _ _ _ _ us hl => match us, hl with | [_, _, _], _ => rfl) (fun vs H Q E h => ?_) (fun cdv A outer s H vs Q E hr h => ?_)
  · obtain ⟨x, dx, l, k, us, cs, rfl, _⟩ := h
    rfl
  · obtain ⟨x, dx, l, k, us, cs, rfl, hx, hl, hc, hv, k1, k4, h19, q⟩ := h
    obtain ⟨t, mA⟩ := T.i_MOST_AREAS
    refine ⟨_, pss_cons (ps_if (pt_not (pt_val (pc (ok_between T) (hr.mono (by decide)) T.g_is_between (pa_cons (pv 1) (pa_cons pe_int (pa_cons (pe_glob (v := .int 4) rfl mA ⟨_, rfl⟩) pa_nil)))))) (pss_one ps_never) pss_nil)
      (pss_cons (ps_if (pt_not (pt_val (pe_callB call_isiT (by rfl) T.n_isinstance (by decide +kernel) (pa_cons (pv 2) (pa_cons (pe_tup (pa_cons (pe_bltn (v := .ty "list") (by rfl) T.n_list (by decide +kernel) rfl) (pa_cons (pe_bltn (v := .ty "tuple") (by rfl) T.n_tuple (by decide +kernel) rfl) pa_nil))) pa_nil))))) (pss_one ps_never) pss_nil)
      (pss_cons (ps_for PassesOwn.never rfl (pi_enum (by rfl) T.n_enumerate (pa_cons (pv 2) pa_nil)) (pg2 (i := 3) (j := 4) rfl scRInit.nd rfl rfl rfl rfl)
          (pss_one (ps_if (pt_not (pt_val (pc (ok_count T) (hr.mono (by decide)) T.g_is_count (pa_cons (pv 4) (pa_cons (pv 1) pa_nil))))) (pss_one ps_never) pss_nil)))
      (pss_cons (ps_fld (pv 0) (pv 1) rfl)
      (pss_one (ps_fld (pv 0) (pe_callTy call_tuple_of (by rfl) T.n_tuple (by decide +kernel) (pa_cons (pc (ok_great T) hr T.g_greatest_of (pa_cons (pe_lst (pa_cons (pe_op (OpR.or op_rep1 op_repT) (pe_tup (pa_cons pe_int pa_nil)) (pv 1)) (StX.pa_star (pv 2) pa_nil))) pa_nil)) pa_nil)) rfl))))), ?_⟩
    -- the looks
    refine ⟨_, rfl, (k : Int), 1, 4, rfl, _, rfl, ?_⟩
    have ek : decide ((1 : Int) ≤ (k : Int) ∧ (k : Int) ≤ 4) = true := decide_eq_true ⟨by omega, by omega⟩
    rw [ek]
    refine iteF ?_
    refine ⟨_, rfl, small (by show 2 ≤ _; decide), fun tp np => ?_⟩
    have s0 := same_upd (o := .tup [.ty "list", .ty "tuple"]) np
    refine ⟨_, tp, [.ty "list", .ty "tuple"], _, [.type "list", .type "tuple"], true, rfl, upd_same, .cons (.ty _) (.cons (.ty _) .nil), .base (.lst (s0 _ _ hl)), kit_seqL, _, rfl, iteF ?_⟩
    -- the loop
    refine ⟨_, rfl, l, us, rfl, SqL.of (s0 _ _ hl), for_it (walk_enum (K := K) (xs := us)) (fun i σ H' => ∃ y3 y4, σ = [some (.ref x), some (.int k), some (.ref l), y3, y4] ∧ Same H H') ⟨none, none, rfl, s0⟩ (fun i σ H' _ ⟨_, _, _, s1⟩ => s1.seq (SqL.of hl))
      (fun i u σ H1 H1' hi hp y => ?_) (fun σ H1 hp => ?_)⟩
    · obtain ⟨y3, y4, rfl, s1⟩ := hp
      obtain ⟨Tp, x1, x2, rfl, nT, rfl, e1, e2⟩ := y
      obtain ⟨c, ec, hu⟩ := paired_get hc e2
      have sT := same_upd (o := .tup [x1, x2]) nT
      obtain ⟨a, rfl, ea⟩ := hu.stay (s1.trans sT).stay
      refine ⟨Tp, _, rfl, SqT.of upd_same, rfl, _, _, rfl, _, _, rfl, rfl, ?_⟩
      refine ⟨_, rfl, _, rfl, a, c, k, rfl, ea, hv c (List.mem_of_getElem? ec), k4, fun H2 s2 => ⟨_, rfl, iteF ?_⟩⟩
      exact ⟨_, _, rfl, (s1.trans sT).trans s2⟩
    · obtain ⟨y3, y4, rfl, s1⟩ := hp
      -- self.size = many
      refine ⟨_, rfl, _, rfl, x, He.ga K "Reach", dx, [], rfl, s1 _ _ hx, T.c_Reach, T.no_Reach_size, (by show 0 < 1000; decide), ?_⟩
      -- self.peaks
      have nlx : l ≠ x := ne_of hl hx (by intro z; cases z)
      have keep1 : ∀ b o, b ≠ x → H b = some o → upd H1 x (.ins (He.ga K "Reach") dx (putF "size" (.int k) [])) b = some o := fun b o hb e => by
        rw [upd_ne hb]
        exact s1 _ _ e
      refine ⟨small (by show 1 ≤ _; decide), fun z0 nz0 => ?_⟩
      have hx1 : upd H1 x (.ins (He.ga K "Reach") dx (putF "size" (.int k) [])) x = some (.ins (He.ga K "Reach") dx (putF "size" (.int k) [])) := upd_same
      generalize upd H1 x (.ins (He.ga K "Reach") dx (putF "size" (.int k) [])) = G1 at nz0 keep1 hx1 ⊢
      have sz := same_upd (o := .tup [.int 0]) nz0
      refine ⟨_, rfl, rep_zero upd_same k1 k4 fun za H3 s3 ez => ?_⟩
      have sA := sz.trans s3
      refine ⟨_, rfl, l, us, rfl, .inr (SqL.of (sA _ _ (keep1 _ _ nlx hl))), small (by simp; omega), fun L nL => ?_⟩
      have sL := same_upd (o := .lst (V.ref za :: (us ++ []))) nL
      have hc2 : Cnts (upd H3 L (.lst (V.ref za :: (us ++ [])))) (V.ref za :: (us ++ [])) (zeroC k :: cs) := by
        rw [List.append_nil] at sL ⊢
        refine .cons ⟨za, rfl, sL _ _ ez⟩ (paired_mono hc fun u c ⟨a, e, z⟩ => ⟨a, e, sL _ _ (sA _ _ (keep1 _ _ (ne_of z hx (by intro y; cases y)) z))⟩)
      refine ⟨L, _, _, k, rfl, upd_same, hc2, fun c hcm => ?_, k4, by simp; omega, fun H4 p us' cs' s4 ep hc4 hle hsub hmax => ?_⟩
      · rcases List.mem_cons.mp hcm with e | hcm
        · rw [e]
          exact (zeroC_val k).len
        · exact (hv c hcm).len
      · refine ⟨p, us', rfl, .inl ⟨SqL.of ep, fun t2 nt2 => ?_⟩⟩
        have sB := ((sA.trans sL).trans s4).trans (same_upd (o := .tup us') nt2)
        have hx5 := sB _ _ hx1
        refine ⟨_, rfl, x, He.ga K "Reach", dx, _, rfl, hx5, T.c_Reach, T.no_Reach_peaks, (by show (putF "size" (V.int k) []).length < 1000; simp [putF]), ?_⟩
        have keep2 : ∀ b o, b ≠ x → H b = some o → upd (upd H4 t2 (.tup us')) x (.ins (He.ga K "Reach") dx (rf k t2)) b = some o := fun b o hb e => by
          rw [upd_ne hb]
          exact sB _ _ (keep1 _ _ hb e)
        have ntx : t2 ≠ x := fun z => by
          rw [z, upd_same] at hx5
          cases hx5
        refine q _ cs' keep2 ⟨⟨dx, t2, us', upd_same, by rw [upd_ne ntx, upd_same], paired_mono hc4 fun u c ⟨a, e, z⟩ => ⟨a, e, ?_⟩⟩, fun c hcm => ?_, k1, k4, fun e => ?_, ?_⟩ (fun c hcm => ?_) (fun c hcm => hmax c (List.mem_cons_of_mem _ hcm))
        · have z2 := same_upd (o := .tup us') nt2 _ _ z
          rw [upd_ne (ne_of z2 hx5 (by intro y; cases y))]
          exact z2
        · rcases List.mem_cons.mp (hsub c hcm) with e | hcm
          · rw [e]
            exact zeroC_val k
          · exact hv c hcm
        · obtain ⟨m, hm, _⟩ := hmax (zeroC k) List.mem_cons_self
          rw [e] at hm
          cases hm
        · rw [← paired_len hc4]
          have : us'.length ≤ (V.ref za :: (us ++ [])).length := hle
          simp at this
          omega
        · exact (List.mem_cons.mp (hsub c hcm))
end
end K79
/-! ## KD6 -/
set_option maxRecDepth 100000
set_option maxHeartbeats 2000000
namespace K79
open PySem PySem.Spec PyProof.Rows L2
section
variable {P : Program} {w : World} {K : PySem.W.Frag} {mg : Str → Option Value} {base : Heap}
theorem ty_own {C : Addr} {H : Hp} {x dx : Addr} {fs : List (Str × V)} (o : OwnC K C) (c : Cls K C) (h : H x = some (.ins C dx fs)) : TyX K H (.ref x) (.ref C) := .base (.ins h c o.ca o.cn o.ct o.cm)
theorem any_below {ps : List Cnt} {c : Cnt} : ((ps.map (below c)).any id) = ps.any (below c) := by
  rw [List.any_map]
  rfl
/-! ### Reach.__contains__ -/
def spRCont (C : Addr) : Sp := fun vs H Q _ => ∃ (x a : Addr) (k : Nat) (ps : List Cnt) (c : Cnt), vs = [.ref x, .ref a] ∧ RchAt C H x k ps ∧ H a = some (.tup (c.map cv)) ∧ Val k c ∧ ∀ H', Same H H' → Q (.bl (ps.any (below c))) H'
theorem scRCont : FnScope ["self", "count", "other"] ["self", "count"] (defScope sRCont) := ⟨rfl, rfl, rfl, by decide +kernel, rfl, by decide +kernel, by decide +kernel⟩
theorem ok_rcont (T : Tx K mg) : Ok P w K mg base 4 (He.ma K (He.ga K "Reach") "__contains__") ["self", "count"] (spRCont (He.ga K "Reach")) := by
  refine ok_mk T.F_Reach_contains scRCont (fun _ _ _ _ _ _ us hl => match us, hl with | [_, _], _ => rfl) (fun vs H Q E h => ?_) (fun cdv A outer s H vs Q E hr h => ?_)
  · obtain ⟨x, a, k, ps, c, rfl, _⟩ := h
    rfl
  · obtain ⟨x, a, k, ps, c, rfl, hx, ha, hv, q⟩ := h
    obtain ⟨dx, pa, pvs, h1, h2, h3⟩ := hx.at_
    refine ⟨_, pss_one (ps_ret (pe_and (pc (ok_count T) (hr.mono (by decide)) T.g_is_count (pa_cons (pv 1) (pa_cons (pe_fld (pv 0) rfl) pa_nil))) (pe_one
      (pe_callB (cr_any rfl) (by rfl) T.n_any (by decide +kernel) (pa_cons
        (pe_lc (own := [("other", 2)]) (g := gName 2) (tt := tYes) rfl scRCont.nd (pi_tup (pe_fld (pv 0) rfl)) (blkOk_by (own := [("other", 2)]) (N := ["self", "count", "other"]) (sc := defScope sRCont) (by decide +kernel))
          (fun _ _ _ _ _ => pg_name (i := 2) scRCont.nd rfl (Or.inl rfl)) (fun _ _ _ _ _ => pts_nil) (fun _ _ _ _ _ => pc (ok_below T) (hr.mono (by decide)) T.g_is_below (pa_cons (pv 1) (pa_cons (pv 2) pa_nil)))) pa_nil))))), ?_⟩
    refine ⟨_, rfl, _, rfl, x, _, dx, _, _, rfl, h1, T.c_Reach, T.no_Reach_size, rf_size _ _, a, c, k, rfl, ha, hv, hx.hi, fun H1 s1 => ⟨_, rfl, iteT ?_⟩⟩
    refine ⟨_, rfl, x, _, dx, _, _, rfl, s1 _ _ h1, T.c_Reach, T.no_Reach_peaks, rf_peaks _ _, pa, rfl, ⟨_, SqT.of (s1 _ _ h2)⟩, ?_⟩
    refine lc_same0 (walk_tup (K := K) (xs := pvs)) (fun i acc _ => acc = ((ps.take i).map (below c)).map V.bl) (by have := paired_len h3; have := hx.few; omega) (fun H' s => s.sqT (SqT.of (s1 _ _ h2))) (fun _ _ _ _ _ h => h) rfl
      (fun i y H2 H2' acc Kc hi s2 _ pr kc yy => ?_) (fun H2 D acc nD s2 eD lD pr => ?_)
    · obtain ⟨rfl, ey⟩ := yy
      obtain ⟨d, ed, hd⟩ := paired_get h3 ey
      obtain ⟨b, rfl, eb⟩ := hd.stay (s1.trans s2).stay
      refine ⟨rfl, _, rfl, _, rfl, a, b, c, d, k, rfl, (s1.trans s2) _ _ ha, eb, hv.len, (hx.val d (List.mem_of_getElem? ed)).len, hx.hi, fun H3 s3 => kc _ _ s3 ?_⟩
      rw [take_succ ed, pr]
      simp
    · refine ⟨D, _, rfl, SqL.of (pr ▸ eD), ?_⟩
      rw [paired_len h3, List.take_length, any_below]
      exact q H2 (s1.trans s2)
/-! ### Reach.check -/
def spRCheck (C : Addr) : Sp := fun vs H Q _ => ∃ (x y : Addr) (k : Nat) (ps qs : List Cnt), vs = [.ref x, .ref y] ∧ RchAt C H x k ps ∧ RchAt C H y k qs ∧ Q .non H
theorem scRCheck : FnScope ["self", "other"] ["self", "other"] (defScope sRCheck) := ⟨rfl, rfl, rfl, by decide +kernel, rfl, by decide +kernel, by decide +kernel⟩
theorem ok_rcheck (T : Tx K mg) : Ok P w K mg base 1 (He.ma K (He.ga K "Reach") "check") ["self", "other"] (spRCheck (He.ga K "Reach")) := by
  refine ok_mk T.F_Reach_check scRCheck (fun _ _ _ _ _ _ us hl => match us, hl with | [_, _], _ => rfl) (fun vs H Q E h => ?_) (fun cdv A outer s H vs Q E hr h => ?_)
  · obtain ⟨x, y, k, ps, qs, rfl, _⟩ := h
    rfl
  · obtain ⟨x, y, k, ps, qs, rfl, hx, hy, q⟩ := h
    obtain ⟨dx, pa, pvs, h1, h2, h3⟩ := hx.at_
    obtain ⟨dy, pb, qvs, k1, k2, k3⟩ := hy.at_
    refine ⟨_, pss_one (ps_if (PW.pt (pw_or (pt_not (pt_val (pe_callB call_isi (by rfl) T.n_isinstance (by decide +kernel) (pa_cons (pv 1) (pa_cons (pe_glob (v := .ref (He.ga K "Reach")) rfl T.g_Reach rfl) pa_nil)))))
        (pw_or1 (pt_cmpR op_ne (pe_fld (pv 1) rfl) (pe_fld (pv 0) rfl) (nomark _))))) (pss_one ps_never) pss_nil), ?_⟩
    refine ⟨_, rfl, _, _, _, _, _, rfl, .own _, ty_own T.more.ownR T.c_Reach k1, T.more.kitR, _, rfl, iteF ?_⟩
    refine ⟨_, rfl, y, _, dy, _, _, rfl, k1, T.c_Reach, T.no_Reach_size, rf_size _ _, _, rfl, x, _, dx, _, _, rfl, h1, T.c_Reach, T.no_Reach_size, rf_size _ _, rfl, _, rfl, ?_⟩
    exact iteNS rfl q
/-! ### Reach.__le__ -/
def spRLe (C : Addr) : Sp := fun vs H Q _ => ∃ (x y : Addr) (k : Nat) (ps qs : List Cnt), vs = [.ref x, .ref y] ∧ RchAt C H x k ps ∧ RchAt C H y k qs ∧ ∀ H', Same H H' → Q (.bl (ps.all fun c => qs.any (below c))) H'
theorem scRLe : FnScope ["self", "other", "count", "limit"] ["self", "other"] (defScope sRLe) := ⟨rfl, rfl, rfl, by decide +kernel, rfl, by decide +kernel, by decide +kernel⟩
theorem ok_rle (T : Tx K mg) : Ok P w K mg base 3 (He.ma K (He.ga K "Reach") "__le__") ["self", "other"] (spRLe (He.ga K "Reach")) := by
  refine ok_mk T.F_Reach_le scRLe (fun _ _ _ _ _ _ us hl => match us, hl with | [_, _], _ => rfl) (fun vs H Q E h => ?_) (fun cdv A outer s H vs Q E hr h => ?_)
  · obtain ⟨x, y, k, ps, qs, rfl, _⟩ := h
    rfl
  · obtain ⟨x, y, k, ps, qs, rfl, hx, hy, q⟩ := h
    obtain ⟨dx, pa, pvs, h1, h2, h3⟩ := hx.at_
    obtain ⟨dy, pb, qvs, k1, k2, k3⟩ := hy.at_
    refine ⟨_, pss_cons (ps_expr (pm (ok_rcheck T) (hr.mono (by decide)) T.c_Reach T.m_Reach_check (pv 0) (pa_cons (pv 1) pa_nil)))
      (pss_one (ps_ret (pe_callB (cr_all rfl) (by rfl) T.n_all (by decide +kernel) (pa_cons
        (pe_lc (own := [("count", 2)]) (g := gName 2) (tt := tYes) (te := tCB (rAny K) (tCons (tLc (iTup K (L2.tFld K (tVar 1) "peaks")) (gName 3) tYes (tCall spBelow [] E0 (tCons (tVar 2) (tCons (tVar 3) tNil))) [3]) tNil)) rfl scRLe.nd
          (pi_tup (pe_fld (pv 0) rfl)) (blkOk_by (own := [("count", 2)]) (N := ["self", "other", "count", "limit"]) (sc := defScope sRLe) (by decide +kernel))
          (fun _ _ _ _ _ => pg_name (i := 2) scRLe.nd rfl (Or.inr rfl)) (fun _ _ _ _ _ => pts_nil)
          (fun _ _ _ _ _ => pe_callB (cr_any rfl) (by rfl) T.n_any (by decide +kernel) (pa_cons
            (pe_lc (own := [("limit", 3)]) (g := gName 3) (tt := tYes) rfl scRLe.nd (pi_tup (pe_fld (pv 1) rfl)) (blkOk_by (own := [("limit", 3)]) (N := ["self", "other", "count", "limit"]) (sc := relS (lcOf ((defBody sRLe).getD 1 (.Pass ⟨0, 0, 0, 0⟩))) (defScope sRLe)) (by decide +kernel))
              (fun _ _ _ _ _ => pg_name (i := 3) scRLe.nd rfl (Or.inl rfl)) (fun _ _ _ _ _ => pts_nil) (fun _ _ _ _ _ => pc (ok_below T) (hr.mono (by decide)) T.g_is_below (pa_cons (pv 2) (pa_cons (pv 3) pa_nil)))) pa_nil))) pa_nil)))), ?_⟩
    refine ⟨_, rfl, x, dx, _, rfl, h1, rf_no _ _ (by decide +kernel) (by decide +kernel), _, rfl, x, y, k, ps, qs, rfl, hx, hy, ?_⟩
    refine ⟨_, rfl, x, _, dx, _, _, rfl, h1, T.c_Reach, T.no_Reach_peaks, rf_peaks _ _, pa, rfl, ⟨_, SqT.of h2⟩, ?_⟩
    refine lc_same0 (walk_tup (K := K) (xs := pvs)) (fun i acc _ => acc = ((ps.take i).map (fun c => qs.any (below c))).map V.bl) (by have := paired_len h3; have := hx.few; omega) (fun H' s => s.sqT (SqT.of h2)) (fun _ _ _ _ _ h => h) rfl
      (fun i y2 H2 H2' acc Kc hi s2 _ pr kc yy => ?_) (fun H2 D acc nD s2 eD lD pr => ?_)
    · obtain ⟨rfl, ey⟩ := yy
      obtain ⟨c, ec, hc⟩ := paired_get h3 ey
      obtain ⟨a, rfl, ea⟩ := hc.stay s2.stay
      refine ⟨rfl, _, rfl, y, _, dy, _, _, rfl, s2 _ _ k1, T.c_Reach, T.no_Reach_peaks, rf_peaks _ _, pb, rfl, ⟨_, SqT.of (s2 _ _ k2)⟩, ?_⟩
      refine lc_same0 (walk_tup (K := K) (xs := qvs)) (fun i acc _ => acc = ((qs.take i).map (below c)).map V.bl) (by have := paired_len k3; have := hy.few; omega) (fun H' s => s.sqT (SqT.of (s2 _ _ k2))) (fun _ _ _ _ _ h => h) rfl
        (fun j y3 H3 H3' acc3 Kc3 hj s3 _ pr3 kc3 yy => ?_) (fun H3 D3 acc3 nD3 s3 eD3 lD3 pr3 => ?_)
      · obtain ⟨rfl, ey3⟩ := yy
        obtain ⟨d, ed, hd⟩ := paired_get k3 ey3
        obtain ⟨b, rfl, eb⟩ := hd.stay (s2.trans s3).stay
        refine ⟨rfl, _, rfl, _, rfl, a, b, c, d, k, rfl, s3 _ _ ea, eb, (hx.val c (List.mem_of_getElem? ec)).len, (hy.val d (List.mem_of_getElem? ed)).len, hx.hi, fun H4 s4 => kc3 _ _ s4 ?_⟩
        rw [take_succ ed, pr3]
        simp
      · refine ⟨D3, _, rfl, SqL.of (pr3 ▸ eD3), ?_⟩
        rw [paired_len k3, List.take_length, any_below]
        refine kc _ _ s3 ?_
        rw [take_succ ec, pr]
        simp
    · refine ⟨D, _, rfl, SqL.of (pr ▸ eD), ?_⟩
      rw [paired_len h3, List.take_length]
      have e : ((ps.map fun c => qs.any (below c)).all id) = ps.all fun c => qs.any (below c) := by
        rw [List.all_map]
        rfl
      rw [e]
      exact q H2 s2
end
end K79
/-! ## KD7 -/
set_option maxRecDepth 100000
set_option maxHeartbeats 2000000
namespace K79
open PySem PySem.Spec PyProof.Rows L2
/-! ### what a card remembers -/
inductive Mem where
  | nothing
  | times (n : Nat)
def memV : Mem → List V
  | .nothing => [.str "nothing"]
  | .times n => [.str "times", .int n]
def memOk : Mem → Prop
  | .nothing => True
  | .times n => n ≤ 10 ^ 6
theorem tyX_sqT {K : PySem.W.Frag} {H : Hp} {a : Addr} {xs : List V} (h : SqT K H a xs) : TyX K H (.ref a) (.type "tuple") := by
  rcases h with (h | ⟨o, h⟩) | ⟨o, its, n, h1, h2, _⟩
  · exact .base (.tup h)
  · exact .fTuple h
  · exact .kTuple h1 h2
section
variable {P : Program} {w : World} {K : PySem.W.Frag} {mg : Str → Option Value} {base : Heap}
/-! ### is_sum -/
def sumB : Num → Bool
  | none => false
  | some m => decide (m ≤ 10 ^ 30)
def spIsSum : Sp := fun vs H Q _ => ∃ n : Num, vs = [cv n] ∧ Q (.bl (sumB n)) H
theorem scIsSum : FnScope ["value"] ["value"] (defScope sIsSum) := ⟨rfl, rfl, rfl, by decide +kernel, rfl, by decide +kernel, by decide +kernel⟩
theorem ok_isSum (T : Tx K mg) : Ok P w K mg base 2 (He.ga K "is_sum") ["value"] spIsSum := by
  refine ok_mk T.F_is_sum scIsSum (fun _ _ _ _ _ _ us hl => match us, hl with | [_], _ => rfl) (fun vs H Q E h => ?_) (fun cdv A outer s H vs Q E hr h => ?_)
  · obtain ⟨n, rfl, _⟩ := h
    rfl
  · obtain ⟨n, rfl, q⟩ := h
    obtain ⟨t, mM⟩ := T.i_MANY
    refine ⟨_, pss_one (ps_ret (pe_and (pc (ok_isInt T) hr T.g_is_integer (pa_cons (pv 0) pa_nil)) (pe_one (pe_chain op_le op_le pe_int (pv 0) (pe_glob (v := .int (10 ^ 30)) rfl mM ⟨_, rfl⟩))))), ?_⟩
    cases n with
    | none => exact ⟨_, rfl, .inr ⟨rfl, _, rfl, iteF q⟩⟩
    | some m =>
      refine ⟨_, rfl, .inl ⟨m, rfl, _, rfl, iteT ?_⟩⟩
      refine ⟨_, rfl, _, _, rfl, rfl, _, rfl, ?_⟩
      have e0 : decide ((0 : Int) ≤ (m : Int)) = true := decide_eq_true (by omega)
      rw [e0]
      refine iteT ⟨_, _, rfl, rfl, ?_⟩
      have e1 : decide ((m : Int) ≤ 10 ^ 30) = sumB (some m) := by
        show _ = decide (m ≤ 10 ^ 30)
        by_cases h : m ≤ 10 ^ 30
        · rw [decide_eq_true h]
          exact decide_eq_true (by omega)
        · rw [decide_eq_false h]
          exact decide_eq_false (by omega)
      rw [← e1] at q
      exact q
/-! ### are_sums -/
def spAreSums : Sp := fun vs H Q _ => ∃ (l : Addr) (os : List Num) (b : Bool), vs = [.ref l, .bl b] ∧ H l = some (.lst (os.map cv)) ∧ 1 ≤ os.length ∧ os.length ≤ 4 ∧ (∀ o ∈ os, sumB o = true ∨ (b = true ∧ o = none)) ∧ ∀ H', Same H H' → Q (.bl true) H'
theorem scAreSums : FnScope ["value", "lets_none", "one"] ["value", "lets_none"] (defScope sAreSums) := ⟨rfl, rfl, rfl, by decide +kernel, rfl, by decide +kernel, by decide +kernel⟩
theorem ok_areSums (T : Tx K mg) : Ok P w K mg base 3 (He.ga K "are_sums") ["value", "lets_none"] spAreSums := by
  refine ok_mk T.F_are_sums scAreSums (fun _ _ _ _ _ _ us hl => match us, hl with | [_, _], _ => rfl) (fun vs H Q E h => ?_) (fun cdv A outer s H vs Q E hr h => ?_)
  · obtain ⟨l, os, b, rfl, _⟩ := h
    rfl
  · obtain ⟨l, os, b, rfl, hl, h1, h4, hv, q⟩ := h
    refine ⟨_, pss_cons (ps_if (PW.pt (pw_or (pt_not (pt_val (pe_callB call_isiT (by rfl) T.n_isinstance (by decide +kernel) (pa_cons (pv 0) (pa_cons (pe_tup (pa_cons (pe_bltn (v := .ty "list") (by rfl) T.n_list (by decide +kernel) rfl) (pa_cons (pe_bltn (v := .ty "tuple") (by rfl) T.n_tuple (by decide +kernel) rfl) pa_nil))) pa_nil)))))
        (pw_or1 (pt_not (pt_chain op_le op_le pe_int (pe_callB call_len_seq (by rfl) T.n_len PySem.boot_len (pa_cons (pv 0) pa_nil)) pe_int))))) (pss_one (ps_ret pe_bl)) pss_nil)
      (pss_one (ps_ret (pe_callB (cr_all rfl) (by rfl) T.n_all (by decide +kernel) (pa_cons
        (pe_lc (own := [("one", 2)]) (g := gName 2) (tt := tYes) rfl scAreSums.nd (pi_list (pv 0)) (blkOk_by (own := [("one", 2)]) (N := ["value", "lets_none", "one"]) (sc := defScope sAreSums) (by decide +kernel))
          (fun _ _ _ _ _ => pg_name (i := 2) scAreSums.nd rfl (Or.inl rfl)) (fun _ _ _ _ _ => pts_nil)
          (fun _ _ _ _ _ => pe_or (pc (ok_isSum T) hr T.g_is_sum (pa_cons (pv 2) pa_nil)) (pe_one (pe_and (pv 1) (pe_one (pe_cmp (pc_isN (pv 2)) rfl)))))) pa_nil)))), ?_⟩
    refine ⟨_, rfl, small (by show 2 ≤ _; decide), fun tp np => ?_⟩
    have s0 := same_upd (o := .tup [.ty "list", .ty "tuple"]) np
    refine ⟨_, tp, [.ty "list", .ty "tuple"], _, [.type "list", .type "tuple"], true, rfl, upd_same, .cons (.ty _) (.cons (.ty _) .nil), .base (.lst (s0 _ _ hl)), kit_seqL, _, rfl, iteF ?_⟩
    refine ⟨_, rfl, l, _, rfl, .inl (SqL.of (s0 _ _ hl)), _, _, rfl, rfl, _, rfl, ?_⟩
    have e1 : decide ((1 : Int) ≤ (((os.map cv).length : Nat) : Int)) = true := decide_eq_true (by rw [List.length_map]; omega)
    have e4 : decide ((((os.map cv).length : Nat) : Int) ≤ 4) = true := decide_eq_true (by rw [List.length_map]; omega)
    rw [e1]
    refine iteT ⟨_, _, rfl, rfl, _, rfl, ?_⟩
    rw [e4]
    refine iteF ?_
    refine ⟨_, rfl, l, rfl, ⟨_, SqL.of (s0 _ _ hl)⟩, lc_same0 (walk_list (K := K) (xs := os.map cv)) (fun i acc _ => acc = (List.replicate i true).map V.bl) (by rw [List.length_map]; omega) (fun H' s => s.seq (SqL.of (s0 _ _ hl))) (fun _ _ _ _ _ h => h) rfl
      (fun i x H1 H' acc Kc hi sm _ p kc y => ?_) (fun H' D acc nD sm eD _ p => ?_)⟩
    · obtain ⟨rfl, ex⟩ := y
      obtain ⟨o, eo, rfl⟩ := get_map ex
      have fin : Kc (.bl true) H' := kc _ _ (Same.refl _) (by rw [p, List.replicate_succ', List.map_append]; rfl)
      refine ⟨rfl, _, rfl, o, rfl, _, rfl, ?_⟩
      rcases hv o (List.mem_of_getElem? eo) with h | ⟨rfl, rfl⟩
      · rw [h]
        exact iteT fin
      · exact iteF ⟨_, rfl, _, rfl, iteT ⟨_, rfl, fin⟩⟩
    · refine ⟨D, _, rfl, SqL.of (p ▸ eD), ?_⟩
      rw [all_true]
      exact q H' (s0.trans sm)
/-! ### has_kind -/
def spKind : Sp := fun vs H Q _ => ∃ (a : Addr) (z kd : Str) (m : Int) (rest : List V), vs = [.ref a, .str kd, .int m] ∧ SqT K H a (.str z :: rest) ∧ rest.length ≤ 3 ∧ Q (.bl (decide ((rest.length : Int) + 1 = m ∧ z = kd))) H
theorem scKind : FnScope ["value", "kind", "many"] ["value", "kind", "many"] (defScope sKind) := ⟨rfl, rfl, rfl, by decide +kernel, rfl, by decide +kernel, by decide +kernel⟩
theorem ok_kind (T : Tx K mg) : Ok P w K mg base 1 (He.ga K "has_kind") ["value", "kind", "many"] (spKind (K := K)) := by
  refine ok_mk T.F_has_kind scKind (fun _ _ _ _ _ _ us hl => match us, hl with | [_, _, _], _ => rfl) (fun vs H Q E h => ?_) (fun cdv A outer s H vs Q E hr h => ?_)
  · obtain ⟨a, z, kd, m, rest, rfl, _⟩ := h
    rfl
  · obtain ⟨a, z, kd, m, rest, rfl, ha, hl, q⟩ := h
    refine ⟨_, pss_one (ps_ret (pe_and (pe_callB call_isi (by rfl) T.n_isinstance (by decide +kernel) (pa_cons (pv 0) (pa_cons (pe_bltn (v := .ty "tuple") (by rfl) T.n_tuple (by decide +kernel) rfl) pa_nil)))
      (pe_and (pe_cmpR op_eq (pe_callB call_len_seq (by rfl) T.n_len PySem.boot_len (pa_cons (pv 0) pa_nil)) (pv 2) (nomark _))
      (pe_and (pe_callB call_isi (by rfl) T.n_isinstance (by decide +kernel) (pa_cons (pe_ix ix_tup (pv 0) pe_int (fun _ _ => rfl)) (pa_cons (pe_bltn (v := .ty "str") (by rfl) T.n_str (by decide +kernel) rfl) pa_nil)))
      (pe_one (pe_cmpR op_eq (pe_ix ix_tup (pv 0) pe_int (fun _ _ => rfl)) (pv 1) (nomark _))))))), ?_⟩
    refine ⟨_, rfl, _, _, _, _, _, rfl, .ty _, tyX_sqT ha, kit_tt, _, rfl, iteT ?_⟩
    refine ⟨_, rfl, a, _, rfl, .inr ha, _, rfl, rfl, _, rfl, ?_⟩
    by_cases h1 : (rest.length : Int) + 1 = m
    · have e1 : decide (V.int (((V.str z :: rest).length : Nat) : Int) = V.int m) = true := decide_eq_true (by rw [List.length_cons, ← h1]; rfl)
      rw [e1]
      refine iteT ?_
      refine ⟨_, rfl, a, _, _, .str z, rfl, rfl, ha, atI_nat (j := 0) rfl, _, _, _, _, _, rfl, .ty _, .base (.str z), kit_ss, _, rfl, iteT ?_⟩
      refine ⟨_, rfl, a, _, _, .str z, rfl, rfl, ha, atI_nat (j := 0) rfl, _, rfl, rfl, ?_⟩
      have e2 : decide ((rest.length : Int) + 1 = m ∧ z = kd) = decide (V.str z = V.str kd) := by
        by_cases h2 : z = kd
        · subst h2
          simp [h1]
        · simp [h1, h2]
      rw [e2] at q
      exact q
    · have e1 : decide (V.int (((V.str z :: rest).length : Nat) : Int) = V.int m) = false := decide_eq_false (fun e => h1 (by
        have e' := V.int.inj e
        simp only [List.length_cons] at e'
        omega))
      rw [e1]
      refine iteF ?_
      have e2 : decide ((rest.length : Int) + 1 = m ∧ z = kd) = false := decide_eq_false (fun e => h1 e.1)
      rw [e2] at q
      exact q
/-! ### is_kept -/
def spKept (K : PySem.W.Frag) : Sp := fun vs H Q _ => ∃ (a : Addr) (m : Mem), vs = [.ref a] ∧ SqT K H a (memV m) ∧ memOk m ∧ Q (.bl true) H
theorem scKept : FnScope ["value"] ["value"] (defScope sIsKept) := ⟨rfl, rfl, rfl, by decide +kernel, rfl, by decide +kernel, by decide +kernel⟩
theorem ok_kept (T : Tx K mg) : Ok P w K mg base 3 (He.ga K "is_kept") ["value"] (spKept K) := by
  refine ok_mk T.F_is_kept scKept (fun _ _ _ _ _ _ us hl => match us, hl with | [_], _ => rfl) (fun vs H Q E h => ?_) (fun cdv A outer s H vs Q E hr h => ?_)
  · obtain ⟨a, m, rfl, _⟩ := h
    rfl
  · obtain ⟨a, m, rfl, ha, hm, q⟩ := h
    refine ⟨_, pss_cons (ps_if (pt_val (pc (ok_kind T) (hr.mono (by decide)) T.g_has_kind (pa_cons (pv 0) (pa_cons pe_str (pa_cons pe_int pa_nil))))) (pss_one (ps_ret pe_bl)) pss_nil)
      (pss_one (ps_ret (pe_and (pe_or (pc (ok_kind T) (hr.mono (by decide)) T.g_has_kind (pa_cons (pv 0) (pa_cons pe_str (pa_cons pe_int pa_nil)))) (pe_one (pc (ok_kind T) (hr.mono (by decide)) T.g_has_kind (pa_cons (pv 0) (pa_cons pe_str (pa_cons pe_int pa_nil))))))
        (pe_one (pc (ok_isSum T) hr T.g_is_sum (pa_cons (pe_ix ix_tup (pv 0) pe_int (fun _ _ => rfl)) pa_nil)))))), ?_⟩
    cases m with
    | nothing => exact ⟨_, rfl, a, _, _, _, [], rfl, ha, by simp, _, rfl, iteT q⟩
    | times n =>
      refine ⟨_, rfl, a, _, _, _, [.int n], rfl, ha, by simp, _, rfl, iteF ?_⟩
      refine ⟨_, rfl, a, _, _, _, [.int n], rfl, ha, by simp, _, rfl, iteT ⟨_, rfl, iteT ?_⟩⟩
      refine ⟨_, rfl, a, _, _, .int n, rfl, rfl, ha, atI_nat (j := 1) rfl, some n, rfl, ?_⟩
      have e : sumB (some n) = true := decide_eq_true (Nat.le_trans (show n ≤ 10 ^ 6 from hm) (by decide))
      rw [e]
      exact q
end
end K79
/-! ## KD8 -/
set_option maxRecDepth 100000
set_option maxHeartbeats 2000000
namespace K79
open PySem PySem.Spec PyProof.Rows L2
/-! ### an allowance's fields -/
theorem od_ : ¬ (("by_outage" : Str) = "by_day") := by decide +kernel
theorem do_ : ¬ (("by_day" : Str) = "by_outage") := by decide +kernel
theorem md_ : ¬ (("memory" : Str) = "by_day") := by decide +kernel
theorem dm_ : ¬ (("by_day" : Str) = "memory") := by decide +kernel
theorem mo_ : ¬ (("memory" : Str) = "by_outage") := by decide +kernel
theorem om_ : ¬ (("by_outage" : Str) = "memory") := by decide +kernel
def af (da oa ma : Addr) : List (Str × V) := putF "memory" (.ref ma) (putF "by_outage" (.ref oa) (putF "by_day" (.ref da) []))
theorem af_mem (da oa ma : Addr) : (af da oa ma).lookup ("memory" : Str) = some (.ref ma) := by
  unfold af
  rw [lookup_putF, if_pos rfl]
theorem af_out (da oa ma : Addr) : (af da oa ma).lookup ("by_outage" : Str) = some (.ref oa) := by
  unfold af
  rw [lookup_putF, if_neg om_, lookup_putF, if_pos rfl]
theorem af_day (da oa ma : Addr) : (af da oa ma).lookup ("by_day" : Str) = some (.ref da) := by
  unfold af
  rw [lookup_putF, if_neg dm_, lookup_putF, if_neg do_, lookup_putF, if_pos rfl]
theorem af_no (da oa ma : Addr) {m : Str} (h1 : ¬ m = "memory") (h2 : ¬ m = "by_outage") (h3 : ¬ m = "by_day") : (af da oa ma).lookup m = none := by
  unfold af
  rw [lookup_putF, if_neg h1, lookup_putF, if_neg h2, lookup_putF, if_neg h3]
  rfl
def dv (l : Nat) : V := .int (l : Nat)
theorem dv_cv (days : List Nat) : days.map dv = (days.map some).map cv := by
  rw [List.map_map]
  rfl
/-- at x: an allowance -/
structure AlwAt (K : PySem.W.Frag) (C : Addr) (H : Hp) (x : Addr) (days : List Nat) (outs : List Num) (mem : Mem) : Prop where
  at_ : ∃ dx da oa ma, H x = some (.ins C dx (af da oa ma)) ∧ H da = some (.tup (days.map dv)) ∧ H oa = some (.tup (outs.map cv)) ∧ SqT K H ma (memV mem)
  lo : 1 ≤ days.length
  hi : days.length ≤ 4
  len : outs.length = days.length
  few : ∀ l ∈ days, l ≤ 1000
  mok : memOk mem
theorem AlwAt.stay {K : PySem.W.Frag} {C : Addr} {H H' : Hp} {x : Addr} {days : List Nat} {outs : List Num} {mem : Mem} (r : AlwAt K C H x days outs mem) (s : Stay H H') : AlwAt K C H' x days outs mem :=
  ⟨let ⟨dx, da, oa, ma, h1, h2, h3, h4⟩ := r.at_; ⟨dx, da, oa, ma, s x _ nl_ins h1, s.tup h2, s.tup h3, s.sqT h4⟩, r.lo, r.hi, r.len, r.few, r.mok⟩
theorem rep_flat (v : V) : ∀ k : Nat, (List.replicate k [v]).flatten = List.replicate k v
  | 0 => rfl
  | k + 1 => by
    rw [List.replicate_succ, List.flatten_cons, rep_flat v k]
    rfl
/-- (None,) * k -/
theorem rep_none {K : PySem.W.Frag} {H : Hp} {z : Addr} {k : Nat} {C : VK} (hz : H z = some (.tup [.non])) (h1 : 1 ≤ k) (h4 : k ≤ 4) (h : ∀ za H', Same H H' → H' za = some (.tup ((List.replicate k none).map cv)) → C (.ref za) H') :
    rRep1 K (.ref z) (.int k) H C ∨ rRepT K (.ref z) (.int k) H C := by
  by_cases e : k = 1
  · subst e
    exact .inl ⟨z, _, rfl, rfl, hz, by simp, h z H (Same.refl _) hz⟩
  · refine .inr ⟨z, k, [.non], rfl, rfl, SqT.of hz, by simp, by omega, by omega, by simp, fun p np => ?_⟩
    rw [Int.toNat_natCast, rep_flat]
    refine h p _ (same_upd np) ?_
    rw [upd_same, List.map_replicate]
    rfl
abbrev rTupOf (K : PySem.W.Frag) : List V → Hp → VK → Prop := fun xs H Q => ∃ p ys, xs = [.ref p] ∧ ((SqL K H p ys ∧ ∀ l, H l = none → Q (.ref l) (upd H l (.tup ys))) ∨ (SqT K H p ys ∧ Q (.ref p) H))
abbrev rLenSeq (K : PySem.W.Frag) : List V → Hp → VK → Prop := fun xs H Q => ∃ p ys, xs = [.ref p] ∧ (SqL K H p ys ∨ SqT K H p ys) ∧ Q (.int ys.length) H
abbrev rRep (K : PySem.W.Frag) : R2 := fun x y H Q => rRep1 K x y H Q ∨ rRepT K x y H Q
/-- (None,) * len(days) if outages is None else tuple(outages) -/
theorem out_reading {K : PySem.W.Frag} {σ : L2.St} {H : Hp} {C : VK} {d : Addr} {o : V} {days : List Nat} {outs : List Num} (e1 : σ[1]? = some (some (.ref d))) (e2 : σ[2]? = some (some o)) (hd : H d = some (.lst (days.map dv)))
    (h1 : 1 ≤ days.length) (h4 : days.length ≤ 4) (ho : (o = .non ∧ outs = List.replicate days.length none) ∨ ∃ ol, o = .ref ol ∧ H ol = some (.lst (outs.map cv))) (q : ∀ oa H', Same H H' → H' oa = some (.tup (outs.map cv)) → C (.ref oa) H') :
    tIf (tB (tIsN (tVar 2))) (tOp (rRep K) (tTup (tCons (tC .non) tNil)) (tCB (rLenSeq K) (tCons (tVar 1) tNil))) (tCB (rTupOf K) (tCons (tVar 2) tNil)) σ H C := by
  rcases ho with ⟨rfl, rfl⟩ | ⟨ol, rfl, hol⟩
  · refine ⟨_, e2, _, rfl, iteT ⟨small (by show 1 ≤ _; decide), fun z nz => ?_⟩⟩
    have s1 := same_upd (o := .tup [.non]) nz
    refine ⟨_, e1, d, _, rfl, .inl (SqL.of (s1 _ _ hd)), ?_⟩
    rw [List.length_map]
    exact rep_none upd_same h1 h4 fun za H' s2 ez => q za H' (s1.trans s2) ez
  · exact ⟨_, e2, _, rfl, iteF ⟨_, e2, ol, _, rfl, .inl ⟨SqL.of hol, fun t nt => q t _ (same_upd nt) upd_same⟩⟩⟩
section
variable {P : Program} {w : World} {K : PySem.W.Frag} {mg : Str → Option Value} {base : Heap}
/-! ### Allowance.__init__ -/
def spAInit (K : PySem.W.Frag) (C : Addr) : Sp := fun vs H Q _ => ∃ (x dx d m : Addr) (o : V) (days : List Nat) (outs : List Num) (mem : Mem), vs = [.ref x, .ref d, o, .ref m] ∧ H x = some (.ins C dx []) ∧ H d = some (.lst (days.map dv)) ∧
  ((o = .non ∧ outs = List.replicate days.length none) ∨ ∃ ol, o = .ref ol ∧ H ol = some (.lst (outs.map cv))) ∧ outs.length = days.length ∧ 1 ≤ days.length ∧ days.length ≤ 4 ∧ (∀ l ∈ days, l ≤ 1000) ∧ (∀ z ∈ outs, sumB z = true ∨ z = none) ∧ SqT K H m (memV mem) ∧ memOk mem ∧
  ∀ H', (∀ b o, b ≠ x → H b = some o → H' b = some o) → AlwAt K C H' x days outs mem → Q .non H'
theorem scAInit : FnScope ["self", "days", "outages", "memory"] ["self", "days", "outages", "memory"] (defScope sAInit) := ⟨rfl, rfl, rfl, by decide +kernel, rfl, by decide +kernel, by decide +kernel⟩
theorem ok_ainit (T : Tx K mg) : ∃ fd, FunD K "__init__" "Allowance.__init__" (defArgs sAInit) (defBody sAInit) (defScope sAInit) [] [("outages", .non), ("memory", .ref (memAt K))] (He.ma K (He.ga K "Allowance") "__init__") fd ∧
    FnOk P w K mg base CX0 4 (He.ma K (He.ga K "Allowance") "__init__") fd ["self", "days", "outages", "memory"] (spAInit K (He.ga K "Allowance")) := by
  obtain ⟨fd, F⟩ := T.F_Allowance_init
  refine ⟨fd, F, F.ok scAInit (fun vs H Q E h => ?_) (fun cdv A outer s H vs Q E hr h => ?_)⟩
  · obtain ⟨x, dx, d, m, o, days, outs, mem, rfl, _⟩ := h
    rfl
  · obtain ⟨x, dx, d, m, o, days, outs, mem, rfl, hx, hd, ho, hlen, h1, h4, hfew, hsum, hm, hmok, q⟩ := h
    refine ⟨_, PSs.nox (pss_cons (ps_if (pt_not (pt_val (pc (ok_areSums T) hr T.g_are_sums (pa_cons (pv 1) (pa_cons pe_bl pa_nil))))) (pss_one ps_never) pss_nil)
      (pss_cons (ps_if (PW.pt (pw_and (pt_cmp (pc_notN (pv 2)) rfl) (pw_and1 (PW.pt (pw_or (pt_not (pt_val (pc (ok_areSums T) hr T.g_are_sums (pa_cons (pv 2) (pa_cons pe_bl pa_nil)))))
          (pw_or1 (pt_cmpR op_ne (pe_callB call_len_seq (by rfl) T.n_len PySem.boot_len (pa_cons (pv 2) pa_nil)) (pe_callB call_len_seq (by rfl) T.n_len PySem.boot_len (pa_cons (pv 1) pa_nil)) (nomark _)))))))) (pss_one ps_never) pss_nil)
      (pss_cons (ps_if (pt_not (pt_val (pc (ok_kept T) hr T.g_is_kept (pa_cons (pv 3) pa_nil)))) (pss_one ps_never) pss_nil)
      (pss_cons (ps_fld (pv 0) (pe_callTy call_tuple_of (by rfl) T.n_tuple (by decide +kernel) (pa_cons (pv 1) pa_nil)) rfl)
      (pss_cons (ps_fld (pv 0) (pe_ifExp (pt_cmp (pc_isN (pv 2)) rfl) (pe_op (OpR.or op_rep1 op_repT) (pe_tup (pa_cons pe_non pa_nil)) (pe_callB call_len_seq (by rfl) T.n_len PySem.boot_len (pa_cons (pv 1) pa_nil))) (pe_callTy call_tuple_of (by rfl) T.n_tuple (by decide +kernel) (pa_cons (pv 2) pa_nil))) rfl)
      (pss_one (ps_fld (pv 0) (pv 3) rfl))))))), ?_⟩
    -- the looks
    refine ⟨_, rfl, d, days.map some, false, rfl, (by rw [← dv_cv]; exact hd), (by rw [List.length_map]; exact h1), (by rw [List.length_map]; exact h4), fun z hz => ?_, fun H1 s1 => ⟨_, rfl, iteF ?_⟩⟩
    · obtain ⟨l, hl, rfl⟩ := List.mem_map.mp hz
      exact .inl (decide_eq_true (Nat.le_trans (hfew l hl) (by decide)))
    have key : ∀ H2, Same H H2 → (tSeq (tIfS (tNot (tB (tCall (spKept K) [] E0 (tCons (tVar 3) tNil)))) tNever tNext) (tSeq (sFld K (tVar 0) (tCB (rTupOf K) (tCons (tVar 1) tNil)) "by_day")
        (tSeq (sFld K (tVar 0) (tIf (tB (tIsN (tVar 2))) (tOp (rRep K) (tTup (tCons (tC .non) tNil)) (tCB (rLenSeq K) (tCons (tVar 1) tNil))) (tCB (rTupOf K) (tCons (tVar 2) tNil))) "by_outage")
          (sFld K (tVar 0) (tVar 3) "memory")))) { nx := fun _ H' => Q .non H', rt := Q } (L2.start ["self", "days", "outages", "memory"] [.ref x, .ref d, o, .ref m]) H2 := by
      intro H2 s2
      refine ⟨_, rfl, m, mem, rfl, s2.sqT hm, hmok, _, rfl, iteF ?_⟩
      refine ⟨_, rfl, d, _, rfl, .inl ⟨s2.seq (SqL.of hd), fun t1 n1 => ?_⟩⟩
      have s3 := s2.trans (same_upd (o := .tup (days.map dv)) n1)
      have e3 : upd H2 t1 (.tup (days.map dv)) t1 = some (.tup (days.map dv)) := upd_same
      generalize upd H2 t1 (.tup (days.map dv)) = H3 at s3 e3 ⊢
      refine ⟨_, rfl, x, _, dx, [], rfl, s3 _ _ hx, T.c_Allowance, T.no_Allowance_by_day, (by show 0 < 1000; decide), ?_⟩
      have k4 : ∀ b o, b ≠ x → H b = some o → upd H3 x (.ins (He.ga K "Allowance") dx (putF "by_day" (.ref t1) [])) b = some o := fun b o hb e => by
        rw [upd_ne hb]
        exact s3 _ _ e
      have t4 : upd H3 x (.ins (He.ga K "Allowance") dx (putF "by_day" (.ref t1) [])) t1 = some (.tup (days.map dv)) := by
        rw [upd_ne (ne_of e3 (s3 _ _ hx) (by intro z; cases z))]
        exact e3
      have x4 : upd H3 x (.ins (He.ga K "Allowance") dx (putF "by_day" (.ref t1) [])) x = some (.ins (He.ga K "Allowance") dx (putF "by_day" (.ref t1) [])) := upd_same
      generalize upd H3 x (.ins (He.ga K "Allowance") dx (putF "by_day" (.ref t1) [])) = H4 at k4 t4 x4 ⊢
      refine out_reading rfl rfl (k4 d _ (ne_of hd hx (by intro z; cases z)) hd) h1 h4 (ho.imp id fun ⟨ol, e, z⟩ => ⟨ol, e, k4 ol _ (ne_of z hx (by intro y; cases y)) z⟩) fun oa H5 s5 e5 => ?_
      refine ⟨_, rfl, x, _, dx, _, rfl, s5 _ _ x4, T.c_Allowance, T.no_Allowance_by_outage, (by show (putF "by_day" (V.ref t1) []).length < 1000; simp [putF]), ?_⟩
      have k6 : ∀ b o, b ≠ x → H b = some o → upd H5 x (.ins (He.ga K "Allowance") dx (putF "by_outage" (.ref oa) (putF "by_day" (.ref t1) []))) b = some o := fun b o hb e => by
        rw [upd_ne hb]
        exact s5 _ _ (k4 b o hb e)
      have t6 : upd H5 x (.ins (He.ga K "Allowance") dx (putF "by_outage" (.ref oa) (putF "by_day" (.ref t1) []))) t1 = some (.tup (days.map dv)) := by
        rw [upd_ne (ne_of (s5 _ _ t4) (s5 _ _ x4) (by intro z; cases z))]
        exact s5 _ _ t4
      have o6 : upd H5 x (.ins (He.ga K "Allowance") dx (putF "by_outage" (.ref oa) (putF "by_day" (.ref t1) []))) oa = some (.tup (outs.map cv)) := by
        rw [upd_ne (ne_of e5 (s5 _ _ x4) (by intro z; cases z))]
        exact e5
      have x6 : upd H5 x (.ins (He.ga K "Allowance") dx (putF "by_outage" (.ref oa) (putF "by_day" (.ref t1) []))) x = some (.ins (He.ga K "Allowance") dx (putF "by_outage" (.ref oa) (putF "by_day" (.ref t1) []))) := upd_same
      generalize upd H5 x (.ins (He.ga K "Allowance") dx (putF "by_outage" (.ref oa) (putF "by_day" (.ref t1) []))) = H6 at k6 t6 o6 x6 ⊢
      refine ⟨_, rfl, _, rfl, x, _, dx, _, rfl, x6, T.c_Allowance, T.no_Allowance_memory, (by show (putF "by_outage" (V.ref oa) (putF "by_day" (V.ref t1) [])).length < 1000; simp [putF]; split <;> simp), ?_⟩
      have ntx : t1 ≠ x := ne_of t6 x6 (by intro z; cases z)
      have nox : oa ≠ x := ne_of o6 x6 (by intro z; cases z)
      refine q _ (fun b o hb e => ?_) ⟨⟨dx, t1, oa, m, upd_same, ?_, ?_, ?_⟩, h1, h4, hlen, hfew, hmok⟩
      · rw [upd_ne hb]
        exact k6 b o hb e
      · rw [upd_ne ntx]
        exact t6
      · rw [upd_ne nox]
        exact o6
      · rcases hm with (e | ⟨ob, e⟩) | e
        · refine .inl (.inl ?_)
          have nmx : m ≠ x := ne_of e hx (by intro z; cases z)
          rw [upd_ne nmx]
          exact k6 m _ nmx e
        · refine .inl (.inr ⟨ob, ?_⟩)
          have nmx : m ≠ x := ne_of e hx (by intro z; cases z)
          rw [upd_ne nmx]
          exact k6 m _ nmx e
        · exact .inr e
    rcases id ho with ⟨rfl, _⟩ | ⟨ol, rfl, hol⟩
    · exact ⟨_, rfl, _, rfl, iteF (iteF (key H1 s1))⟩
    · refine ⟨_, rfl, _, rfl, iteT ?_⟩
      refine ⟨_, rfl, ol, outs, true, rfl, s1 _ _ hol, by omega, by omega, fun z hz => (hsum z hz).imp id fun e => ⟨rfl, e⟩, fun H2 s2 => ⟨_, rfl, iteF ?_⟩⟩
      have s3 := s1.trans s2
      refine ⟨_, rfl, ol, _, rfl, .inl (SqL.of (s3 _ _ hol)), _, rfl, d, _, rfl, .inl (SqL.of (s3 _ _ hd)), rfl, _, rfl, ?_⟩
      refine iteNS ?_ (key H2 s3)
      rw [List.length_map, List.length_map, hlen]
end
end K79
/-! ## KD9 -/
set_option maxRecDepth 100000
set_option maxHeartbeats 2000000
namespace K79
open PySem PySem.Spec PyProof.Rows L2
def rowV (r : Row) : List V := [.int (r.1 : Nat), cv r.2.1, .int (r.2.2 : Nat)]
theorem cv_zero (n : Num) : decide (cv n = .int 0) = decide (n = some 0) := by
  cases n with
  | none => simp [cv]
  | some m =>
    by_cases h : m = 0
    · subst h
      simp [cv]
    · have h2 : ¬ ((m : Int) = 0) := by omega
      simp [cv, h, h2]
theorem scal_cv (n : Num) (i : Int) : scal (cv n) (.int i) = true := by cases n <;> rfl
section
variable {P : Program} {w : World} {K : PySem.W.Frag} {mg : Str → Option Value} {base : Heap}
/-! ### Allowance.__len__ -/
def spALen (K : PySem.W.Frag) (C : Addr) : Sp := fun vs H Q _ => ∃ (x : Addr) (days : List Nat) (outs : List Num) (mem : Mem), vs = [.ref x] ∧ AlwAt K C H x days outs mem ∧ Q (.int days.length) H
theorem scALen : FnScope ["self"] ["self"] (defScope sALen) := ⟨rfl, rfl, rfl, by decide +kernel, rfl, by decide +kernel, by decide +kernel⟩
theorem ok_alen (T : Tx K mg) : Ok P w K mg base 1 (He.ma K (He.ga K "Allowance") "__len__") ["self"] (spALen K (He.ga K "Allowance")) := by
  refine ok_mk T.F_Allowance_len scALen (fun _ _ _ _ _ _ us hl => match us, hl with | [_], _ => rfl) (fun vs H Q E h => ?_) (fun cdv A outer s H vs Q E hr h => ?_)
  · obtain ⟨x, days, outs, mem, rfl, _⟩ := h
    rfl
  · obtain ⟨x, days, outs, mem, rfl, hx, q⟩ := h
    obtain ⟨dx, da, oa, ma, h1, h2, h3, h4⟩ := hx.at_
    refine ⟨_, pss_one (ps_ret (pe_callB call_len_seq (by rfl) T.n_len PySem.boot_len (pa_cons (pe_fld (pv 0) rfl) pa_nil))), ?_⟩
    refine ⟨_, rfl, x, _, dx, _, _, rfl, h1, T.c_Allowance, T.no_Allowance_by_day, af_day _ _ _, da, _, rfl, .inr (SqT.of h2), ?_⟩
    rw [List.length_map]
    exact q
/-! ### Allowance.payments -/
def spAPay (K : PySem.W.Frag) (C : Addr) : Sp := fun vs H Q _ => ∃ (x : Addr) (days : List Nat) (outs : List Num) (mem : Mem) (i l : Nat) (o n : Num), vs = [.ref x, .int i, cv n] ∧ AlwAt K C H x days outs mem ∧ days[i]? = some l ∧ outs[i]? = some o ∧
  ∀ p, H p = none → Q (.ref p) (upd H p (.tup (rowV (payN l o n))))
theorem scAPay : FnScope ["self", "area", "number", "limit", "most"] ["self", "area", "number"] (defScope sAPay) := ⟨rfl, rfl, rfl, by decide +kernel, rfl, by decide +kernel, by decide +kernel⟩
theorem ok_apay (T : Tx K mg) : Ok P w K mg base 1 (He.ma K (He.ga K "Allowance") "payments") ["self", "area", "number"] (spAPay K (He.ga K "Allowance")) := by
  refine ok_mk T.F_Allowance_payments scAPay (fun _ _ _ _ _ _ us hl => match us, hl with | [_, _, _], _ => rfl) (fun vs H Q E h => ?_) (fun cdv A outer s H vs Q E hr h => ?_)
  · obtain ⟨x, days, outs, mem, i, l, o, n, rfl, _⟩ := h
    rfl
  · obtain ⟨x, days, outs, mem, i, l, o, n, rfl, hx, hl, ho, q⟩ := h
    obtain ⟨dx, da, oa, ma, h1, h2, h3, h4⟩ := hx.at_
    have few := hx.few l (List.mem_of_getElem? hl)
    refine ⟨_, pss_cons (ps_par (i := 3) (j := 4) rfl scAPay.nd rfl rfl (by decide) rfl rfl (pa_cons (pe_ix ix_tup (pe_fld (pv 0) rfl) (pv 1) (fun _ _ => rfl)) (pa_cons (pe_ix ix_tup (pe_fld (pv 0) rfl) (pv 1) (fun _ _ => rfl)) pa_nil)) (by rfl))
      (pss_cons (ps_if (PW.pt (pw_or (pt_cmpR op_eq (pv 3) pe_int (nomark _)) (pw_or (pt_cmpR op_eq (pv 2) pe_int (nomark _)) (pw_or1 (pt_cmpR op_eq (pv 4) pe_int (nomark _)))))) (pss_one (ps_ret (pe_tup (pa_cons (pv 3) (pa_cons pe_int (pa_cons pe_int pa_nil)))))) pss_nil)
      (pss_cons (ps_if (pt_cmp (pc_isN (pv 4)) rfl) (pss_one (ps_ret (pe_tup (pa_cons (pv 3) (pa_cons (pv 2) (pa_cons pe_int pa_nil)))))) pss_nil)
      (pss_cons (ps_if (PW.pt (pw_or (pt_cmp (pc_isN (pv 2)) rfl) (pw_or1 (pt_cmpR op_ge (pe_op op_mul (pv 2) (pv 3)) (pv 4) (nomark _)))))
          (pss_one (ps_ret (pe_tup (pa_cons (pv 3) (pa_cons (pe_op op_fdiv (pv 4) (pv 3)) (pa_cons (pe_op op_mod (pe_callTy call_int1 (by rfl) T.n_int (by decide +kernel) (pa_cons (pv 4) pa_nil)) (pv 3)) pa_nil)))))) pss_nil)
      (pss_one (ps_ret (pe_tup (pa_cons (pv 3) (pa_cons (pv 2) (pa_cons pe_int pa_nil))))))))), ?_⟩
    refine ⟨_, rfl, x, _, dx, _, _, rfl, h1, T.c_Allowance, T.no_Allowance_by_day, af_day _ _ _, _, rfl, da, _, _, dv l, rfl, rfl, SqT.of h2, atI_nat (j := i) (by rw [List.getElem?_map, hl]; rfl), ?_⟩
    refine ⟨_, rfl, x, _, dx, _, _, rfl, h1, T.c_Allowance, T.no_Allowance_by_outage, af_out _ _ _, _, rfl, oa, _, _, cv o, rfl, rfl, SqT.of h3, atI_nat (j := i) (by rw [List.getElem?_map, ho]; rfl), ?_⟩
    refine ⟨_, _, rfl, ?_⟩
    have s3 : 3 ≤ sizeLine := small (by decide)
    -- limit == 0 or number == 0 or most == 0
    refine ⟨_, rfl, rfl, _, rfl, ?_⟩
    have el : decide (dv l = .int 0) = decide (l = 0) := by
      have := cv_zero (some l)
      simp only [Option.some.injEq] at this
      exact this
    by_cases hz : l = 0 ∨ n = some 0 ∨ o = some 0
    · have e : payN l o n = (l, some 0, 0) := by
        unfold payN
        rw [if_pos hz]
      rw [e] at q
      have fin : tRet (tTup (tCons (tVar 3) (tCons (tC (.int 0)) (tCons (tC (.int 0)) tNil)))) { nx := fun _ H' => Q .non H', rt := Q } (((L2.start ["self", "area", "number", "limit", "most"] [.ref x, .int i, cv n]).set 3 (some (dv l))).set 4 (some (cv o))) H := ⟨_, rfl, s3, fun p np => q p np⟩
      rw [el]
      by_cases hl0 : l = 0
      · rw [decide_eq_true hl0]
        exact iteT (iteT fin)
      · rw [decide_eq_false hl0]
        refine iteF ⟨_, rfl, scal_cv _ _, _, rfl, ?_⟩
        rw [cv_zero]
        by_cases hn0 : n = some 0
        · rw [decide_eq_true hn0]
          exact iteT (iteT fin)
        · rw [decide_eq_false hn0]
          refine iteF ⟨_, rfl, scal_cv _ _, _, rfl, ?_⟩
          rw [cv_zero]
          have ho0 : o = some 0 := hz.elim (fun z => absurd z hl0) fun z => z.elim (fun z => absurd z hn0) id
          rw [decide_eq_true ho0]
          exact iteT fin
    · have hl0 : ¬ l = 0 := fun z => hz (.inl z)
      have hn0 : ¬ n = some 0 := fun z => hz (.inr (.inl z))
      have ho0 : ¬ o = some 0 := fun z => hz (.inr (.inr z))
      rw [el, decide_eq_false hl0]
      refine iteF ⟨_, rfl, scal_cv _ _, _, rfl, ?_⟩
      rw [cv_zero, decide_eq_false hn0]
      refine iteF ⟨_, rfl, scal_cv _ _, _, rfl, ?_⟩
      rw [cv_zero, decide_eq_false ho0]
      refine iteF ?_
      cases o with
      | none =>
        have e : payN l none n = (l, n, 0) := by
          unfold payN
          rw [if_neg hz]
        rw [e] at q
        exact ⟨_, rfl, _, rfl, iteT ⟨_, rfl, _, rfl, s3, fun p np => q p np⟩⟩
      | some m =>
        refine ⟨_, rfl, _, rfl, iteF ?_⟩
        have yes : payN l (some m) n = (l, some (m / l), m % l) → tRet (tTup (tCons (tVar 3) (tCons (tOp (rI CDiv fun i j => .int (i / j)) (tVar 4) (tVar 3)) (tCons (tOp (rI (fun _ j => 0 < j) fun i j => .int (i % j)) (tCB (fun xs H Q => (∃ i, xs = [.int i] ∧ Q (.int i) H) ∨ ∃ k, xs = [.bl k] ∧ Q (.int (if k = true then 1 else 0)) H) (tCons (tVar 4) tNil)) (tVar 3)) tNil))))
            { nx := fun _ H' => Q .non H', rt := Q } (((L2.start ["self", "area", "number", "limit", "most"] [.ref x, .int i, cv n]).set 3 (some (dv l))).set 4 (some (cv (some m)))) H := by
          intro e
          rw [e] at q
          refine ⟨_, rfl, _, rfl, _, rfl, (m : Int), (l : Int), rfl, rfl, ⟨by omega, by omega⟩, ?_⟩
          refine ⟨_, rfl, .inl ⟨m, rfl, _, rfl, (m : Int), (l : Int), rfl, rfl, by omega, s3, fun p np => ?_⟩⟩
          exact q p np
        cases n with
        | none =>
          refine ⟨_, rfl, _, rfl, iteT (iteT (yes ?_))⟩
          unfold payN
          rw [if_neg hz]
        | some k =>
          refine ⟨_, rfl, _, rfl, iteF ?_⟩
          refine ⟨_, rfl, _, rfl, (k : Int), (l : Int), rfl, rfl, .inr ⟨by omega, by omega⟩, _, rfl, _, _, rfl, rfl, _, rfl, ?_⟩
          by_cases hk : m ≤ k * l
          · have e1 : decide (((m : Nat) : Int) ≤ (k : Int) * (l : Int)) = true := decide_eq_true (by rw [← Int.natCast_mul]; omega)
            rw [e1]
            refine iteT (yes ?_)
            unfold payN
            rw [if_neg hz]
            simp only
            rw [if_pos hk]
          · have e1 : decide (((m : Nat) : Int) ≤ (k : Int) * (l : Int)) = false := decide_eq_false (by rw [← Int.natCast_mul]; omega)
            rw [e1]
            have e : payN l (some m) (some k) = (l, some k, 0) := by
              unfold payN
              rw [if_neg hz]
              simp only
              rw [if_neg hk]
            rw [e] at q
            exact iteF ⟨_, rfl, _, rfl, s3, fun p np => q p np⟩
end
end K79
/-! ## KD10 -/
set_option maxRecDepth 100000
set_option maxHeartbeats 4000000
namespace K79
open PySem PySem.Spec PyProof.Rows L2
theorem innr_le (v : Nat) : ∀ (ps : List Part) (s : Nat × Nat), (innr v ps s).2 ≤ s.2
  | [], s => Nat.le_refl _
  | p :: ps, s => by
    show (innr v ps (if p.1 = v then (s.1 + take1 p.2 s.2 * v, s.2 - take1 p.2 s.2) else s)).2 ≤ s.2
    refine Nat.le_trans (innr_le v ps _) ?_
    split
    · exact Nat.sub_le _ _
    · exact Nat.le_refl _
theorem outr_le (ps : List Part) (t : Nat) (vs : List Nat) : ∀ i, (outr ps t vs i).2 ≤ t
  | 0 => Nat.le_refl _
  | i + 1 => by
    have ih := outr_le ps t vs i
    unfold outr
    split
    · exact ih
    · split
      · exact ih
      · exact Nat.le_trans (innr_le _ _ _) ih
theorem innr_step {v j : Nat} {ps : List Part} {p : Part} {s : Nat × Nat} (h : ps[j]? = some p) :
    innr v (ps.take (j + 1)) s = if p.1 = v then ((innr v (ps.take j) s).1 + take1 p.2 (innr v (ps.take j) s).2 * v, (innr v (ps.take j) s).2 - take1 p.2 (innr v (ps.take j) s).2) else innr v (ps.take j) s := by
  rw [take_succ h, innr_append]
  rfl
theorem outr_step {ps : List Part} {t i v : Nat} {vs : List Nat} (h : vs[i]? = some v) : outr ps t vs (i + 1) = if v ∈ vs.take i then outr ps t vs i else innr v ps (outr ps t vs i) := by
  conv => lhs; unfold outr
  rw [h]
theorem inV_dv (v : Nat) (vs : List Nat) : inV (dv v) (vs.map dv) = decide (v ∈ vs) := by
  unfold inV
  induction vs with
  | nil => simp
  | cons w vs ih =>
    rw [List.map_cons, List.any_cons, ih]
    by_cases h : v = w
    · subst h
      simp [dv, eqV]
    · have h2 : ¬ ((w : Int) = (v : Int)) := by omega
      have h3 : ¬ w = v := fun e => h e.symm
      simp [dv, eqV, h, h2]
theorem flat_dv (vs : List Nat) : (vs.map dv).all flatV = true := by
  rw [List.all_map, List.all_eq_true]
  intro v _
  rfl
/-- a list of ints that came from naturals -/
theorem nats_of {ns : List Int} {l : List Nat} (h : ns.Perm (l.map fun n : Nat => (n : Int))) : ∃ m : List Nat, ns = m.map (fun n : Nat => (n : Int)) ∧ m.Perm l := by
  refine ⟨ns.map Int.toNat, ?_, ?_⟩
  · rw [List.map_map]
    have : ∀ x ∈ ns, ((fun n : Nat => (n : Int)) ∘ Int.toNat) x = x := fun x hx => by
      obtain ⟨n, _, rfl⟩ := List.mem_map.mp (h.subset hx)
      simp
    have e : ns.map ((fun n : Nat => (n : Int)) ∘ Int.toNat) = ns.map id := List.map_congr_left this
    rw [e, List.map_id]
  · have h2 := h.map Int.toNat
    rw [List.map_map] at h2
    have e : (l.map (Int.toNat ∘ fun n : Nat => (n : Int))) = l := by
      have : (Int.toNat ∘ fun n : Nat => (n : Int)) = id := by
        funext n
        simp
      rw [this, List.map_id]
    rw [e] at h2
    exact h2
abbrev RowR (H : Hp) (u : V) (r : Row) : Prop := ∃ a, u = .ref a ∧ H a = some (.tup (rowV r))
abbrev PartR (H : Hp) (u : V) (p : Part) : Prop := ∃ a, u = .ref a ∧ H a = some (.tup [.int (p.1 : Nat), cv p.2])
theorem rowR_stay {H H' : Hp} {us : List V} {rs : List Row} (h : Paired (RowR H) us rs) (s : Stay H H') : Paired (RowR H') us rs := paired_mono h fun u r ⟨a, e, z⟩ => ⟨a, e, s.tup z⟩
theorem partR_stay {H H' : Hp} {us : List V} {rs : List Part} (h : Paired (PartR H) us rs) (s : Stay H H') : Paired (PartR H') us rs := paired_mono h fun u r ⟨a, e, z⟩ => ⟨a, e, s.tup z⟩
section
variable {P : Program} {w : World} {K : PySem.W.Frag} {mg : Str → Option Value} {base : Heap}
/-! ### heaviest -/
def spHeav : Sp := fun vs H Q _ => ∃ (l : Addr) (t : Nat) (us : List V) (rows : List Row), vs = [.ref l, .int t] ∧ H l = some (.lst us) ∧ Paired (RowR H) us rows ∧ rows.length ≤ 4 ∧ t ≤ 10 ^ 6 ∧ ∀ H', Same H H' → Q (.int (heav rows t)) H'
theorem scHeav : FnScope ["rows", "times", "parts", "value", "many", "values", "total", "at", "other", "taken", "limit", "full", "rest"] ["rows", "times"] (defScope sHeav) := ⟨rfl, rfl, rfl, by decide +kernel, rfl, by decide +kernel, by decide +kernel⟩
theorem ok_heav (T : Tx K mg) : Ok P w K mg base 1 (He.ga K "heaviest") ["rows", "times"] spHeav := by
  refine ok_mk T.F_heaviest scHeav (fun _ _ _ _ _ _ us hl => match us, hl with | [_, _], _ => rfl) (fun vs H Q E h => ?_) (fun cdv A outer s H vs Q E hr h => ?_)
  · obtain ⟨l, t, us, rows, rfl, _⟩ := h
    rfl
  · obtain ⟨l, t, us, rows, rfl, hl, hrw, h4, ht, q⟩ := h
    refine ⟨_, pss_cons (ps_set (i := 2) scHeav.nd rfl (Or.inl rfl) (pe_op op_cat
        (pe_lc (own := [("limit", 10), ("full", 11), ("rest", 12)]) (g := g3 K 10 11 12) (tt := tYes) rfl scHeav.nd (pi_list (pv 0)) (blkOk_by (own := [("limit", 10), ("full", 11), ("rest", 12)]) (N := ["rows", "times", "parts", "value", "many", "values", "total", "at", "other", "taken", "limit", "full", "rest"]) (sc := defScope sHeav) (by decide +kernel))
          (fun _ _ _ _ _ => pg3 (i := 10) (j := 11) (l := 12) rfl scHeav.nd rfl rfl rfl rfl rfl rfl) (fun _ _ _ _ _ => pts_nil) (fun _ _ _ _ _ => pe_tup (pa_cons (pv 10) (pa_cons (pv 11) pa_nil))))
        (pe_lc (own := [("limit", 10), ("full", 11), ("rest", 12)]) (g := g3 K 10 11 12) (tt := tYes) rfl scHeav.nd (pi_list (pv 0)) (blkOk_by (own := [("limit", 10), ("full", 11), ("rest", 12)]) (N := ["rows", "times", "parts", "value", "many", "values", "total", "at", "other", "taken", "limit", "full", "rest"]) (sc := defScope sHeav) (by decide +kernel))
          (fun _ _ _ _ _ => pg3 (i := 10) (j := 11) (l := 12) rfl scHeav.nd rfl rfl rfl rfl rfl rfl) (fun _ _ _ _ _ => pts_nil) (fun _ _ _ _ _ => pe_tup (pa_cons (pv 12) (pa_cons pe_int pa_nil))))))
      (pss_cons (ps_set (i := 5) scHeav.nd rfl (Or.inl rfl) (pe_callBK (cr_sortedRev (b := true)) (by rfl) T.n_sorted (by decide +kernel) (pa_cons
        (pe_lc (own := [("value", 3), ("many", 4)]) (g := g2 K 3 4) (tt := tYes) rfl scHeav.nd (pi_list (pv 2)) (blkOk_by (own := [("value", 3), ("many", 4)]) (N := ["rows", "times", "parts", "value", "many", "values", "total", "at", "other", "taken", "limit", "full", "rest"]) (sc := defScope sHeav) (by decide +kernel))
          (fun _ _ _ _ _ => pg2 (i := 3) (j := 4) rfl scHeav.nd rfl rfl rfl rfl) (fun _ _ _ _ _ => pts_nil) (fun _ _ _ _ _ => pe_callTy call_int1 (by rfl) T.n_int (by decide +kernel) (pa_cons (pv 3) pa_nil))) pa_nil) (pk_cons pe_bl pk_nil)))
      (pss_cons (ps_set (i := 6) scHeav.nd rfl (Or.inl rfl) pe_int)
      (pss_cons (ps_for PassesOwn.never rfl (pi_enum (by rfl) T.n_enumerate (pa_cons (pv 5) pa_nil)) (pg2 (i := 7) (j := 3) rfl scHeav.nd rfl rfl rfl rfl)
        (pss_one (ps_if (pt_cmpR op_notIn_seq (pv 3) (pe_slice sl_list (pv 5) po_none (po_some (pv 7))) rfl)
          (pss_one (ps_for PassesOwn.never rfl (pi_list (pv 2)) (pg2 (i := 8) (j := 4) rfl scHeav.nd rfl rfl rfl rfl)
            (pss_cons (ps_set (i := 9) scHeav.nd rfl (Or.inl rfl) (pe_ifExp (pt_cmpR op_ne (pv 8) (pv 3) (nomark _)) pe_int (pe_ifExp (pt_cmp (pc_isN (pv 4)) rfl) (pv 1)
                (pe_callB (call_min2 rfl) (by rfl) T.n_min (by decide +kernel) (pa_cons (pe_callTy call_int1 (by rfl) T.n_int (by decide +kernel) (pa_cons (pv 4) pa_nil)) (pa_cons (pe_callTy call_int1 (by rfl) T.n_int (by decide +kernel) (pa_cons (pv 1) pa_nil)) pa_nil))))))
            (pss_cons (ps_aug (i := 6) scHeav.nd rfl (Or.inl rfl) (pe_op op_mul (pv 9) (pv 3)) ip_add)
            (pss_one (ps_aug (i := 1) scHeav.nd rfl (Or.inl rfl) (pv 9) ip_sub)))))) pss_nil)))
      (pss_one (ps_ret (pv 6)))))), ?_⟩
    have hus : us.length = rows.length := paired_len hrw
    -- parts
    refine ⟨_, rfl, l, rfl, ⟨_, SqL.of hl⟩, lc_same0 (walk_list (K := K) (xs := us)) (fun i acc H' => Paired (PartR H') acc ((rows.map (fun r => (r.1, r.2.1))).take i)) (by omega) (fun H' s => s.seq (SqL.of hl)) (fun i acc H H' st h => partR_stay h st) .nil
      (fun i x H1 H1' acc Kc hi s1 _ pr kc y => ?_) (fun H1 D1 ps1 nD1 s1 eD1 lD1 pr1 => ?_)⟩
    · obtain ⟨rfl, ex⟩ := y
      obtain ⟨r, er, a, rfl, ea⟩ := paired_get hrw ex
      refine ⟨a, _, rfl, SqT.of (s1 _ _ ea), rfl, _, _, rfl, _, _, rfl, _, _, rfl, rfl, rfl, ?_⟩
      refine ⟨_, rfl, _, rfl, small (by show 2 ≤ _; decide), fun p np => ?_⟩
      refine kc _ _ (same_upd np) ?_
      rw [take_succ (x := (r.1, r.2.1)) (by rw [List.getElem?_map, er]; rfl)]
      exact paired_app (partR_stay pr (same_upd np).stay) (.cons ⟨p, rfl, upd_same⟩ .nil)
    refine ⟨_, rfl, l, rfl, ⟨_, s1.seq (SqL.of hl)⟩, lc_same0 (walk_list (K := K) (xs := us)) (fun i acc H' => Paired (PartR H') acc ((rows.map (fun r => (r.2.2, some 1))).take i)) (by omega) (fun H' s => s.seq (s1.seq (SqL.of hl))) (fun i acc H H' st h => partR_stay h st) .nil
      (fun i x H2 H2' acc Kc hi s2 _ pr kc y => ?_) (fun H2 D2 ps2 nD2 s2 eD2 lD2 pr2 => ?_)⟩
    · obtain ⟨rfl, ex⟩ := y
      obtain ⟨r, er, a, rfl, ea⟩ := paired_get hrw ex
      refine ⟨a, _, rfl, SqT.of (s2 _ _ (s1 _ _ ea)), rfl, _, _, rfl, _, _, rfl, _, _, rfl, rfl, rfl, ?_⟩
      refine ⟨_, rfl, small (by show 2 ≤ _; decide), fun p np => ?_⟩
      refine kc _ _ (same_upd np) ?_
      rw [take_succ (x := (r.2.2, some 1)) (by rw [List.getElem?_map, er]; rfl)]
      exact paired_app (partR_stay pr (same_upd np).stay) (.cons ⟨p, rfl, upd_same⟩ .nil)
    refine ⟨D1, D2, ps1, ps2, rfl, rfl, s2 _ _ eD1, eD2, small (by omega), fun pl npl => ?_⟩
    have s3 := (s1.trans s2).trans (same_upd (o := .lst (ps1 ++ ps2)) npl)
    have hps : Paired (PartR (upd H2 pl (.lst (ps1 ++ ps2)))) (ps1 ++ ps2) (partsN rows) := by
      have a1 : Paired (PartR H2) ps1 (rows.map (fun r => (r.1, r.2.1))) := by
        have := partR_stay pr1 s2.stay
        rw [hus, ← List.length_map (as := rows) (f := fun r : Row => (r.1, r.2.1)), List.take_length] at this
        exact this
      have a2 : Paired (PartR H2) ps2 (rows.map (fun r => (r.2.2, some 1))) := by
        rw [hus, ← List.length_map (as := rows) (f := fun r : Row => ((r.2.2, some 1) : Part)), List.take_length] at pr2
        exact pr2
      exact partR_stay (paired_app a1 a2) (same_upd npl).stay
    have epl : upd H2 pl (.lst (ps1 ++ ps2)) pl = some (.lst (ps1 ++ ps2)) := upd_same
    generalize upd H2 pl (.lst (ps1 ++ ps2)) = H3 at s3 hps epl ⊢
    generalize ps1 ++ ps2 = pus at hps epl ⊢
    have hpl : pus.length = (partsN rows).length := paired_len hps
    have l8 : (partsN rows).length ≤ 8 := by
      unfold partsN
      rw [List.length_append, List.length_map, List.length_map]
      omega
    -- values
    refine ⟨_, rfl, pl, rfl, ⟨_, SqL.of epl⟩, lc_same0 (walk_list (K := K) (xs := pus)) (fun i acc _ => acc = ((vals rows).take i).map dv) (by omega) (fun H' s => s.seq (SqL.of epl)) (fun _ _ _ _ _ h => h) rfl
      (fun i x H4 H4' acc Kc hi s4 _ pr kc y => ?_) (fun H4 D4 vs4 nD4 s4 eD4 lD4 pr4 => ?_)⟩
    · obtain ⟨rfl, ex⟩ := y
      obtain ⟨p, ep, a, rfl, ea⟩ := paired_get hps ex
      refine ⟨a, _, rfl, SqT.of (s4 _ _ ea), rfl, _, _, rfl, _, _, rfl, rfl, rfl, ?_⟩
      refine ⟨_, rfl, .inl ⟨_, rfl, kc _ _ (Same.refl _) ?_⟩⟩
      rw [pr, take_succ (x := p.1) (by unfold vals; rw [List.getElem?_map, ep]; rfl), List.map_append]
      rfl
    have lv : (vals rows).length = (partsN rows).length := by
      unfold vals
      rw [List.length_map]
    rw [hpl, ← lv, List.take_length] at pr4
    have ev4 : vs4 = ((vals rows).map fun n : Nat => (n : Int)).map V.int := by
      rw [pr4, List.map_map]
      rfl
    refine ⟨D4, (vals rows).map fun n : Nat => (n : Int), rfl, rfl, SqL.of (ev4 ▸ eD4), fun ns' vl hperm hord nvl => ?_⟩
    obtain ⟨vs, rfl, pvs⟩ := nats_of hperm
    have hdesc : vs.Pairwise (fun a b => b ≤ a) := by
      have h1 : (vs.map fun n : Nat => (n : Int)).Pairwise (· ≥ ·) := hord
      rw [List.pairwise_map] at h1
      exact h1.imp fun h => by omega
    have ed : vs = desc (vals rows) := desc_eq pvs hdesc
    have s5 := s4.trans (same_upd (o := .lst ((vs.map fun n : Nat => (n : Int)).map V.int)) nvl)
    have evl : upd H4 vl (.lst ((vs.map fun n : Nat => (n : Int)).map V.int)) vl = some (.lst (vs.map dv)) := by
      rw [upd_same, List.map_map]
      rfl
    generalize upd H4 vl (.lst ((vs.map fun n : Nat => (n : Int)).map V.int)) = H5 at s5 evl ⊢
    have epl5 := s5 _ _ epl
    have hps5 := partR_stay hps s5.stay
    have lvs : vs.length ≤ 8 := by
      rw [pvs.length_eq]
      omega
    -- the loop
    refine ⟨_, rfl, vl, _, rfl, SqL.of evl, for_it (walk_enum (K := K) (xs := vs.map dv)) (fun i σ H' => ∃ y3 y4 y7 y8 y9, σ = [some (.ref l), some (.int ((outr (partsN rows) t vs i).2 : Nat)), some (.ref pl), y3, y4, some (.ref vl), some (.int ((outr (partsN rows) t vs i).1 : Nat)), y7, y8, y9, none, none, none] ∧ Same H5 H')
      ⟨none, none, none, none, none, rfl, Same.refl _⟩ (fun i σ H' _ ⟨_, _, _, _, _, _, s6⟩ => s6.seq (SqL.of evl)) (fun i x σ H6 H6' hi hp y => ?_) (fun σ H6 hp => ?_)⟩
    · obtain ⟨y3, y4, y7, y8, y9, rfl, s6⟩ := hp
      obtain ⟨Tp, x1, x2, rfl, nT, rfl, e1, e2⟩ := y
      cases e1
      obtain ⟨v, ev, rfl⟩ := get_map e2
      have s7 := s6.trans (same_upd (o := .tup [.int (i : Nat), dv v]) nT)
      refine ⟨Tp, _, rfl, SqT.of upd_same, rfl, _, _, rfl, _, _, rfl, rfl, ?_⟩
      generalize upd H6 Tp (.tup [.int (i : Nat), dv v]) = H7 at s7 ⊢
      -- value not in values[:at]
      refine ⟨_, rfl, _, rfl, _, rfl, _, rfl, vl, _, rfl, s7.seq (SqL.of evl), fun p np => ?_⟩
      rw [cut_take, ← List.map_take]
      have s8 := s7.trans (same_upd (o := .lst ((vs.take i).map dv)) np)
      refine ⟨p, _, rfl, .inl (SqL.of upd_same), rfl, flat_dv _, _, rfl, ?_⟩
      generalize upd H7 p (.lst ((vs.take i).map dv)) = H8 at s8 ⊢
      rw [inV_dv]
      have est := outr_step (ps := partsN rows) (t := t) ev
      by_cases hin : v ∈ vs.take i
      · rw [decide_eq_true hin]
        rw [if_pos hin] at est
        refine iteF ⟨some (dv v), y4, some (.int (i : Nat)), y8, y9, ?_, s8⟩
        rw [est]
        rfl
      · rw [decide_eq_false hin]
        rw [if_neg hin] at est
        refine iteT ?_
        have hle := outr_le (partsN rows) t vs i
        generalize outr (partsN rows) t vs i = st at est hle ⊢
        refine ⟨_, rfl, pl, rfl, ⟨_, s8.seq (SqL.of epl5)⟩, for_it (walk_list (K := K) (xs := pus)) (fun j σ H' => ∃ y4 y8 y9, σ = [some (.ref l), some (.int ((innr v ((partsN rows).take j) st).2 : Nat)), some (.ref pl), some (dv v), y4, some (.ref vl), some (.int ((innr v ((partsN rows).take j) st).1 : Nat)), some (.int (i : Nat)), y8, y9, none, none, none] ∧ Same H5 H')
          ⟨_, _, _, rfl, s8⟩ (fun j σ H' _ ⟨_, _, _, _, s9⟩ => s9.seq (SqL.of epl5)) (fun j x σ H9 H9' hj hp y => ?_) (fun σ H9 hp => ?_)⟩
        · obtain ⟨z4, z8, z9, rfl, s9⟩ := hp
          obtain ⟨rfl, ex⟩ := y
          obtain ⟨pt, ept, a, rfl, ea⟩ := paired_get hps5 ex
          have ist := innr_step (v := v) (s := st) ept
          have ile := innr_le v ((partsN rows).take j) st
          generalize innr v ((partsN rows).take j) st = sj at ist ile ⊢
          obtain ⟨pv_, pm_⟩ := pt
          refine ⟨a, _, rfl, SqT.of (s9 _ _ ea), rfl, _, _, rfl, _, _, rfl, rfl, ?_⟩
          -- taken
          refine ⟨_, rfl, _, rfl, rfl, _, rfl, ?_⟩
          have fin : ∀ k : Nat, k ≤ sj.2 → innr v ((partsN rows).take (j + 1)) st = (sj.1 + k * v, sj.2 - k) →
              gName 9 (.int (k : Nat)) ((([some (.ref l), some (.int (sj.2 : Nat)), some (.ref pl), some (dv v), z4, some (.ref vl), some (.int (sj.1 : Nat)), some (.int (i : Nat)), z8, z9, none, none, none] : L2.St).set 8 (some (.int (pv_ : Nat)))).set 4 (some (cv pm_))) H9'
                (fun σ1 H1 => tSeq (tAug 6 (tOp (rI CMul fun i j => .int (i * j)) (tVar 9) (tVar 3)) (fun x y H Q => ∃ i j, x = .int i ∧ y = .int j ∧ Q (.int (i + j)) H)) (tAug 1 (tVar 9) (fun x y H Q => ∃ i j, x = .int i ∧ y = .int j ∧ Q (.int (i - j)) H))
                  { nx := fun σ H' => ∃ y4 y8 y9, σ = [some (.ref l), some (.int ((innr v ((partsN rows).take (j + 1)) st).2 : Nat)), some (.ref pl), some (dv v), y4, some (.ref vl), some (.int ((innr v ((partsN rows).take (j + 1)) st).1 : Nat)), some (.int (i : Nat)), y8, y9, none, none, none] ∧ Same H5 H', rt := Q } σ1 H1) := by
            intro k hk e
            refine ⟨_, rfl, _, rfl, _, rfl, (k : Int), (v : Int), rfl, rfl, .inl ⟨by omega, by omega⟩, _, _, rfl, rfl, ?_⟩
            refine ⟨_, rfl, _, rfl, _, _, rfl, rfl, some (cv pm_), some (.int (pv_ : Nat)), some (.int (k : Nat)), ?_, s9⟩
            rw [e]
            simp only [Int.natCast_add, Int.natCast_mul, Int.ofNat_sub hk]
            rfl
          by_cases hpv : pv_ = v
          · rw [if_pos hpv] at ist
            refine iteNS (by rw [hpv]; rfl) ?_
            refine ⟨_, rfl, _, rfl, ?_⟩
            cases pm_ with
            | none => exact iteT ⟨_, rfl, fin sj.2 (Nat.le_refl _) ist⟩
            | some m =>
              refine iteF ⟨_, rfl, .inl ⟨(m : Int), rfl, _, rfl, .inl ⟨(sj.2 : Int), rfl, (m : Int), (sj.2 : Int), rfl, ?_⟩⟩⟩
              have em : (if ((sj.2 : Nat) : Int) < (m : Int) then ((sj.2 : Nat) : Int) else (m : Int)) = ((min m sj.2 : Nat) : Int) := by
                split <;> omega
              rw [em]
              exact fin (min m sj.2) (Nat.min_le_right _ _) ist
          · rw [if_neg hpv] at ist
            have hne : ¬ V.int (pv_ : Nat) = dv v := fun z => hpv (by
              have z2 := V.int.inj z
              omega)
            have ek : (!decide (V.int (pv_ : Nat) = dv v)) = true := by
              rw [decide_eq_false hne]
              rfl
            rw [ek]
            exact iteT (fin 0 (Nat.zero_le _) (by rw [ist]; simp))
        · obtain ⟨z4, z8, z9, rfl, s9⟩ := hp
          rw [hpl, List.take_length]
          refine ⟨some (dv v), z4, some (.int (i : Nat)), z8, z9, ?_, s9⟩
          rw [est]
    · obtain ⟨y3, y4, y7, y8, y9, rfl, s6⟩ := hp
      rw [List.length_map]
      refine ⟨_, rfl, ?_⟩
      have e : (outr (partsN rows) t vs vs.length).1 = heav rows t := by
        unfold heav hvS
        rw [ed]
      have q2 := q H6 ((s3.trans s5).trans s6)
      rw [← e] at q2
      exact q2
end
end K79
/-! ## KD11 -/
set_option maxRecDepth 100000
set_option maxHeartbeats 2000000
/-! enumerate(tuple) -/
namespace L2
open PySem PySem.Spec PyProof.Rows
theorem meets_enumerate_tup (t : Addr) (items : Array Value) :
    Meets (Builtin.«enumerate.__new__» ⟨[.type "enumerate", .ref t], []⟩) (fun _ R s => s.heap.IsTuple t items ∧
      R (.ok (.ret (.ref (s.heap.push { cls := .type "tuple_iterator", data := .fields #[.ref t, .int 0 0] }).objs.size)))
        { s with heap := (s.heap.push { cls := .type "tuple_iterator", data := .fields #[.ref t, .int 0 0] }).push { cls := .type "enumerate", data := .fields #[.none, .bool false, .ref s.heap.objs.size, rawInt 0, .none, .none] } }) :=
  .of_wp fun prog w A R s h => by
    obtain ⟨hp, g, d, tk, os⟩ := s
    obtain ⟨hL, h⟩ := h
    have hsub := sub_enumerate
    wp_walk using wpAny_pyIter_tuple hL
    refine wpAny_stack_any fun st => wpAny_pure ?_
    split
    · rename_i c _ _ _ _ _
      cases (c == Value.type "enumerate")
      · wp_walk using wpAny_pyIter_tuple hL
        exact ⟨_, rfl, h⟩
      · wp_walk using wpAny_pyIter_tuple hL
        exact ⟨_, rfl, h⟩
    · wp_walk using wpAny_pyIter_tuple hL
      exact ⟨_, rfl, h⟩
theorem call_enumerate_tup {prog : Program} {w : World} {A : Around} {E : Value → Shared → Prop} {s : Shared} {l : Addr} {items : Array Value} {Q : Value → Shared → Prop} (hL : s.heap.IsTuple l items)
    (h : ∀ h', IsEnum h' (s.heap.objs.size + 1) s.heap.objs.size 0 .none → h'.IsTupleIter s.heap.objs.size l 0 → h'.objs.size = s.heap.objs.size + 2 →
      (∀ b o, s.heap.get? b = some o → h'.get? b = some o) → Q (.ref (s.heap.objs.size + 1)) { s with heap := h' }) :
    wpAny (model prog w) A (call (.type "enumerate") [.ref l]) Q E s := by
  refine callType_new F.called_enumerate (by decide) (F.typeCall_enumerate_1 _) (F.newCall_enumerate_1 _) (fun obj => F.args_object_init_2 obj _) F.entry_enumerate_new
    (meets_enumerate_tup l items) ⟨hL, ?_⟩
  have hz : (s.heap.push { cls := .type "tuple_iterator", data := .fields #[.ref l, .int 0 0] }).objs.size = s.heap.objs.size + 1 := Heap.size_push ..
  show _ ∧ _
  rw [hz]
  have he : IsEnum ((s.heap.push { cls := .type "tuple_iterator", data := .fields #[.ref l, .int 0 0] }).push
      { cls := .type "enumerate", data := .fields #[.none, .bool false, .ref s.heap.objs.size, rawInt 0, .none, .none] }) (s.heap.objs.size + 1) s.heap.objs.size 0 .none := by
    have := Heap.get?_push_size (s.heap.push { cls := .type "tuple_iterator", data := .fields #[.ref l, .int 0 0] })
      (o := { cls := .type "enumerate", data := .fields #[.none, .bool false, .ref s.heap.objs.size, rawInt 0, .none, .none] }) rfl
    rw [hz] at this
    exact this
  refine ⟨⟨_, he, rfl⟩, h _ he ⟨_, Heap.get?_push_of_some _ (Heap.get?_push_size _ rfl), rfl, rfl⟩ (by rw [Heap.size_push, hz]) fun b o x => Heap.get?_push_of_some _ (Heap.get?_push_of_some _ x)⟩
/-- the tuple at a, each item in a new pair -/
def IteT (K : PySem.W.Frag) (a : Addr) : It :=
  ⟨fun i H => ∃ (xs : List V) (x : V), SqT K H a xs ∧ xs[i]? = some x, fun i H v H' => ∃ T x, v = .ref T ∧ H T = none ∧ H' = upd H T (.tup [.int (i : Nat), x]) ∧ ∀ xs, SqT K H a xs → xs[i]? = some x, fun i H => ∃ xs : List V, SqT K H a xs ∧ xs.length ≤ i⟩
theorem turn_enumT {P : Program} {w : World} {K : PySem.W.Frag} {elts : List Expr} {kk : Nat} {tpos : Pos} (a e it : Addr) (nai : a ≠ it) (nea : e ≠ a) (hne : e ≠ it) :
    Turn P w K (.Tuple elts kk tpos) (IteT K a) [e, it] e (fun i h => (∃ old, IsEnum h e it ((i : Nat) : Int) old) ∧ h.IsTupleIter it a i) where
  mem := by simp
  obj := fun i h st b hb => by
    obtain ⟨⟨old, he⟩, ⟨o, ho, hc, hd⟩⟩ := st
    have e' : b = e ∨ b = it := by simpa using hb
    rcases e' with z | z
    · rw [z]; exact ⟨_, he, fun v q => nomatch q⟩
    · rw [z]; exact ⟨o, ho, fun v q => by rw [hd] at q; cases q⟩
  keep := fun i h h' st k => let ⟨⟨old, he⟩, hi⟩ := st; ⟨⟨old, k e (by simp) _ he⟩, hi.at fun o q => k it (by simp) o q⟩
  item := by
    intro X hP hw hK hc i pins s σ H E I hf st hg
    subst hP hw hK
    obtain ⟨⟨old, he⟩, hit⟩ := st
    obtain ⟨xs, x, hq, hx⟩ := hg
    obtain ⟨its, rv, p, hz⟩ := I.tuple hq
    obtain ⟨u0, hu, ru⟩ := rv.get hx
    have hel : e < s.heap.objs.size := Heap.lt_size he
    have hil : it < s.heap.objs.size := by obtain ⟨_, q, _⟩ := hit; exact Heap.lt_size q
    have pT : s.heap.IsTuple a its.toArray := p
    have hlt : i < its.toArray.size := by
      have := (List.getElem?_eq_some_iff.mp hu).1
      simpa using this
    refine wpAny_pyNext_enum_itemD (Draws.tuple (prog := X.prog) (w := X.w) (A := X.A.in1) (show X.A.in1.handled = none from I.ok.hd hc) it a nai its.toArray) he ⟨hit, pT⟩ hlt hne (by simp [hne, nea]) fun u h' tk hPu ho hst' hT hsz hk => ?_
    have eu : u = u0 := by
      have : its[i]? = some u := by simpa using hPu
      rw [hu] at this
      exact (Option.some.inj this).symm
    subst eu
    have hit' := hst'.1
    refine ⟨_, rfl, wpAny_letOwnedTupleGo_enum (s := { s with heap := h', toks := tk + 1 }) ho fun h'' he' sb => ?_⟩
    have hT2 : h''.get? s.heap.objs.size = some { cls := .type "tuple", data := .seq #[.int i tk, u] } := (sb.2 _ (Nat.ne_of_gt hel)).trans hT
    have new : ObjOk X.prog X.w (upd H s.heap.objs.size (.tup [.int (i : Nat), x])) h'' s.heap.objs.size (.tup [.int (i : Nat), x]) :=
      ⟨by show 2 ≤ sizeLine; decide, [.int i tk, u], .cons ⟨_, rfl⟩ (.cons ru .nil), ⟨_, hT2, rfl, _, rfl⟩⟩
    have I1 : Inv X pins σ (upd H s.heap.objs.size (.tup [.int (i : Nat), x])) { s with heap := h'', toks := tk + 1 } :=
      I.turnedNew (ch := [e, it]) (fun b ob hb q => (sb.2 b (fun z => hb (by simp [z]))).trans (hk b ob (fun z => hb (by simp [z])) (fun z => hb (by simp [z])) q)) hf (Nat.le_refl _) new
    refine ⟨.ref s.heap.objs.size, _, I1, rfl, ⟨_, x, rfl, I.hok.fresh (Nat.le_refl _), rfl, fun ys hy => by rw [I.tuple_inj hy hq]; exact hx⟩, ⟨⟨u, ?_⟩, hit'.at fun o q => (sb.2 it (Ne.symm hne)).trans q⟩, fun b hb => ?_⟩
    · have e1 : ((i + 1 : Nat) : Int) = (i : Int) + 1 := by omega
      rw [e1]; exact he'
    · have hb' : b < s.heap.objs.size := by
        have e' : b = e ∨ b = it := by simpa using hb
        rcases e' with z | z
        · rw [z]; exact hel
        · rw [z]; exact hil
      rw [upd_ne (Nat.ne_of_lt hb')]
      exact (hf b hb).1
  done := by
    intro X hP hw hK hc i pins s σ H E I hf st hg
    subst hP hw hK
    obtain ⟨⟨old, he⟩, hit⟩ := st
    obtain ⟨xs, hq, hx⟩ := hg
    obtain ⟨its, rv, p, hz⟩ := I.tuple hq
    obtain ⟨f0, f1, f2, f3, f4, f5⟩ := hf it (by simp)
    have hl := rv.length
    have pT : s.heap.IsTuple a its.toArray := p
    have hn : its.toArray[i]? = none := by
      simp
      omega
    refine wpAny_pyNext_enum_endD (n := 0) (fp := [it, a]) (P := fun _ _ => True) (St := fun j h => h.IsTupleIter it a i ∧ h.IsTuple a its.toArray) ⟨fun _ _ st => let ⟨o, ho, _⟩ := st.1; ⟨o, ho⟩, fun _ _ _ st hk => ?_, fun j _ _ _ hj _ _ => absurd hj (Nat.not_lt_zero _), fun s Q E st hE => wpAny_nextOf_tuple_end (I.ok.hd hc) st.1 st.2 hn hE⟩ he ⟨hit, pT⟩ fun h' eb => ⟨rfl, I.turned (t' := s.toks) (fun b o hb q => eb b o hb q) f0 f1 f3 f4 f5⟩
    exact ⟨st.1.at fun o e => hk it (by simp) o e, st.2.at fun o e => hk a (by simp) o e⟩
  self := fun A i s Q E st h => let ⟨⟨_, he⟩, _⟩ := st; wpAny_pyIter_enum he h
def iEnumT (K : PySem.W.Frag) (ta : TA) : TI := fun σ H R => ta σ H fun vs H1 => ∃ a xs, vs = [.ref a] ∧ SqT K H1 a xs ∧ R (IteT K a) H1
theorem pi_enumT {X : Cx} {e : Expr} {ta : TA} {p pos tpos : Pos} {elts : List Expr} {kk : Nat} (hg : Gl X "enumerate") (hm : X.mg "enumerate" = none) (ha : PA X [e] ta) (hs : starEach [e] X.env = [(false, eval e X.env)] := by rfl) :
    PI X (.Tuple elts kk tpos) (.Call (.Name "enumerate" p) [e] [] pos) (iEnumT X.K ta) := by
  refine ⟨fun pins s σ H R I h => ?_⟩
  refine Call_ (ld_blt I hg hm boot_enumerate (PyProof.Rows.callWith_type1 (thn (ha.run pos pins s σ H _ I h) fun us s1 ⟨vs, H1, I1, r1, q1⟩ => ?_) hs rfl))
  obtain ⟨a, xs, ex, hq, q⟩ := q1
  subst ex
  cases r1 with
  | cons r rr =>
    cases rr
    cases r
    obtain ⟨its, rv, p', hz⟩ := I1.tuple hq
    have pT : s1.heap.IsTuple a its.toArray := p'
    have hal : a < s1.heap.objs.size := by
      obtain ⟨o, ho, _⟩ := id p'
      exact Heap.lt_size ho
    refine call_enumerate_tup pT fun h' he hit hsz hk => wpAny_pyIter_enum he ?_
    have I2 : Inv X pins σ H1 { s1 with heap := h' } := I1.kept (t' := s1.toks) hk
    refine ⟨s1.heap.objs.size + 1, [s1.heap.objs.size + 1, s1.heap.objs.size], _, _, H1, rfl, I2, turn_enumT a (s1.heap.objs.size + 1) s1.heap.objs.size (Nat.ne_of_lt hal) (Nat.ne_of_gt (Nat.lt_succ_of_lt hal)) (Nat.succ_ne_self _), ⟨⟨.none, he⟩, hit⟩, fun b hb => ?_, q⟩
    have e' : b = s1.heap.objs.size + 1 ∨ b = s1.heap.objs.size := by simpa using hb
    have hle : s1.heap.objs.size ≤ b := by
      rcases e' with z | z
      · rw [z]; exact Nat.le_add_right _ _
      · rw [z]; exact Nat.le_refl _
    exact I1.fpOk hle (I1.hok.fresh hle)
theorem walk_enumT {K : PySem.W.Frag} {a : Addr} {xs : List V} : Walk (IteT K a) xs.length (fun H => SqT K H a xs) (YPair (fun i => some (.int (i : Nat))) (fun i => xs[i]?)) := by
  refine ⟨fun i _ hi q => ⟨xs, xs[i], q, by simp [hi]⟩, fun _ q => ⟨xs, q, Nat.le_refl _⟩, fun i H v H' _ q y => ?_⟩
  obtain ⟨T, x, h1, h2, h3, h4⟩ := y
  exact ⟨T, _, x, h1, h2, h3, rfl, h4 xs q⟩
end L2
/-! ## KM2 -/
set_option maxHeartbeats 1000000
namespace K79
/-! ### worths -/
def fullN (r : Row) : Bool := r.2.1.isNone
def payS (r : Row) : Nat := r.1 * r.2.1.getD 0 + r.2.2
def worthN (days : List Nat) (outs : List Num) (mem : Mem) (c : Cnt) : Num :=
  match mem with
  | .times t => some (heav (rowsN days outs c) t)
  | .nothing => if (rowsN days outs c).any fullN = true then none else some ((rowsN days outs c).map payS).sum
def maxNat : List Nat → Nat
  | [] => 0
  | a :: l => max a (maxNat l)
theorem le_maxNat : ∀ {l : List Nat} {a : Nat}, a ∈ l → a ≤ maxNat l
  | b :: l, a, h => by
    rcases List.mem_cons.mp h with e | h
    · subst e
      exact Nat.le_max_left _ _
    · exact Nat.le_trans (le_maxNat h) (Nat.le_max_right _ _)
theorem maxNat_mem : ∀ {l : List Nat}, l ≠ [] → maxNat l ∈ l
  | [], h => absurd rfl h
  | [a], _ => by simp [maxNat]
  | a :: b :: l, _ => by
    have ih := maxNat_mem (l := b :: l) (by simp)
    show max a (maxNat (b :: l)) ∈ _
    by_cases h : maxNat (b :: l) ≤ a
    · rw [Nat.max_eq_left h]
      exact List.mem_cons_self
    · rw [Nat.max_eq_right (by omega)]
      exact List.mem_cons_of_mem _ ih
theorem maxNat_eq {l : List Nat} {m : Nat} (h : m ∈ l) (k : ∀ y ∈ l, y ≤ m) : m = maxNat l := by
  have h1 := le_maxNat h
  have h2 := k _ (maxNat_mem (l := l) (by intro e; rw [e] at h; cases h))
  omega
/-- the greatest of the worths, none where one has none -/
def mostW (ws : List Num) : Num := if none ∈ ws then none else some (maxNat (ws.map (·.getD 0)))
def mostN (days : List Nat) (outs : List Num) (mem : Mem) (ps : List Cnt) : Num := mostW (ps.map (worthN days outs mem))
def moreN (a b : Num) : Bool := !leN a b
theorem mostW_le {ws vs : List Num} (h : ∀ w ∈ ws, ∃ v ∈ vs, leN w v = true) : leN (mostW ws) (mostW vs) = true := by
  unfold mostW
  by_cases hv : none ∈ vs
  · rw [if_pos hv]
    cases (if none ∈ ws then none else some (maxNat (ws.map (·.getD 0))) : Num) <;> rfl
  · rw [if_neg hv]
    have hw : ¬ none ∈ ws := fun z => by
      obtain ⟨v, hm, hl⟩ := h none z
      cases v with
      | none => exact hv hm
      | some b => cases hl
    rw [if_neg hw]
    show decide (_ ≤ _) = true
    refine decide_eq_true ?_
    by_cases e : ws = []
    · subst e
      exact Nat.zero_le _
    · have hm := maxNat_mem (l := ws.map (·.getD 0)) (by simpa using e)
      obtain ⟨w, h1, h2⟩ := List.mem_map.mp hm
      obtain ⟨v, h3, h4⟩ := h w h1
      rw [← h2]
      cases w with
      | none => exact absurd h1 hw
      | some a =>
        cases v with
        | none => exact absurd h3 hv
        | some b =>
          have h5 : a ≤ b := by simpa [leN] using h4
          have h6 : b ≤ maxNat (vs.map (·.getD 0)) := le_maxNat (List.mem_map.mpr ⟨some b, h3, rfl⟩)
          exact Nat.le_trans h5 h6
/-! ### a greater count is worth no less (no outage line) -/
theorem pay_none (l : Nat) (n : Num) : payN l none n = (l, if l = 0 ∨ n = some 0 then some 0 else n, 0) := by
  unfold payN
  by_cases h : l = 0 ∨ n = some 0
  · rw [if_pos (by rcases h with h | h; exact .inl h; exact .inr (.inl h)), if_pos h]
  · rw [if_neg (by rintro (z | z | z); exact h (.inl z); exact h (.inr z); cases z), if_neg h]
theorem pay_mono (l : Nat) {m n : Num} (h : leN m n = true) : leN (payN l none m).2.1 (payN l none n).2.1 = true := by
  rw [pay_none, pay_none]
  show leN (if l = 0 ∨ m = some 0 then some 0 else m) (if l = 0 ∨ n = some 0 then some 0 else n) = true
  by_cases hl : l = 0
  · rw [if_pos (.inl hl), if_pos (.inl hl)]
    exact leN_refl _
  · by_cases hm : m = some 0
    · rw [if_pos (.inr hm)]
      split
      · exact leN_refl _
      · cases n <;> simp [leN]
    · rw [if_neg (by rintro (z | z); exact hl z; exact hm z)]
      by_cases hn : n = some 0
      · subst hn
        cases m with
        | none => cases h
        | some a =>
          have : a ≤ 0 := by simpa [leN] using h
          exact absurd (by congr 1; omega) hm
      · rw [if_neg (by rintro (z | z); exact hl z; exact hn z)]
        exact h
/-- row by row: one limit, one rest, no fewer -/
def RowLe (r s : Row) : Prop := r.1 = s.1 ∧ r.2.2 = s.2.2 ∧ leN r.2.1 s.2.1 = true
theorem rows_le : ∀ (days : List Nat) (outs : List Num) (c d : Cnt), (∀ o ∈ outs, o = none) → c.length = days.length → d.length = days.length → below c d = true → PySem.Paired RowLe (rowsN days outs c) (rowsN days outs d)
  | [], _, _, _, _, _, _, _ => by
    simp only [rowsN]
    exact .nil
  | l :: ls, [], _, _, _, _, _, _ => by
    simp only [rowsN]
    exact .nil
  | l :: ls, o :: os, [], _, _, h, _, _ => by simp at h
  | l :: ls, o :: os, _ :: _, [], _, _, h, _ => by simp at h
  | l :: ls, o :: os, m :: c, n :: d, ho, h1, h2, h3 => by
    rw [below_cons, Bool.and_eq_true] at h3
    have e : o = none := ho o List.mem_cons_self
    subst e
    simp only [rowsN]
    refine .cons ⟨?_, ?_, pay_mono l h3.1⟩ (rows_le ls os c d (fun x hx => ho x (List.mem_cons_of_mem _ hx)) (by simpa using h1) (by simpa using h2) h3.2)
    · rw [pay_none, pay_none]
    · rw [pay_none, pay_none]
theorem pair_map {α β γ δ : Type} {R : α → β → Prop} {S : γ → δ → Prop} {f : α → γ} {g : β → δ} (h : ∀ a b, R a b → S (f a) (g b)) : ∀ {l : List α} {m : List β}, PySem.Paired R l m → PySem.Paired S (l.map f) (m.map g)
  | _, _, .nil => .nil
  | _, _, .cons r t => .cons (h _ _ r) (pair_map h t)
theorem pair_eq {α : Type} : ∀ {l m : List α}, PySem.Paired (fun a b => a = b) l m → l = m
  | _, _, .nil => rfl
  | _, _, .cons r t => by rw [r, pair_eq t]
theorem parts_le {rs ss : List Row} (h : PySem.Paired RowLe rs ss) : PySem.Paired (fun p q : Part => p.1 = q.1 ∧ leN p.2 q.2 = true) (partsN rs) (partsN ss) :=
  paired_app (pair_map (fun a b r => ⟨r.1, r.2.2⟩) h) (pair_map (fun a b r => ⟨r.2.1, leN_refl _⟩) h)
theorem heav_le {rs ss : List Row} (t : Nat) (h : PySem.Paired RowLe rs ss) : heav rs t ≤ heav ss t := by
  have p := parts_le h
  refine heav_mono t (pair_eq (pair_map (fun a b r => r.1) p)) (fun i x y hx hy => ?_)
  obtain ⟨z, hz, hr⟩ := paired_get p hx
  rw [hy] at hz
  cases hz
  exact hr.2
theorem any_full {rs ss : List Row} : PySem.Paired RowLe rs ss → rs.any fullN = true → ss.any fullN = true
  | .nil, h => h
  | .cons (a := a) (b := b) r t, h => by
    rw [List.any_cons, Bool.or_eq_true] at h ⊢
    rcases h with h | h
    · left
      have h2 := r.2.2
      unfold fullN at h ⊢
      cases ea : a.2.1 with
      | some x =>
        rw [ea] at h
        cases h
      | none =>
        rw [ea] at h2
        cases eb : b.2.1 with
        | none => rfl
        | some y =>
          rw [eb] at h2
          cases h2
    · exact .inr (any_full t h)
theorem sum_pay {rs ss : List Row} : PySem.Paired RowLe rs ss → ss.any fullN = false → (rs.map payS).sum ≤ (ss.map payS).sum
  | .nil, _ => Nat.le_refl _
  | .cons (a := a) (b := b) (l₁ := l) (l₂ := m) r t, h => by
    rw [List.any_cons, Bool.or_eq_false_iff] at h
    have ih := sum_pay t h.2
    rw [List.map_cons, List.map_cons, List.sum_cons, List.sum_cons]
    refine Nat.add_le_add ?_ ih
    unfold payS
    rw [r.1, r.2.1]
    refine Nat.add_le_add_right (Nat.mul_le_mul_left _ ?_) _
    have h1 := h.1
    have h2 := r.2.2
    unfold fullN at h1
    cases eb : b.2.1 with
    | none =>
      rw [eb] at h1
      cases h1
    | some y =>
      cases ea : a.2.1 with
      | none =>
        rw [ea, eb] at h2
        cases h2
      | some x =>
        rw [ea, eb] at h2
        simpa [leN] using h2
theorem worth_mono {days : List Nat} {outs : List Num} {mem : Mem} {c d : Cnt} (ho : ∀ o ∈ outs, o = none) (h1 : c.length = days.length) (h2 : d.length = days.length) (h : below c d = true) : leN (worthN days outs mem c) (worthN days outs mem d) = true := by
  have p := rows_le days outs c d ho h1 h2 h
  cases mem with
  | times t => exact decide_eq_true (heav_le t p)
  | nothing =>
    show leN (if (rowsN days outs c).any fullN = true then none else some ((rowsN days outs c).map payS).sum) (if (rowsN days outs d).any fullN = true then none else some ((rowsN days outs d).map payS).sum) = true
    cases ed : (rowsN days outs d).any fullN with
    | true =>
      rw [if_pos rfl]
      cases (if (rowsN days outs c).any fullN = true then none else some ((rowsN days outs c).map payS).sum : Num) <;> rfl
    | false =>
      have ec : (rowsN days outs c).any fullN = false := by
        cases ec : (rowsN days outs c).any fullN with
        | false => rfl
        | true =>
          rw [any_full p ec] at ed
          cases ed
      rw [ec, if_neg (by simp), if_neg (by simp)]
      exact decide_eq_true (sum_pay p ed)
/-- within: by no allowance without outage lines more -/
theorem most_mono {days : List Nat} {outs : List Num} {mem : Mem} {ps qs : List Cnt} (ho : ∀ o ∈ outs, o = none) (h1 : ∀ c ∈ ps, c.length = days.length) (h2 : ∀ c ∈ qs, c.length = days.length) (h : (ps.all fun c => qs.any (below c)) = true) :
    moreN (mostN days outs mem ps) (mostN days outs mem qs) = false := by
  unfold moreN mostN
  rw [mostW_le fun w hw => ?_]
  · rfl
  · obtain ⟨c, hc, rfl⟩ := List.mem_map.mp hw
    have := List.all_eq_true.mp h c hc
    obtain ⟨d, hd, hb⟩ := List.any_eq_true.mp this
    exact ⟨_, List.mem_map.mpr ⟨d, hd, rfl⟩, worth_mono ho (h1 c hc) (h2 d hd) hb⟩
/-! ### the parting allowance -/
def partO (G : Nat) (n : Num) : Num := some (n.getD (G + 1))
theorem pay_part (o : Nat) (n : Num) : payN 1 (some o) n = (1, some (take1 n o), 0) := by
  unfold payN
  by_cases h : n = some 0 ∨ o = 0
  · rw [if_pos (by rcases h with h | h; exact .inr (.inl h); exact .inr (.inr (by rw [h])))]
    rcases h with h | h
    · subst h
      simp [take1]
    · subst h
      cases n <;> simp [take1]
  · rw [if_neg (by rintro (z | z | z); cases z; exact h (.inl z); exact h (.inr (Option.some.inj z)))]
    cases n with
    | none => simp [take1, Nat.mod_one]
    | some k =>
      simp only
      by_cases hk : o ≤ k * 1
      · rw [if_pos hk]
        have : min k o = o := by omega
        simp [take1, this, Nat.mod_one]
      · rw [if_neg hk]
        have : min k o = k := by omega
        simp [take1, this]
def cutS (os : List Nat) (c : Cnt) : Nat := (List.zipWith (fun o n => take1 n o) os c).sum
theorem part_rows : ∀ (os : List Nat) (c : Cnt), c.length = os.length → ((rowsN (List.replicate os.length 1) (os.map some) c).any fullN = false ∧ ((rowsN (List.replicate os.length 1) (os.map some) c).map payS).sum = cutS os c)
  | [], _, _ => by simp [rowsN, cutS]
  | o :: os, [], h => by simp at h
  | o :: os, n :: c, h => by
    obtain ⟨h1, h2⟩ := part_rows os c (by simpa using h)
    rw [List.length_cons, List.replicate_succ, List.map_cons]
    simp only [rowsN]
    rw [pay_part, List.any_cons, List.map_cons, List.sum_cons, h1, h2]
    refine ⟨rfl, ?_⟩
    simp [payS, cutS]
theorem worth_part (os : List Nat) (c : Cnt) (h : c.length = os.length) : worthN (List.replicate os.length 1) (os.map some) .nothing c = some (cutS os c) := by
  obtain ⟨h1, h2⟩ := part_rows os c h
  unfold worthN
  simp only
  rw [h1, h2]
  rfl
theorem cut_le : ∀ (os : List Nat) (d : Cnt), cutS os d ≤ os.sum
  | [], _ => by simp [cutS]
  | o :: os, [] => by simp [cutS]
  | o :: os, n :: d => by
    have ih := cut_le os d
    show take1 n o + cutS os d ≤ o + os.sum
    exact Nat.add_le_add (take1_le n o) ih
theorem cut_lt : ∀ {os : List Nat} {d : Cnt} {i o : Nat} {n : Num}, os[i]? = some o → d[i]? = some n → take1 n o < o → cutS os d < os.sum
  | [], _, _, _, _, h, _, _ => by simp at h
  | o :: os, [], _, _, _, _, h, _ => by simp at h
  | o :: os, n :: d, 0, _, _, h1, h2, h => by
    simp at h1 h2
    subst h1 h2
    have := cut_le os d
    show take1 n o + cutS os d < o + os.sum
    omega
  | o :: os, n :: d, i + 1, _, _, h1, h2, h => by
    have ih := cut_lt (os := os) (d := d) (i := i) (by simpa using h1) (by simpa using h2) h
    have := take1_le n o
    show take1 n o + cutS os d < o + os.sum
    omega
theorem cut_self : ∀ (G : Nat) (c : Cnt), cutS (c.map (fun n => n.getD (G + 1))) c = (c.map (fun n => n.getD (G + 1))).sum
  | _, [] => by simp [cutS]
  | G, n :: c => by
    have ih := cut_self G c
    rw [List.map_cons, List.sum_cons, ← ih]
    show take1 n (n.getD (G + 1)) + _ = _
    cases n with
    | none => rfl
    | some k =>
      show min k k + _ = k + _
      rw [Nat.min_self]
      rfl
/-- by the allowance told, one is worth more -/
theorem part_more {ps qs : List Cnt} {c : Cnt} {G : Nat} (e : qs ≠ []) (hc : c ∈ ps) (hl : ∀ d ∈ ps, d.length = c.length) (hq : ∀ d ∈ qs, d.length = c.length) (hb : qs.any (below c) = false) (hG : ∀ d ∈ qs, ∀ n, some n ∈ d → n ≤ G) :
    moreN (mostN (List.replicate c.length 1) (c.map (partO G)) .nothing ps) (mostN (List.replicate c.length 1) (c.map (partO G)) .nothing qs) = true := by
  have eo : c.map (partO G) = (c.map (fun n => n.getD (G + 1))).map some := by
    rw [List.map_map]
    rfl
  have el : (c.map (fun n : Num => n.getD (G + 1))).length = c.length := List.length_map _
  have wp : ∀ d : Cnt, d.length = c.length → worthN (List.replicate c.length 1) (c.map (partO G)) .nothing d = some (cutS (c.map (fun n => n.getD (G + 1))) d) := fun d hd => by
    rw [eo]
    have := worth_part (c.map (fun n => n.getD (G + 1))) d (by rw [el]; exact hd)
    rw [el] at this
    exact this
  have lt : ∀ d ∈ qs, cutS (c.map (fun n => n.getD (G + 1))) d < (c.map (fun n => n.getD (G + 1))).sum := fun d hd => by
    have hbd : below c d = false := by
      cases e : below c d with
      | false => rfl
      | true => exact absurd (List.any_eq_true.mpr ⟨d, hd, e⟩) (by rw [hb]; simp)
    obtain ⟨i, a, b, h1, h2, h3⟩ := not_below (hq d hd).symm hbd
    refine cut_lt (i := i) (o := a.getD (G + 1)) (n := b) (by rw [List.getElem?_map, h1]; rfl) h2 ?_
    cases b with
    | none => cases a <;> cases h3
    | some y =>
      have hy := hG d hd y (List.mem_of_getElem? h2)
      cases a with
      | none =>
        show min y (G + 1) < G + 1
        omega
      | some x =>
        have : ¬ x ≤ y := by simpa [leN] using h3
        show min y x < x
        omega
  have e1 : mostN (List.replicate c.length 1) (c.map (partO G)) .nothing qs = some (maxNat (qs.map (cutS (c.map (fun n => n.getD (G + 1)))))) := by
    unfold mostN mostW
    have e : qs.map (worthN (List.replicate c.length 1) (c.map (partO G)) .nothing) = (qs.map (cutS (c.map (fun n => n.getD (G + 1))))).map some := by
      rw [List.map_map]
      exact List.map_congr_left fun d hd => wp d (hq d hd)
    rw [e, if_neg (by simp), List.map_map]
    congr 2
    exact List.map_id _
  have e2 : mostN (List.replicate c.length 1) (c.map (partO G)) .nothing ps = some (maxNat (ps.map (cutS (c.map (fun n => n.getD (G + 1)))))) := by
    unfold mostN mostW
    have e : ps.map (worthN (List.replicate c.length 1) (c.map (partO G)) .nothing) = (ps.map (cutS (c.map (fun n => n.getD (G + 1))))).map some := by
      rw [List.map_map]
      exact List.map_congr_left fun d hd => wp d (hl d hd)
    rw [e, if_neg (by simp), List.map_map]
    congr 2
    exact List.map_id _
  rw [e1, e2]
  show (!decide (_ ≤ _)) = true
  have h1 : (c.map (fun n : Num => n.getD (G + 1))).sum ≤ maxNat (ps.map (cutS (c.map (fun n => n.getD (G + 1))))) := by
    refine le_maxNat (List.mem_map.mpr ⟨c, hc, ?_⟩)
    exact cut_self G c
  have hm := maxNat_mem (l := qs.map (cutS (c.map (fun n => n.getD (G + 1))))) (by simpa using e)
  obtain ⟨d, h3, h4⟩ := List.mem_map.mp hm
  have := lt d h3
  rw [h4] at this
  rw [decide_eq_false (by omega)]
  rfl
end K79
/-! ## KD12 -/
set_option maxRecDepth 100000
set_option maxHeartbeats 2000000
namespace K79
open PySem PySem.Spec PyProof.Rows L2
theorem sum_ints : ∀ ns : List Nat, (ns.map fun n : Nat => (n : Int)).sum = ((ns.sum : Nat) : Int)
  | [] => rfl
  | a :: l => by
    rw [List.map_cons, List.sum_cons, List.sum_cons, sum_ints l]
    omega
def memK : Mem → Str
  | .nothing => "nothing"
  | .times _ => "times"
theorem memV_0 (m : Mem) : (memV m)[0]? = some (.str (memK m)) := by cases m <;> rfl
theorem payN_lim (l : Nat) (o n : Num) : (payN l o n).1 = l := by
  unfold payN
  split
  · rfl
  · split
    · rfl
    · split
      · rfl
      · split <;> rfl
theorem rowsN_lim : ∀ (ls : List Nat) (os : List Num) (ns : Cnt) (r : Row), r ∈ rowsN ls os ns → r.1 ∈ ls
  | [], _, _, _, h => by simp [rowsN] at h
  | _ :: _, [], _, _, h => by simp [rowsN] at h
  | _ :: _, _ :: _, [], _, h => by simp [rowsN] at h
  | l :: ls, o :: os, n :: ns, r, h => by
    simp only [rowsN] at h
    rcases List.mem_cons.mp h with e | h
    · subst e
      rw [payN_lim]
      exact List.mem_cons_self
    · exact List.mem_cons_of_mem _ (rowsN_lim ls os ns r h)
section
variable {P : Program} {w : World} {K : PySem.W.Frag} {mg : Str → Option Value} {base : Heap}
/-! ### Allowance.worth -/
def spWorth (K : PySem.W.Frag) (C : Addr) : Sp := fun vs H Q _ => ∃ (x a : Addr) (days : List Nat) (outs : List Num) (mem : Mem) (c : Cnt), vs = [.ref x, .ref a] ∧ AlwAt K C H x days outs mem ∧ H a = some (.tup (c.map cv)) ∧ Val days.length c ∧ ∀ H', Same H H' → Q (cv (worthN days outs mem c)) H'
theorem scWorth : FnScope ["self", "count", "rows", "total", "area", "number", "row", "limit", "full", "rest"] ["self", "count"] (defScope sAWorth) := ⟨rfl, rfl, rfl, by decide +kernel, rfl, by decide +kernel, by decide +kernel⟩
theorem ok_worth (T : Tx K mg) : Ok P w K mg base 4 (He.ma K (He.ga K "Allowance") "worth") ["self", "count"] (spWorth K (He.ga K "Allowance")) := by
  refine ok_mk T.F_Allowance_worth scWorth (fun _ _ _ _ _ _ us hl => match us, hl with | [_, _], _ => rfl) (fun vs H Q E h => ?_) (fun cdv A outer s H vs Q E hr h => ?_)
  · obtain ⟨x, a, days, outs, mem, c, rfl, _⟩ := h
    rfl
  · obtain ⟨x, a, days, outs, mem, c, rfl, hx, ha, hv, q⟩ := h
    obtain ⟨dx, da, oa, ma, h1, h2, h3, h4⟩ := hx.at_
    refine ⟨_, pss_cons (ps_if (pt_not (pt_val (pc (ok_count T) (hr.mono (by decide)) T.g_is_count (pa_cons (pv 1) (pa_cons (pe_callB call_len_seq (by rfl) T.n_len PySem.boot_len (pa_cons (pe_fld (pv 0) rfl) pa_nil)) pa_nil))))) (pss_one ps_never) pss_nil)
      (pss_cons (ps_setLc (i := 2) (own := [("area", 4), ("number", 5)]) (g := g2 K 4 5) (tt := tYes) rfl scWorth.nd rfl rfl rfl (pi_enumT (by rfl) T.n_enumerate (pa_cons (pv 1) pa_nil)) (blkOk_by (own := [("area", 4), ("number", 5)]) (N := ["self", "count", "rows", "total", "area", "number", "row", "limit", "full", "rest"]) (sc := defScope sAWorth) (by decide +kernel))
          (fun _ _ _ _ _ => pg2 (i := 4) (j := 5) rfl scWorth.nd rfl rfl rfl rfl) (fun _ _ _ _ _ => pts_nil) (fun _ _ _ _ _ => pm (ok_apay T) (hr.mono (by decide)) T.c_Allowance T.m_Allowance_payments (pv 0) (pa_cons (pv 4) (pa_cons (pv 5) pa_nil))))
      (pss_cons (ps_if (pt_cmpR op_eq (pe_ix ix_tup (pe_fld (pv 0) rfl) pe_int (fun _ _ => rfl)) pe_str (nomark _)) (pss_one (ps_ret (pc (ok_heav T) (hr.mono (by decide)) T.g_heaviest (pa_cons (pv 2) (pa_cons (pe_ix ix_tup (pe_fld (pv 0) rfl) pe_int (fun _ _ => rfl)) pa_nil))))) pss_nil)
      (pss_cons (ps_if (pt_val (pe_callB (cr_any rfl) (by rfl) T.n_any (by decide +kernel) (pa_cons
          (pe_lc (own := [("row", 6)]) (g := gName 6) (tt := tYes) (te := tIsN (tOp (rIxT K) (tVar 6) (tC (.int 1)))) rfl scWorth.nd (pi_list (pv 2)) (blkOk_by (own := [("row", 6)]) (N := ["self", "count", "rows", "total", "area", "number", "row", "limit", "full", "rest"]) (sc := defScope sAWorth) (by decide +kernel))
            (fun _ _ _ _ _ => pg_name (i := 6) scWorth.nd rfl (Or.inl rfl)) (fun _ _ _ _ _ => pts_nil) (fun _ _ _ _ _ => pe_cmp (pc_isN (pe_ix ix_tup (pv 6) pe_int (fun _ _ => rfl))) rfl)) pa_nil)))
          (pss_one (ps_ret (pe_ifExp (pt_cmpR op_eq (pe_ix ix_tup (pe_fld (pv 0) rfl) pe_int (fun _ _ => rfl)) pe_str (nomark _)) (pe_ix ix_tup (pe_fld (pv 0) rfl) pe_int (fun _ _ => rfl)) pe_non))) pss_nil)
      (pss_cons (ps_set (i := 3) scWorth.nd rfl (Or.inl rfl) (pe_callB (cr_sum rfl) (by rfl) T.n_sum (by decide +kernel) (pa_cons
          (pe_lc (own := [("limit", 7), ("full", 8), ("rest", 9)]) (g := g3 K 7 8 9) (tt := tYes) rfl scWorth.nd (pi_list (pv 2)) (blkOk_by (own := [("limit", 7), ("full", 8), ("rest", 9)]) (N := ["self", "count", "rows", "total", "area", "number", "row", "limit", "full", "rest"]) (sc := defScope sAWorth) (by decide +kernel))
            (fun _ _ _ _ _ => pg3 (i := 7) (j := 8) (l := 9) rfl scWorth.nd rfl rfl rfl rfl rfl rfl) (fun _ _ _ _ _ => pts_nil) (fun _ _ _ _ _ => pe_op op_add (pe_op op_mul (pv 7) (pv 8)) (pv 9))) pa_nil)))
      (pss_one (ps_ret (pe_ifExp (pt_cmpR op_eq (pe_ix ix_tup (pe_fld (pv 0) rfl) pe_int (fun _ _ => rfl)) pe_str (nomark _))
          (pe_callB (call_min2 rfl) (by rfl) T.n_min (by decide +kernel) (pa_cons (pe_callTy call_int1 (by rfl) T.n_int (by decide +kernel) (pa_cons (pv 3) pa_nil)) (pa_cons (pe_callTy call_int1 (by rfl) T.n_int (by decide +kernel) (pa_cons (pe_ix ix_tup (pe_fld (pv 0) rfl) pe_int (fun _ _ => rfl)) pa_nil)) pa_nil))) (pv 3)))))))), ?_⟩
    refine ⟨_, rfl, _, rfl, x, _, dx, _, _, rfl, h1, T.c_Allowance, T.no_Allowance_by_day, af_day _ _ _, da, _, rfl, .inr (SqT.of h2), a, c, days.length, (by rw [List.length_map]; rfl), ha, hv, hx.hi, fun H1 s1 => ⟨_, rfl, iteF ?_⟩⟩
    -- rows
    refine ⟨_, rfl, a, _, rfl, SqT.of (s1 _ _ ha), lc_same0 (walk_enumT (K := K) (xs := c.map cv)) (fun i acc H' => Paired (RowR H') acc ((rowsN days outs c).take i)) (by rw [List.length_map, hv.len]; have := hx.hi; omega) (fun H' s => s.sqT (SqT.of (s1 _ _ ha))) (fun i acc H H' st h => rowR_stay h st) .nil
      (fun i y H2 H2' acc Kc hi s2 _ pr kc yy => ?_) (fun H2 D rus nD s2 eD lD pr => ?_)⟩
    · obtain ⟨Tp, x1, x2, rfl, nT, rfl, e1, e2⟩ := yy
      cases e1
      obtain ⟨n, en, rfl⟩ := get_map e2
      have hlt : i < c.length := (List.getElem?_eq_some_iff.mp en).1
      have hlt1 : i < days.length := by rw [hv.len] at hlt; exact hlt
      have hlt2 : i < outs.length := by rw [hx.len]; exact hlt1
      have hl : days[i]? = some days[i] := List.getElem?_eq_getElem hlt1
      have ho : outs[i]? = some outs[i] := List.getElem?_eq_getElem hlt2
      have sT := same_upd (o := .tup [.int (i : Nat), cv n]) nT
      refine ⟨Tp, _, rfl, SqT.of upd_same, rfl, _, _, rfl, _, _, rfl, rfl, rfl, ?_⟩
      refine ⟨_, rfl, x, dx, _, rfl, (s1.trans s2).trans sT _ _ h1, af_no _ _ _ (by decide +kernel) (by decide +kernel) (by decide +kernel), _, rfl, _, rfl, ?_⟩
      refine ⟨x, days, outs, mem, i, _, _, n, rfl, hx.stay ((s1.trans s2).trans sT).stay, hl, ho, fun p np => ?_⟩
      refine kc _ _ (sT.trans (same_upd np)) ?_
      rw [take_succ (rowsN_get _ _ _ _ _ _ _ hl ho en)]
      exact paired_app (rowR_stay pr (sT.trans (same_upd np)).stay) (.cons ⟨p, rfl, upd_same⟩ .nil)
    have lr : (rowsN days outs c).length = days.length := rowsN_length _ _ _ hx.len hv.len
    have hrw : Paired (RowR H2) rus (rowsN days outs c) := by
      have e : (rowsN days outs c).take (c.map cv).length = rowsN days outs c := List.take_of_length_le (by rw [lr, List.length_map, hv.len]; exact Nat.le_refl _)
      rw [e] at pr
      exact pr
    have sA := s1.trans s2
    have hlen : rus.length = (rowsN days outs c).length := paired_len hrw
    have h5 := hx.hi
    -- memory[0] == "times"
    refine ⟨_, rfl, x, _, dx, _, _, rfl, sA _ _ h1, T.c_Allowance, T.no_Allowance_memory, af_mem _ _ _, ma, _, _, .str (memK mem), rfl, rfl, sA.sqT h4, atI_nat (j := 0) (memV_0 mem), rfl, _, rfl, ?_⟩
    cases mem with
    | times t =>
      refine iteT ⟨_, rfl, _, rfl, x, _, dx, _, _, rfl, sA _ _ h1, T.c_Allowance, T.no_Allowance_memory, af_mem _ _ _, ma, _, _, .int t, rfl, rfl, sA.sqT h4, atI_nat (j := 1) rfl, ?_⟩
      exact ⟨D, t, rus, _, rfl, eD, hrw, by omega, hx.mok, fun H3 s3 => q H3 (sA.trans s3)⟩
    | nothing =>
      have e0 : decide (V.str (memK .nothing) = V.str "times") = false := by decide +kernel
      rw [e0]
      refine iteF ?_
      -- any full none
      refine ⟨_, rfl, D, rfl, ⟨_, SqL.of eD⟩, lc_same0 (walk_list (K := K) (xs := rus)) (fun i acc _ => acc = (((rowsN days outs c).map fullN).take i).map V.bl) (by omega) (fun H' s => s.seq (SqL.of eD)) (fun _ _ _ _ _ h => h) rfl
        (fun i y H3 H3' acc Kc hi s3 _ pr kc yy => ?_) (fun H3 D3 bs nD3 s3 eD3 lD3 pr3 => ?_)⟩
      · obtain ⟨rfl, ey⟩ := yy
        obtain ⟨r, er, b, rfl, eb⟩ := paired_get hrw ey
        refine ⟨rfl, _, rfl, b, _, _, cv r.2.1, rfl, rfl, SqT.of (s3 _ _ eb), atI_nat (j := 1) rfl, ?_⟩
        show Kc (.bl (decide (cv r.2.1 = .non))) _
        rw [isN]
        refine kc _ _ (Same.refl _) ?_
        rw [pr, take_succ (x := fullN r) (by rw [List.getElem?_map, er]; rfl), List.map_append]
        rfl
      · have e3 : ((rowsN days outs c).map fullN).take rus.length = (rowsN days outs c).map fullN := List.take_of_length_le (by rw [List.length_map]; omega)
        rw [e3] at pr3
        refine ⟨D3, _, rfl, SqL.of (pr3 ▸ eD3), _, rfl, ?_⟩
        have ea : (((rowsN days outs c).map fullN).any id) = (rowsN days outs c).any fullN := by
          rw [List.any_map]
          rfl
        rw [ea]
        have sB := sA.trans s3
        unfold worthN at q
        simp only at q
        cases ef : (rowsN days outs c).any fullN with
        | true =>
          rw [ef, if_pos rfl] at q
          refine iteT ⟨_, rfl, x, _, dx, _, _, rfl, sB _ _ h1, T.c_Allowance, T.no_Allowance_memory, af_mem _ _ _, ma, _, _, .str (memK .nothing), rfl, rfl, sB.sqT h4, atI_nat (j := 0) rfl, rfl, _, rfl, ?_⟩
          have e0 : decide (V.str (memK .nothing) = V.str "sum") = false := by decide +kernel
          rw [e0]
          exact iteF (q _ sB)
        | false =>
          rw [ef, if_neg Bool.false_ne_true] at q
          refine iteF ?_
          refine ⟨_, rfl, D, rfl, ⟨_, SqL.of (s3 _ _ eD)⟩, lc_same0 (walk_list (K := K) (xs := rus)) (fun i acc _ => acc = (((rowsN days outs c).map payS).take i).map dv) (by omega) (fun H' s => s.seq (s3.seq (SqL.of eD))) (fun _ _ _ _ _ h => h) rfl
            (fun i y H4 H4' acc Kc hi s4 _ pr kc yy => ?_) (fun H4 D4 bs nD4 s4 eD4 lD4 pr4 => ?_)⟩
          · obtain ⟨rfl, ey⟩ := yy
            obtain ⟨r, er, b, rfl, eb⟩ := paired_get hrw ey
            have hf : fullN r = false := by
              cases e : fullN r with
              | false => rfl
              | true =>
                rw [List.any_eq_true.mpr ⟨r, List.mem_of_getElem? er, e⟩] at ef
                cases ef
            obtain ⟨r1, r2, r3⟩ := r
            cases r2 with
            | none => cases hf
            | some k =>
              have hlim : r1 ≤ 1000 := hx.few r1 (rowsN_lim _ _ _ (r1, some k, r3) (List.mem_of_getElem? er))
              refine ⟨b, _, rfl, SqT.of (s4 _ _ (s3 _ _ eb)), rfl, _, _, rfl, _, _, rfl, _, _, rfl, rfl, rfl, ?_⟩
              refine ⟨_, rfl, _, rfl, (r1 : Int), (k : Int), rfl, rfl, .inl ⟨by omega, by omega⟩, _, rfl, _, _, rfl, rfl, ?_⟩
              refine kc _ _ (Same.refl _) ?_
              rw [pr, take_succ (x := payS (r1, some k, r3)) (by rw [List.getElem?_map, er]; rfl), List.map_append]
              rfl
          · have e4 : ((rowsN days outs c).map payS).take rus.length = (rowsN days outs c).map payS := List.take_of_length_le (by rw [List.length_map]; omega)
            rw [e4] at pr4
            have sC := sB.trans s4
            refine ⟨D4, ((rowsN days outs c).map payS).map fun n : Nat => (n : Int), rfl, SqL.of (by rw [List.map_map]; exact pr4 ▸ eD4), ?_⟩
            rw [sum_ints]
            refine ⟨_, rfl, x, _, dx, _, _, rfl, sC _ _ h1, T.c_Allowance, T.no_Allowance_memory, af_mem _ _ _, ma, _, _, .str (memK .nothing), rfl, rfl, sC.sqT h4, atI_nat (j := 0) rfl, rfl, _, rfl, ?_⟩
            have e0 : decide (V.str (memK .nothing) = V.str "sum") = false := by decide +kernel
            rw [e0]
            exact iteF ⟨_, rfl, q _ sC⟩
end
end K79
/-! ## KD13 -/
set_option maxRecDepth 100000
set_option maxHeartbeats 2000000
namespace K79
open PySem PySem.Spec PyProof.Rows L2
section
variable {P : Program} {w : World} {K : PySem.W.Frag} {mg : Str → Option Value} {base : Heap}
/-! ### how an allowance is made: Allowance(days, outages=..) and Allowance(days, memory=..) -/
theorem kb_out {fd : FuncData} (F : FunD K "__init__" "Allowance.__init__" (defArgs sAInit) (defBody sAInit) (defScope sAInit) [] [("outages", .non), ("memory", .ref (memAt K))] (He.ma K (He.ga K "Allowance") "__init__") fd) :
    ∃ mv : List Value, KBn K fd ["self", "days", "outages", "memory"] 2 ["outages"] (fun us ws => us ++ ws ++ mv) (fun vs zs => vs ++ zs ++ [V.ref (memAt K)]) :=
  F.kbinds0 2 ["outages"] [("memory", .ref (memAt K))] (fun us mv ws => us ++ ws ++ mv) (by simp) (fun q hq => by
      rcases List.mem_singleton.mp hq with rfl
      simp)
    (fun r1 r2 r3 => (r1.append r3).append r2)
    (fun D doc pm an cdv ct us mv ws l1 l2 l3 => match us, mv, ws, l1, l2, l3 with
      | [_, _], [_], [_], _, _, _ => ⟨_, _, _, _, _, _, rfl, rfl, rfl⟩)
theorem kb_mem {fd : FuncData} (F : FunD K "__init__" "Allowance.__init__" (defArgs sAInit) (defBody sAInit) (defScope sAInit) [] [("outages", .non), ("memory", .ref (memAt K))] (He.ma K (He.ga K "Allowance") "__init__") fd) :
    ∃ mv : List Value, KBn K fd ["self", "days", "outages", "memory"] 2 ["memory"] (fun us ws => us ++ mv ++ ws) (fun vs zs => vs ++ [V.non] ++ zs) :=
  F.kbinds0 2 ["memory"] [("outages", .non)] (fun us mv ws => us ++ mv ++ ws) (by simp) (fun q hq => by
      rcases List.mem_singleton.mp hq with rfl
      simp)
    (fun r1 r2 r3 => (r1.append r2).append r3)
    (fun D doc pm an cdv ct us mv ws l1 l2 l3 => match us, mv, ws, l1, l2, l3 with
      | [_, _], [_], [_], _, _, _ => ⟨_, _, _, _, _, _, rfl, rfl, rfl⟩)
/-! ### BadPart.__init__ -/
theorem oexC (T : Tx K mg) : OexC K (He.ga K "BadPart") := by
  have h := T.more.ex
  unfold exB at h
  obtain ⟨h1, h⟩ := He.ba h
  obtain ⟨h2, h⟩ := He.ba h
  obtain ⟨h3, h⟩ := He.ba h
  obtain ⟨h4, h⟩ := He.ba h
  obtain ⟨h5, h⟩ := He.ba h
  exact ⟨exoB_ok h1, He.eqO_ok h2, of_decide_eq_true h3, of_decide_eq_true h4, h5⟩
theorem xfC (T : Tx K mg) : XfC K (He.ga K "BadPart") := by
  have h := T.more.ex
  unfold exB at h
  obtain ⟨h1, h⟩ := He.ba h
  obtain ⟨h2, h⟩ := He.ba h
  obtain ⟨h3, h⟩ := He.ba h
  obtain ⟨h4, h⟩ := He.ba h
  obtain ⟨h5, h⟩ := He.ba h
  obtain ⟨h6, h⟩ := He.ba h
  exact xfB_ok h6
theorem exI (T : Tx K mg) : PySem.W.findIn K (.ref (He.ga K "BadPart")) "__init__" = some (some (.ref (He.ma K (He.ga K "BadPart") "__init__"))) ∧ PySem.W.typeIn K (.ref (He.ma K (He.ga K "BadPart") "__init__")) = some (.type "function") := by
  have h := T.more.ex
  unfold exB at h
  obtain ⟨h1, h⟩ := He.ba h
  obtain ⟨h2, h⟩ := He.ba h
  obtain ⟨h3, h⟩ := He.ba h
  obtain ⟨h4, h⟩ := He.ba h
  obtain ⟨h5, h⟩ := He.ba h
  obtain ⟨h6, h⟩ := He.ba h
  obtain ⟨h7, h8⟩ := He.ba h
  exact ⟨He.eqO_ok h7, of_decide_eq_true h8⟩
theorem teC (T : Tx K mg) : TeC K (He.ga K "TownError") := by
  have h := T.more.te
  unfold teB at h
  obtain ⟨h1, h⟩ := He.ba h
  obtain ⟨h2, h3⟩ := He.ba h
  exact ⟨h1, He.eqO_ok h2, veI_ok h3⟩
def spBP (C : Addr) : Sp := fun vs H Q _ => ∃ (e : Addr) (v : V), vs = [.ref e, v] ∧ H e = some (exo e C none) ∧ ∀ d, H d = none → d ≠ e → Q .non (upd (upd H d (exd d [("part", v)])) e (exo e C (some d)))
theorem scBP : FnScope ["self", "part"] ["self", "part"] (defScope sBP) := ⟨rfl, rfl, rfl, by decide +kernel, rfl, by decide +kernel, by decide +kernel⟩
theorem ok_bp (T : Tx K mg) : Ok P w K mg base 1 (He.ma K (He.ga K "BadPart") "__init__") ["self", "part"] (spBP (He.ga K "BadPart")) := by
  refine ok_mk T.F_BadPart_init scBP (fun _ _ _ _ _ _ us hl => match us, hl with | [_, _], _ => rfl) (fun vs H Q E h => ?_) (fun cdv A outer s H vs Q E hr h => ?_)
  · obtain ⟨e, v, rfl, _⟩ := h
    rfl
  · obtain ⟨e, v, rfl, he, q⟩ := h
    refine ⟨_, pss_cons (ps_expr (pe_teinit (by rfl) T.g_TownError (teC T) (pa_cons (pv 0) (pa_cons pe_str pa_nil)))) (pss_one (ps_ost (pv 0) (pv 1))), ?_⟩
    refine ⟨_, rfl, e, He.ga K "BadPart", _, rfl, (by show 1 ≤ 1000; decide), oexC T, he, ?_⟩
    exact ⟨_, rfl, _, rfl, e, He.ga K "BadPart", rfl, oexC T, T.no_BadPart_part, .inl ⟨he, fun d nd ne => q d nd ne⟩⟩
/-! ### most_by -/
def spMost (K : PySem.W.Frag) (CR CA : Addr) : Sp := fun vs H Q _ => ∃ (x y : Addr) (ps : List Cnt) (days : List Nat) (outs : List Num) (mem : Mem), vs = [.ref x, .ref y] ∧ RchAt CR H x days.length ps ∧ AlwAt K CA H y days outs mem ∧ ∀ H', Same H H' → Q (cv (mostN days outs mem ps)) H'
theorem scMost : FnScope ["reach", "allowance", "worths", "count", "worth"] ["reach", "allowance"] (defScope sMostBy) := ⟨rfl, rfl, rfl, by decide +kernel, rfl, by decide +kernel, by decide +kernel⟩
theorem inV_non (ws : List Num) : inV .non (ws.map cv) = decide (none ∈ ws) := by
  unfold inV
  induction ws with
  | nil => simp
  | cons a ws ih =>
    rw [List.map_cons, List.any_cons, ih]
    cases a <;> simp [cv, eqV]
theorem flat_cv (ws : List Num) : (ws.map cv).all flatV = true := by
  rw [List.all_map, List.all_eq_true]
  intro v _
  cases v <;> rfl
theorem ok_most (T : Tx K mg) : Ok P w K mg base 5 (He.ga K "most_by") ["reach", "allowance"] (spMost K (He.ga K "Reach") (He.ga K "Allowance")) := by
  refine ok_mk T.F_most_by scMost (fun _ _ _ _ _ _ us hl => match us, hl with | [_, _], _ => rfl) (fun vs H Q E h => ?_) (fun cdv A outer s H vs Q E hr h => ?_)
  · obtain ⟨x, y, ps, days, outs, mem, rfl, _⟩ := h
    rfl
  · obtain ⟨x, y, ps, days, outs, mem, rfl, hx, hy, q⟩ := h
    obtain ⟨dx, pa, pvs, h1, h2, h3⟩ := hx.at_
    obtain ⟨dy, da, oa, ma, k1, k2, k3, k4⟩ := hy.at_
    obtain ⟨fdL, FL, bL⟩ := (ok_alen (P := P) (w := w) (base := base) T).ex
    refine ⟨_, pss_cons (ps_if (PW.pt (pw_or (pt_not (pt_val (pe_callB call_isi (by rfl) T.n_isinstance (by decide +kernel) (pa_cons (pv 0) (pa_cons (pe_glob (v := .ref (He.ga K "Reach")) rfl T.g_Reach rfl) pa_nil)))))
        (pw_or1 (pt_cmpR op_ne (pe_fld (pv 0) rfl) (pe_callB (call_lenI (n := 1) T.m_Allowance_len.at_ T.m_Allowance_len.fn (fnr_of FL bL) (hr.mono (by decide)) pass0) (by rfl) T.n_len PySem.boot_len (pa_cons (pv 1) pa_nil)) (nomark _))))) (pss_one ps_never) pss_nil)
      (pss_cons (ps_setLc (i := 2) (own := [("count", 3)]) (g := gName 3) (tt := tYes) rfl scMost.nd rfl rfl rfl (pi_tup (pe_fld (pv 0) rfl)) (blkOk_by (own := [("count", 3)]) (N := ["reach", "allowance", "worths", "count", "worth"]) (sc := defScope sMostBy) (by decide +kernel))
          (fun _ _ _ _ _ => pg_name (i := 3) scMost.nd rfl (Or.inl rfl)) (fun _ _ _ _ _ => pts_nil) (fun _ _ _ _ _ => pm (ok_worth T) hr T.c_Allowance T.m_Allowance_worth (pv 1) (pa_cons (pv 3) pa_nil)))
      (pss_one (ps_ret (pe_ifExp (pt_cmpR op_in_seq pe_non (pv 2) rfl) pe_non (pe_callB (cr_max rfl) (by rfl) T.n_max (by decide +kernel) (pa_cons
          (pe_lc (own := [("worth", 4)]) (g := gName 4) (tt := tYes) rfl scMost.nd (pi_list (pv 2)) (blkOk_by (own := [("worth", 4)]) (N := ["reach", "allowance", "worths", "count", "worth"]) (sc := defScope sMostBy) (by decide +kernel))
            (fun _ _ _ _ _ => pg_name (i := 4) scMost.nd rfl (Or.inl rfl)) (fun _ _ _ _ _ => pts_nil) (fun _ _ _ _ _ => pe_callTy call_int1 (by rfl) T.n_int (by decide +kernel) (pa_cons (pv 4) pa_nil))) pa_nil)))))), ?_⟩
    refine ⟨_, rfl, _, _, _, _, _, rfl, .own _, ty_own T.more.ownR T.c_Reach h1, T.more.kitR, _, rfl, iteF ?_⟩
    refine ⟨_, rfl, x, _, dx, _, _, rfl, h1, T.c_Reach, T.no_Reach_size, rf_size _ _, _, rfl, y, dy, _, rfl, k1, y, days, outs, mem, rfl, hy, (days.length : Int), rfl, by omega, by have := hy.hi; omega, rfl, _, rfl, ?_⟩
    refine iteNS rfl ?_
    -- worths
    refine ⟨_, rfl, x, _, dx, _, _, rfl, h1, T.c_Reach, T.no_Reach_peaks, rf_peaks _ _, pa, rfl, ⟨_, SqT.of h2⟩, ?_⟩
    refine lc_same0 (walk_tup (K := K) (xs := pvs)) (fun i acc _ => acc = ((ps.map (worthN days outs mem)).take i).map cv) (by have := paired_len h3; have := hx.few; omega) (fun H' s => s.sqT (SqT.of h2)) (fun _ _ _ _ _ h => h) rfl
      (fun i u H1 H1' acc Kc hi s1 _ pr kc yy => ?_) (fun H1 D ws nD s1 eD lD pr => ?_)
    · obtain ⟨rfl, ey⟩ := yy
      obtain ⟨c, ec, hc⟩ := paired_get h3 ey
      obtain ⟨a, rfl, ea⟩ := hc.stay s1.stay
      refine ⟨rfl, _, rfl, y, dy, _, rfl, s1 _ _ k1, af_no _ _ _ (by decide +kernel) (by decide +kernel) (by decide +kernel), _, rfl, ?_⟩
      refine ⟨y, a, days, outs, mem, c, rfl, hy.stay s1.stay, ea, hx.val c (List.mem_of_getElem? ec), fun H2 s2 => kc _ _ s2 ?_⟩
      rw [pr, take_succ (x := worthN days outs mem c) (by rw [List.getElem?_map, ec]; rfl), List.map_append]
      rfl
    · have lp : pvs.length = (ps.map (worthN days outs mem)).length := by rw [List.length_map]; exact paired_len h3
      rw [lp, List.take_length] at pr
      subst pr
      refine ⟨_, rfl, D, _, rfl, .inl (SqL.of eD), rfl, flat_cv _, _, rfl, ?_⟩
      show if inV .non ((ps.map (worthN days outs mem)).map cv) = true then _ else _
      rw [inV_non]
      unfold mostN mostW at q
      by_cases hn : none ∈ ps.map (worthN days outs mem)
      · rw [if_pos hn] at q
        rw [decide_eq_true hn]
        exact iteT (q H1 s1)
      · rw [if_neg hn] at q
        rw [decide_eq_false hn]
        refine iteF ⟨_, rfl, D, rfl, ⟨_, SqL.of eD⟩, lc_same0 (walk_list (K := K) (xs := (ps.map (worthN days outs mem)).map cv)) (fun i acc _ => acc = (((ps.map (worthN days outs mem)).map (·.getD 0)).take i).map dv) (by have := lp; rw [List.length_map]; have := hx.few; rw [List.length_map]; omega) (fun H' s => s.seq (SqL.of eD)) (fun _ _ _ _ _ h => h) rfl
          (fun i u H2 H2' acc Kc hi s2 _ pr kc yy => ?_) (fun H2 D2 ws nD2 s2 eD2 lD2 pr => ?_)⟩
        · obtain ⟨rfl, ey⟩ := yy
          obtain ⟨n, en, rfl⟩ := get_map ey
          cases n with
          | none => exact absurd (List.mem_of_getElem? en) hn
          | some m =>
            refine ⟨rfl, _, rfl, .inl ⟨(m : Int), rfl, kc _ _ (Same.refl _) ?_⟩⟩
            rw [pr, take_succ (x := m) (by rw [List.getElem?_map, en]; rfl), List.map_append]
            rfl
        · rw [List.length_map, List.take_of_length_le (by rw [List.length_map]; exact Nat.le_refl _)] at pr
          subst pr
          refine ⟨D2, ((ps.map (worthN days outs mem)).map (·.getD 0)).map fun n : Nat => (n : Int), rfl, SqL.of (by rw [List.map_map]; exact eD2), ?_, fun m hm hmax => ?_⟩
          · rw [List.length_map, List.length_map, List.length_map]
            exact List.length_pos_iff.mpr hx.some_
          · obtain ⟨m', hm', rfl⟩ := List.mem_map.mp hm
            have e : m' = maxNat ((ps.map (worthN days outs mem)).map (·.getD 0)) := maxNat_eq hm' fun z hz => by
              have := hmax (z : Int) (List.mem_map.mpr ⟨z, hz, rfl⟩)
              omega
            have q2 := q H2 (s1.trans s2)
            rw [← e] at q2
            exact q2
end
end K79
/-! ## KD14 -/
set_option maxRecDepth 100000
set_option maxHeartbeats 2000000
namespace K79
open PySem PySem.Spec PyProof.Rows L2
/-- the numbers of a reach -/
def numsN (cs : List Cnt) : List Nat := (cs.map (List.filterMap id)).flatten
theorem nums_succ {cs : List Cnt} {i : Nat} {c : Cnt} (h : cs[i]? = some c) : numsN (cs.take (i + 1)) = numsN (cs.take i) ++ c.filterMap id := by
  unfold numsN
  rw [take_succ h, List.map_append, List.flatten_append]
  simp
theorem mem_nums {cs : List Cnt} {n : Nat} : n ∈ numsN cs ↔ ∃ c ∈ cs, some n ∈ c := by
  unfold numsN
  rw [List.mem_flatten]
  constructor
  · rintro ⟨l, hl, hn⟩
    obtain ⟨c, hc, rfl⟩ := List.mem_map.mp hl
    obtain ⟨a, ha, hb⟩ := List.mem_filterMap.mp hn
    have hb2 : a = some n := hb
    rw [hb2] at ha
    exact ⟨c, hc, ha⟩
  · rintro ⟨c, hc, hn⟩
    exact ⟨_, List.mem_map.mpr ⟨c, hc, rfl⟩, List.mem_filterMap.mpr ⟨some n, hn, rfl⟩⟩
theorem ints_eqv (ns : List Nat) : PyData.eqv (.list ((ns.map some).map nD)) (.list []) = decide (ns = []) := by
  rw [PyData.eqv]
  have h := nD_eqv (ns.map some) []
  rw [List.map_nil] at h
  rw [h]
  cases ns <;> simp
theorem ints_shaped (c : Cnt) : SeqAt.shaped (.list (c.map nD)) = true := by
  unfold SeqAt.shaped
  rw [PyData.canLay0, nD_lay, PyData.depth, nD_depth]
  rfl
section
variable {P : Program} {w : World} {K : PySem.W.Frag} {mg : Str → Option Value} {base : Heap}
/-! ### parting_allowance -/
/-- a BadPart, its part v -/
def Told (CB : Addr) (H : Hp) (v : V) (E : XK) : Prop := ∀ d H', Same H H' → H' d = some (.xd [("part", v)]) → E (.ref CB) (some d) H'
def spPart (K : PySem.W.Frag) (CR CA CB : Addr) : Sp := fun vs H Q E =>
  (∃ (x y : Addr) (k : Nat) (ps qs : List Cnt), vs = [.ref x, .ref y] ∧ RchAt CR H x k ps ∧ RchAt CR H y k qs ∧ (∀ H', Same H H' → (ps.all fun c => qs.any (below c)) = true → Q .non H') ∧
    ∀ H' t c G, Same H H' → c ∈ ps → qs.any (below c) = false → (∀ d ∈ qs, ∀ n, some n ∈ d → n ≤ G) → AlwAt K CA H' t (List.replicate k 1) (c.map (partO G)) .nothing → Q (.ref t) H') ∨
  (∃ y : V, vs = [.non, y] ∧ Told CB H (.str "one") E) ∨
  (∃ (x : Addr) (k : Nat) (ps : List Cnt), vs = [.ref x, .non] ∧ RchAt CR H x k ps ∧ Told CB H (.str "other") E) ∨
  (∃ (x y : Addr) (k l : Nat) (ps qs : List Cnt), vs = [.ref x, .ref y] ∧ RchAt CR H x k ps ∧ RchAt CR H y l qs ∧ l ≠ k ∧ Told CB H (.str "other") E)
theorem scPart : FnScope ["one", "other", "numbers", "greatest", "count", "number"] ["one", "other"] (defScope sPart) := ⟨rfl, rfl, rfl, by decide +kernel, rfl, by decide +kernel, by decide +kernel⟩
/-- raise BadPart(s) -/
theorem raise_reading {σ : L2.St} {H : Hp} {CB : Addr} {Q : XK} {z : Str} (h : Told CB H (.str z) Q) : tMkO CB (spBP CB) [] (tCons (tC (.str z)) tNil) σ H Q := by
  refine ⟨(by show 1 ≤ 1000; decide), fun a na => ⟨a, .str z, rfl, upd_same, fun d nd ne => ⟨rfl, d, _, upd_same, by rw [upd_ne ne, upd_same], by rw [upd_ne ne] at nd; exact nd, ?_⟩⟩⟩
  rw [upd_ne ne] at nd
  refine h d _ (fun b o e => ?_) upd_same
  have hba : b ≠ a := ne_of_none e na
  have hbd : b ≠ d := ne_of_none e nd
  rw [upd_ne hbd, del_ne hba, upd_ne hba, upd_ne hbd, upd_ne hba]
  exact e
abbrev rInt1 : List V → Hp → VK → Prop := fun xs H Q => (∃ i, xs = [.int i] ∧ Q (.int i) H) ∨ ∃ k, xs = [.bl k] ∧ Q (.int (if k = true then 1 else 0)) H
theorem great_reading {x y : V} {D : Addr} {H : Hp} {C : VK} {ns : List Nat} (hD : H D = some (.lst (ns.map dv))) (hl : ns.length ≤ 84) (q : ∀ H', Same H H' → C (.int (maxNat ns : Nat)) H') :
    tIf (tTest (tOp (rNeD K) (tVar 2) (tLst tNil))) (tCB (rMax K) (tCons (tLc (iList K (tVar 2)) (gName 5) tYes (tCB rInt1 (tCons (tVar 5) tNil)) [5]) tNil)) (tC (.int 0)) [some x, some y, some (.ref D), none, none, none] H C := by
  refine ⟨_, rfl, small (by show 0 ≤ _; decide), fun z nz => ?_⟩
  have s1 := same_upd (o := .lst []) nz
  have hD2 := s1 _ _ hD
  have hD3 := hD2
  rw [dv_cv] at hD3
  refine ⟨.list ((ns.map some).map nD), .list [], .lst (SqL.of hD3) (nD_dp _), .lst (SqL.of upd_same) .nil, ints_shaped _, ints_shaped [], _, rfl, ?_⟩
  rw [ints_eqv]
  by_cases hn : ns = []
  · rw [decide_eq_true hn]
    refine iteF ?_
    subst hn
    exact q _ s1
  · rw [decide_eq_false hn]
    refine iteT ⟨_, rfl, D, rfl, ⟨_, SqL.of hD2⟩, lc_same0 (walk_list (K := K) (xs := ns.map dv)) (fun i acc _ => acc = (ns.take i).map dv) (by rw [List.length_map]; omega) (fun H' s => s.seq (SqL.of hD2)) (fun _ _ _ _ _ h => h) rfl
      (fun i u H2 H2' acc Kc hi s2 _ pr kc yy => ?_) (fun H2 D2 ws nD2 s2 eD2 lD2 pr => ?_)⟩
    · obtain ⟨rfl, ey⟩ := yy
      obtain ⟨m, em, rfl⟩ := get_map ey
      refine ⟨rfl, _, rfl, .inl ⟨(m : Int), rfl, kc _ _ (Same.refl _) ?_⟩⟩
      rw [pr, take_succ em, List.map_append]
      rfl
    · rw [List.length_map, List.take_length] at pr
      subst pr
      refine ⟨D2, ns.map fun n : Nat => (n : Int), rfl, SqL.of (by rw [List.map_map]; exact eD2), ?_, fun m hm hmax => ?_⟩
      · rw [List.length_map]
        exact List.length_pos_iff.mpr hn
      · obtain ⟨m', hm', rfl⟩ := List.mem_map.mp hm
        have e : m' = maxNat ns := maxNat_eq hm' fun z hz => by
          have := hmax (z : Int) (List.mem_map.mpr ⟨z, hz, rfl⟩)
          omega
        have q2 := q H2 (s1.trans s2)
        rw [← e] at q2
        exact q2
theorem part_out {n : Num} {G : Nat} : (if n.isNone = true then V.int ((G : Int) + 1) else cv n) = cv (partO G n) := by
  cases n <;> rfl
theorem ok_part (T : Tx K mg) : ∃ fd, FnOk P w K mg base (L2.CX P w) 6 (He.ga K "parting_allowance") fd ["one", "other"] (spPart K (He.ga K "Reach") (He.ga K "Allowance") (He.ga K "BadPart")) ∧ Binds K fd ["one", "other"] [] ∧ PySem.W.keepIn K (.ref (He.ga K "parting_allowance")) = true := by
  obtain ⟨fd, F⟩ := T.F_parting_allowance
  refine ⟨fd, F.ok scPart (fun vs H Q E h => ?_) (fun cdv A outer s H vs Q E hr h => ?_), F.bindsN (fun _ _ _ _ _ _ us hl => match us, hl with | [_, _], _ => rfl), F.kp⟩
  · rcases h with ⟨_, _, _, _, _, rfl, _⟩ | ⟨_, rfl, _⟩ | ⟨_, _, _, rfl, _⟩ | ⟨_, _, _, _, _, _, rfl, _⟩ <;> rfl
  · obtain ⟨fdB, FB, bB⟩ := (ok_bp (P := P) (w := w) (base := base) T).ex
    obtain ⟨fdC, FC, bC⟩ := (ok_rcont (P := P) (w := w) (base := base) T).ex
    obtain ⟨fdA, DA, FA⟩ := ok_ainit (P := P) (w := w) (base := base) T
    obtain ⟨mv, kb⟩ := kb_out DA
    have rz : ∀ {x m : Str} {j : Nat} {p p2 pos pos2 : Pos} {X : Cx} (hg : Gl X x), True := fun _ => trivial
    refine ⟨_, pss_cons (ps_if (pt_not (pt_val (pe_callB call_isi (by rfl) T.n_isinstance (by decide +kernel) (pa_cons (pv 0) (pa_cons (pe_glob (v := .ref (He.ga K "Reach")) rfl T.g_Reach rfl) pa_nil)))))
          (pss_one (ps_raise rfl (takes_of rfl rfl rfl rfl) (pmk_oex (oexC T) (exI T).1 (exI T).2 FB (hr.mono (by decide)) bB .nil pass0 (by rfl) T.g_BadPart (pa_cons pe_str pa_nil)))) pss_nil)
      (pss_cons (ps_if (PW.pt (pw_or (pt_not (pt_val (pe_callB call_isi (by rfl) T.n_isinstance (by decide +kernel) (pa_cons (pv 1) (pa_cons (pe_glob (v := .ref (He.ga K "Reach")) rfl T.g_Reach rfl) pa_nil)))))
          (pw_or1 (pt_cmpR op_ne (pe_fld (pv 1) rfl) (pe_fld (pv 0) rfl) (nomark _)))))
          (pss_one (ps_raise rfl (takes_of rfl rfl rfl rfl) (pmk_oex (oexC T) (exI T).1 (exI T).2 FB (hr.mono (by decide)) bB .nil pass0 (by rfl) T.g_BadPart (pa_cons pe_str pa_nil)))) pss_nil)
      (PSs.nox (pss_cons (ps_setLc2 (i := 2) (own := [("count", 4), ("number", 5)]) (vs1 := [5]) (g := gName 4) (tt := tYes) (wi1 := iTup K (tVar 4)) (g1 := gName 5) (tt1 := tB (tNotN (tVar 5))) (te := tVar 5) rfl scPart.nd rfl rfl rfl (pi_tup (pe_fld (pv 1) rfl))
            (blkOk_by (own := [("count", 4), ("number", 5)]) (N := ["one", "other", "numbers", "greatest", "count", "number"]) (sc := defScope sPart) (by decide +kernel)) (by decide)
            (fun _ _ _ _ _ => pg_name (i := 4) scPart.nd rfl (Or.inl rfl)) (fun _ _ _ _ _ => pts_nil) (fun _ _ _ _ _ => pi_tup (pv 4)) (fun _ _ _ _ _ => pg_name (i := 5) scPart.nd rfl (Or.inl rfl)) (fun _ _ _ _ _ => pts_one (pt_cmp (pc_notN (pv 5)) rfl)) (fun _ _ _ _ _ => pv 5))
      (pss_cons (ps_set (i := 3) scPart.nd rfl (Or.inr rfl) (pe_ifExp (pt_cmpR (op_neD hr.units) (pv 2) (pe_lst pa_nil) (nomark _))
          (pe_callB (cr_max rfl) (by rfl) T.n_max (by decide +kernel) (pa_cons
            (pe_lc (own := [("number", 5)]) (g := gName 5) (tt := tYes) rfl scPart.nd (pi_list (pv 2)) (blkOk_by (own := [("number", 5)]) (N := ["one", "other", "numbers", "greatest", "count", "number"]) (sc := defScope sPart) (by decide +kernel))
              (fun _ _ _ _ _ => pg_name (i := 5) scPart.nd rfl (Or.inl rfl)) (fun _ _ _ _ _ => pts_nil) (fun _ _ _ _ _ => pe_callTy call_int1 (by rfl) T.n_int (by decide +kernel) (pa_cons (pv 5) pa_nil))) pa_nil)) pe_int))
      (pss_cons (ps_for PassesOwn.never rfl (pi_tup (pe_fld (pv 0) rfl)) (pg_name (i := 4) scPart.nd rfl (Or.inl rfl))
          (pss_one (ps_if (pt_cmpR (op_notInI T.m_Reach_contains.at_ T.m_Reach_contains.fn (fnr_of FC bC) (hr.mono (by decide)) pass0) (pv 4) (pv 1) rfl)
            (pss_one (ps_ret (pe_makeK (n := 1) (ks := ["outages"]) T.mk_Allowance FA (hr.mono (by decide)) rfl T.g_Allowance kb pass0 (pa_cons (pe_op op_rep (pe_lst (pa_cons pe_int pa_nil)) (pe_fld (pv 0) rfl)) pa_nil)
              (pk_cons (pe_lc (own := [("number", 5)]) (g := gName 5) (tt := tYes) rfl scPart.nd (pi_tup (pv 4)) (blkOk_by (own := [("number", 5)]) (N := ["one", "other", "numbers", "greatest", "count", "number"]) (sc := defScope sPart) (by decide +kernel))
                (fun _ _ _ _ _ => pg_name (i := 5) scPart.nd rfl (Or.inl rfl)) (fun _ _ _ _ _ => pts_nil) (fun _ _ _ _ _ => pe_ifExp (pt_cmp (pc_isN (pv 5)) rfl) (pe_op op_add (pv 3) pe_int) (pv 5))) pk_nil)))) pss_nil)))
      (pss_one (ps_ret pe_non))))))), ?_⟩
    rcases h with ⟨x, y, k, ps, qs, rfl, hx, hy, qn, qt⟩ | ⟨y, rfl, hT⟩ | ⟨x, k, ps, rfl, hx, hT⟩ | ⟨x, y, k, l, ps, qs, rfl, hx, hy, hne, hT⟩
    · obtain ⟨dx, pa, pvs, h1, h2, h3⟩ := hx.at_
      obtain ⟨dy, pb, qvs, k1, k2, k3⟩ := hy.at_
      refine ⟨_, rfl, _, _, _, _, _, rfl, .own _, ty_own T.more.ownR T.c_Reach h1, T.more.kitR, _, rfl, iteF ?_⟩
      refine ⟨_, rfl, _, _, _, _, _, rfl, .own _, ty_own T.more.ownR T.c_Reach k1, T.more.kitR, _, rfl, iteF ?_⟩
      refine ⟨_, rfl, y, _, dy, _, _, rfl, k1, T.c_Reach, T.no_Reach_size, rf_size _ _, _, rfl, x, _, dx, _, _, rfl, h1, T.c_Reach, T.no_Reach_size, rf_size _ _, rfl, _, rfl, ?_⟩
      refine iteNS rfl ?_
      -- numbers
      have lq : qvs.length = qs.length := paired_len k3
      have fq := hy.few
      have w0 := walk_tup (K := K) (a := pb) (xs := qvs)
      refine ⟨_, rfl, y, _, dy, _, _, rfl, k1, T.c_Reach, T.no_Reach_peaks, rf_peaks _ _, pb, rfl, ⟨_, SqT.of k2⟩, fun D nD => ?_⟩
      refine ⟨fun i m H' => m = qvs.length - i ∧ i ≤ qvs.length ∧ (numsN (qs.take i)).length ≤ 4 * i ∧ H' D = some (.lst ((numsN (qs.take i)).map dv)) ∧ Same H H', ⟨_, rfl, Nat.zero_le _, Nat.zero_le _, upd_same, same_upd nD⟩, ?_⟩
      rintro i m H1 ⟨rfl, hi, la, eD, s1⟩
      by_cases hlt : i < qvs.length
      · refine .inr ⟨w0.goes i H1 hlt (s1.sqT (SqT.of k2)), fun H' => (numsN (qs.take (i + 1))).length ≤ 4 * (i + 1) ∧ H' D = some (.lst ((numsN (qs.take (i + 1))).map dv)) ∧ Same H H', fun H' p' => ⟨qvs.length - (i + 1), by omega, rfl, hlt, p'⟩, fun u H1' yy => ?_⟩
        obtain ⟨rfl, ey⟩ := w0.yields i H1 u H1' hlt (s1.sqT (SqT.of k2)) yy
        obtain ⟨c, ec, hc⟩ := paired_get k3 ey
        obtain ⟨a, rfl, ea⟩ := hc.stay s1.stay
        have lc : c.length ≤ 4 := by
          rw [(hy.val c (List.mem_of_getElem? ec)).len]
          exact hy.hi
        rw [nums_succ ec]
        have w1 := walk_tup (K := K) (a := a) (xs := c.map cv)
        refine ⟨rfl, ?_⟩
        refine ⟨_, rfl, a, rfl, ⟨_, SqT.of ea⟩, fun j m H' => m = c.length - j ∧ j ≤ c.length ∧ (numsN (qs.take i) ++ (c.take j).filterMap id).length ≤ 4 * i + j ∧ H' D = some (.lst ((numsN (qs.take i) ++ (c.take j).filterMap id).map dv)) ∧ Same H H' ∧ H' a = some (.tup (c.map cv)),
          ⟨_, rfl, Nat.zero_le _, by simpa using la, by simpa using eD, s1, ea⟩, ?_⟩
        rintro j m H2 ⟨rfl, hj, lb, eD2, s2, ea2⟩
        by_cases hlt2 : j < c.length
        · refine .inr ⟨w1.goes j H2 (by rw [List.length_map]; exact hlt2) (SqT.of ea2), fun H' => (numsN (qs.take i) ++ (c.take (j + 1)).filterMap id).length ≤ 4 * i + (j + 1) ∧ H' D = some (.lst ((numsN (qs.take i) ++ (c.take (j + 1)).filterMap id).map dv)) ∧ Same H H' ∧ H' a = some (.tup (c.map cv)),
            fun H' p' => ⟨c.length - (j + 1), by omega, rfl, hlt2, p'⟩, fun u H2' yy => ?_⟩
          obtain ⟨rfl, ey2⟩ := w1.yields j H2 u H2' (by rw [List.length_map]; exact hlt2) (SqT.of ea2) yy
          obtain ⟨n, en, rfl⟩ := get_map ey2
          rw [take_succ en, List.filterMap_append]
          refine ⟨rfl, _, rfl, _, rfl, ?_⟩
          cases n with
          | none =>
            refine iteF ⟨?_, ?_, s2, ea2⟩
            · simp only [List.filterMap_cons, List.filterMap_nil, List.append_nil, id]
              omega
            · simpa using eD2
          | some m =>
            have hDa : a ≠ D := ne_of ea2 eD2 (by intro z; cases z)
            refine iteT ⟨_, rfl, _, eD2, small' (by rw [List.length_map]; omega), ?_, ?_, ?_, ?_⟩
            · have e : (List.filterMap id [some m] : List Nat) = [m] := rfl
              rw [e, ← List.append_assoc, List.length_append]
              exact Nat.succ_le_succ lb
            · have e : (List.filterMap id [some m] : List Nat) = [m] := rfl
              rw [upd_same, e, ← List.append_assoc, List.map_append (l₂ := [m])]
              rfl
            · intro b o e
              rw [upd_ne (ne_of_none e nD)]
              exact s2 b o e
            · rw [upd_ne hDa]
              exact ea2
        · have e : j = c.length := by omega
          subst e
          rw [List.take_length] at lb eD2
          refine .inl ⟨?_, ?_, eD2, s2⟩
          · have := w1.stops H2 (SqT.of ea2)
            rw [List.length_map] at this
            exact this
          · omega
      · have e : i = qvs.length := by omega
        subst e
        refine .inl ⟨w0.stops H1 (s1.sqT (SqT.of k2)), ?_⟩
        rw [lq, List.take_length] at eD
        have l84 : (numsN qs).length ≤ 84 := by
          rw [lq, List.take_length] at la
          omega
        refine great_reading eD l84 fun H2 s2 => ?_
        have sA := s1.trans s2
        -- the loop
        refine ⟨_, rfl, x, _, dx, _, _, rfl, sA _ _ h1, T.c_Reach, T.no_Reach_peaks, rf_peaks _ _, pa, rfl, ⟨_, SqT.of (sA _ _ h2)⟩, for_it (walk_tup (K := K) (xs := pvs)) (fun i σ H' => ∃ y4, σ = [some (.ref x), some (.ref y), some (.ref D), some (.int (maxNat (numsN qs) : Nat)), y4, none] ∧ Same H2 H' ∧ ∀ c ∈ ps.take i, qs.any (below c) = true)
          ⟨none, rfl, Same.refl _, by simp⟩ (fun i σ H' _ ⟨_, _, s3, _⟩ => s3.sqT (SqT.of (sA _ _ h2))) (fun i u σ H3 H3' hi hp yy => ?_) (fun σ H3 hp => ?_)⟩
        · obtain ⟨y4, rfl, s3, hall⟩ := hp
          obtain ⟨rfl, ey⟩ := yy
          obtain ⟨c, ec, hc⟩ := paired_get h3 ey
          have sB := sA.trans s3
          obtain ⟨a, rfl, ea⟩ := hc.stay sB.stay
          have hcm := List.mem_of_getElem? ec
          have hv := hx.val c hcm
          refine ⟨_, rfl, _, rfl, y, dy, _, rfl, sB _ _ k1, y, a, k, qs, c, rfl, hy.stay sB.stay, ea, hv, fun H4 s4 => ⟨_, rfl, _, rfl, ?_⟩⟩
          have sC := sB.trans s4
          cases eb : qs.any (below c) with
          | true =>
            refine iteF ⟨some (.ref a), rfl, s3.trans s4, fun d hd => ?_⟩
            rw [take_succ ec] at hd
            rcases List.mem_append.mp hd with h | h
            · exact hall d h
            · rcases List.mem_singleton.mp h with rfl
              exact eb
          | false =>
            refine iteT ?_
            -- Allowance([1] * one.size, outages = ..)
            refine ⟨small (by show 1 ≤ _; decide), fun p1 n1 => ?_⟩
            have t1 := same_upd (o := .lst [.int 1]) n1
            refine ⟨_, rfl, x, _, dx, _, _, rfl, t1 _ _ (sC _ _ h1), T.c_Reach, T.no_Reach_size, rf_size _ _, p1, (k : Int), _, rfl, rfl, upd_same, by omega, by have := hx.hi; omega, small (by have := hx.hi; simp; omega), fun p2 n2 => ?_⟩
            have e2 : (List.replicate (k : Int).toNat [V.int 1]).flatten = (List.replicate k 1).map dv := by
              rw [Int.toNat_natCast, List.map_replicate]
              exact rep_flat _ k
            rw [e2]
            have t2 := t1.trans (same_upd (o := .lst ((List.replicate k 1).map dv)) n2)
            have ed2 : upd (upd H4 p1 (.lst [.int 1])) p2 (.lst ((List.replicate k 1).map dv)) p2 = some (.lst ((List.replicate k 1).map dv)) := upd_same
            generalize upd (upd H4 p1 (.lst [.int 1])) p2 (.lst ((List.replicate k 1).map dv)) = H5 at t2 ed2 ⊢
            have eca := t2 _ _ (s4 _ _ ea)
            refine ⟨_, rfl, a, rfl, ⟨_, SqT.of eca⟩, lc_same0 (walk_tup (K := K) (xs := c.map cv)) (fun i acc _ => acc = ((c.map (partO (maxNat (numsN qs)))).take i).map cv) (by rw [List.length_map, hv.len]; have := hx.hi; omega) (fun H' s => s.sqT (SqT.of eca)) (fun _ _ _ _ _ h => h) rfl
              (fun j u H6 H6' acc Kc hj s6 _ pr kc yy => ?_) (fun H6 D6 ws nD6 s6 eD6 lD6 pr => ?_)⟩
            · obtain ⟨rfl, ey⟩ := yy
              obtain ⟨n, en, rfl⟩ := get_map ey
              have fin : Kc (cv (partO (maxNat (numsN qs)) n)) H6' := kc _ _ (Same.refl _) (by rw [pr, take_succ (x := partO (maxNat (numsN qs)) n) (by rw [List.getElem?_map, en]; rfl), List.map_append]; rfl)
              refine ⟨rfl, _, rfl, _, rfl, ?_⟩
              cases n with
              | none => exact iteT ⟨_, rfl, _, _, rfl, rfl, fin⟩
              | some m => exact iteF ⟨_, rfl, fin⟩
            · rw [List.length_map, ← List.length_map (as := c) (f := partO (maxNat (numsN qs))), List.take_length] at pr
              subst pr
              refine ⟨rfl, rfl, fun X dX nX ndX dne => ?_⟩
              have hup : ∀ b o, H6 b = some o → upd (upd H6 dX (.own X)) X (.ins (He.ga K "Allowance") dX []) b = some o := fun b o e => by
                rw [upd_ne (ne_of_none e nX), upd_ne (ne_of_none e ndX)]
                exact e
              refine ⟨X, dX, p2, memAt K, .ref D6, List.replicate k 1, c.map (partO (maxNat (numsN qs))), .nothing, rfl, upd_same, hup _ _ (s6 _ _ ed2), .inr ⟨D6, rfl, hup _ _ eD6⟩, ?_, ?_, ?_, fun l hl => ?_, fun z hz => .inl ?_, tupAt_ok T.more.mem _, trivial, fun H7 k7 al => ⟨rfl, ?_⟩⟩
              · rw [List.length_map, List.length_replicate, hv.len]
              · rw [List.length_replicate]
                exact hx.lo
              · rw [List.length_replicate]
                exact hx.hi
              · rw [(List.mem_replicate.mp hl).2]
                decide
              · obtain ⟨n, hn, rfl⟩ := List.mem_map.mp hz
                have hG : maxNat (numsN qs) ≤ 10 ^ 29 := by
                  by_cases en : numsN qs = []
                  · rw [en]
                    exact Nat.zero_le _
                  · obtain ⟨d, hd, hm⟩ := mem_nums.mp (maxNat_mem en)
                    exact (hy.val d hd).top _ hm
                cases n with
                | none => exact decide_eq_true (show maxNat (numsN qs) + 1 ≤ 10 ^ 30 by omega)
                | some m => exact decide_eq_true (Nat.le_trans (hv.top m hn) (by decide))
              · refine qt H7 X c (maxNat (numsN qs)) (fun b o e => ?_) hcm eb (fun d hd n hn => le_maxNat (mem_nums.mpr ⟨d, hd, hn⟩)) al
                have e6 := s6 _ _ (t2 _ _ (sC _ _ e))
                exact k7 b o (ne_of_none e6 nX) (hup _ _ e6)
        · obtain ⟨y4, rfl, s3, hall⟩ := hp
          rw [paired_len h3, List.take_length] at hall
          exact qn H3 (sA.trans s3) (List.all_eq_true.mpr hall)
    · refine ⟨_, rfl, _, _, _, _, _, rfl, .own _, .base .non, T.more.kitN, _, rfl, iteT ?_⟩
      exact raise_reading hT
    · obtain ⟨dx, pa, pvs, h1, h2, h3⟩ := hx.at_
      refine ⟨_, rfl, _, _, _, _, _, rfl, .own _, ty_own T.more.ownR T.c_Reach h1, T.more.kitR, _, rfl, iteF ?_⟩
      refine ⟨_, rfl, _, _, _, _, _, rfl, .own _, .base .non, T.more.kitN, _, rfl, iteT ?_⟩
      exact iteT (raise_reading hT)
    · obtain ⟨dx, pa, pvs, h1, h2, h3⟩ := hx.at_
      obtain ⟨dy, pb, qvs, k1, k2, k3⟩ := hy.at_
      refine ⟨_, rfl, _, _, _, _, _, rfl, .own _, ty_own T.more.ownR T.c_Reach h1, T.more.kitR, _, rfl, iteF ?_⟩
      refine ⟨_, rfl, _, _, _, _, _, rfl, .own _, ty_own T.more.ownR T.c_Reach k1, T.more.kitR, _, rfl, iteF ?_⟩
      refine ⟨_, rfl, y, _, dy, _, _, rfl, k1, T.c_Reach, T.no_Reach_size, rf_size _ _, _, rfl, x, _, dx, _, _, rfl, h1, T.c_Reach, T.no_Reach_size, rf_size _ _, rfl, _, rfl, ?_⟩
      have e : decide (V.int (l : Nat) = V.int (k : Nat)) = false := decide_eq_false (fun z => hne (by
        have z2 := V.int.inj z
        omega))
      rw [e]
      exact iteT (raise_reading hT)
end
end K79
/-! ## KD15 -/
set_option maxRecDepth 100000
set_option maxHeartbeats 2000000
namespace K79
open PySem PySem.Spec PyProof.Rows L2
section
variable {P : Program} {w : World} {K : PySem.W.Frag} {mg : Str → Option Value} {base : Heap}
/-! ### _law_more -/
def spMore : Sp := fun vs H Q _ => ∃ a b : Num, vs = [cv a, cv b] ∧ Q (.bl (moreN a b)) H
theorem scMore : FnScope ["_law_one", "_law_other"] ["_law_one", "_law_other"] (defScope sMore) := ⟨rfl, rfl, rfl, by decide +kernel, rfl, by decide +kernel, by decide +kernel⟩
theorem ok_more (T : Tx K mg) : Ok P w K mg base 1 (He.ga K "_law_more") ["_law_one", "_law_other"] spMore := by
  refine ok_mk T.F_law_more scMore (fun _ _ _ _ _ _ us hl => match us, hl with | [_, _], _ => rfl) (fun vs H Q E h => ?_) (fun cdv A outer s H vs Q E hr h => ?_)
  · obtain ⟨a, b, rfl, _⟩ := h
    rfl
  · obtain ⟨a, b, rfl, q⟩ := h
    refine ⟨_, pss_one (ps_ret (pe_and (pe_cmp (pc_notN (pv 1)) rfl) (pe_one (pe_or (pe_cmp (pc_isN (pv 0)) rfl) (pe_one (pe_cmpR op_gt (pv 0) (pv 1) (nomark _))))))), ?_⟩
    cases b with
    | none =>
      have e : moreN a none = false := by cases a <;> rfl
      rw [e] at q
      exact ⟨_, rfl, _, rfl, iteF q⟩
    | some n =>
      refine ⟨_, rfl, _, rfl, iteT ?_⟩
      cases a with
      | none => exact ⟨_, rfl, _, rfl, iteT q⟩
      | some m =>
        refine ⟨_, rfl, _, rfl, iteF ⟨_, rfl, _, rfl, _, _, rfl, rfl, ?_⟩⟩
        have e : moreN (some m) (some n) = decide ((n : Int) < (m : Int)) := by
          show (!decide (m ≤ n)) = _
          by_cases h : m ≤ n
          · rw [decide_eq_true h, decide_eq_false (by omega)]
            rfl
          · rw [decide_eq_false h, decide_eq_true (by omega)]
            rfl
        rw [e] at q
        exact q
/-! ### _law_refused -/
def spRefused (CR : Addr) : Sp := fun vs H Q _ =>
  (∃ y : V, vs = [.non, y] ∧ ∀ H', Same H H' → Q (.str "one") H') ∨
  (∃ (x : Addr) (k : Nat) (ps : List Cnt), vs = [.ref x, .non] ∧ RchAt CR H x k ps ∧ ∀ H', Same H H' → Q (.str "other") H') ∨
  (∃ (x y : Addr) (k l : Nat) (ps qs : List Cnt), vs = [.ref x, .ref y] ∧ RchAt CR H x k ps ∧ RchAt CR H y l qs ∧ l ≠ k ∧ ∀ H', Same H H' → Q (.str "other") H')
theorem scRefused : FnScope ["_law_one", "_law_other", "e"] ["_law_one", "_law_other"] (defScope sRefused) := ⟨rfl, rfl, rfl, by decide +kernel, rfl, by decide +kernel, by decide +kernel⟩
theorem ok_refused (T : Tx K mg) : Ok P w K mg base 7 (He.ga K "_law_refused") ["_law_one", "_law_other"] (spRefused (He.ga K "Reach")) := by
  obtain ⟨fdP, FP, bP, kP⟩ := ok_part (P := P) (w := w) (base := base) T
  refine ok_mk T.F_law_refused scRefused (fun _ _ _ _ _ _ us hl => match us, hl with | [_, _], _ => rfl) (fun vs H Q E h => ?_) (fun cdv A outer s H vs Q E hr h => ?_)
  · rcases h with ⟨_, rfl, _⟩ | ⟨_, _, _, rfl, _⟩ | ⟨_, _, _, _, _, _, rfl, _⟩ <;> rfl
  · refine ⟨_, pss_cons (ps_try_as (i := 2) (tb := fun W => tDrop (tCallS (spPart K (He.ga K "Reach") (He.ga K "Allowance") (He.ga K "BadPart")) (WE W) (tCons (tVar 0) (tCons (tVar 1) tNil)))) (ts := fun a cls d => tRet (tXf a cls d (He.ga K "BadPart") "part" (tVar 2))) (Wout := fun _ _ _ _ => False) rfl rfl scRefused.nd rfl rfl ⟨rfl, by decide, Or.inl T.g_BadPart⟩ takes0
        (fun W pn xe tk _ => pss_one (ps_expr (by exact pe_callS FP hr rfl T.g_parting_allowance kP bP (fun σ => passAt tk σ) (pa_cons (pv 0) (pa_cons (pv 1) pa_nil)))))
        (fun a oe cls d pn hz hf => pss_one (ps_ret (by exact pe_xf (xfC T) T.no_BadPart_part hz hf (pv 2)))))
      (pss_one (ps_ret pe_non)), ?_⟩
    rcases h with ⟨y, rfl, q⟩ | ⟨x, k, ps, rfl, hx, q⟩ | ⟨x, y, k, l, ps, qs, rfl, hx, hy, hne, q⟩
    · refine ⟨_, rfl, _, rfl, ?_⟩
      exact .inr (.inl ⟨y, rfl, fun d H' sm ed => ⟨true, T.exm, fun _ a na => ⟨_, rfl, rfl, rfl, d, _, _, rfl, ed, rfl, q H' sm⟩, fun z => nomatch z⟩⟩)
    · refine ⟨_, rfl, _, rfl, ?_⟩
      exact .inr (.inr (.inl ⟨x, k, ps, rfl, hx, fun d H' sm ed => ⟨true, T.exm, fun _ a na => ⟨_, rfl, rfl, rfl, d, _, _, rfl, ed, rfl, q H' sm⟩, fun z => nomatch z⟩⟩))
    · refine ⟨_, rfl, _, rfl, ?_⟩
      exact .inr (.inr (.inr ⟨x, y, k, l, ps, qs, rfl, hx, hy, hne, fun d H' sm ed => ⟨true, T.exm, fun _ a na => ⟨_, rfl, rfl, rfl, d, _, _, rfl, ed, rfl, q H' sm⟩, fun z => nomatch z⟩⟩))
/-! ### _law_pool, _law_draw, _law_pick -/
def PoolAt (H : Hp) (p : Addr) : Prop := ∃ x y : Int, H p = some (.lst [.int x, .int y]) ∧ 0 ≤ x ∧ 0 ≤ y ∧ y < 2 ^ 31
abbrev KeepP (p : Addr) : Hp → Hp → Prop := KeepX (fun b => b = p)
theorem KeepP.refl {p : Addr} (H : Hp) : KeepP p H H := fun _ _ _ e => e
theorem KeepP.trans {p : Addr} {H H1 H2 : Hp} (a : KeepP p H H1) (b : KeepP p H1 H2) : KeepP p H H2 := fun c o n e => b c o n (a c o n e)
theorem KeepP.of {p : Addr} {H H1 : Hp} (a : Same H H1) : KeepP p H H1 := fun b o _ e => a b o e
theorem KeepP.upd {p : Addr} {H : Hp} {o : HO} : KeepP p H (upd H p o) := fun b u hb e => by
  rw [upd_ne hb]
  exact e
theorem KeepP.stay {p : Addr} {H H' : Hp} {xs : List V} (k : KeepP p H H') (h : H p = some (.lst xs)) : Stay H H' := fun b o n e => by
  refine k b o (fun z => ?_) e
  rw [z, h] at e
  cases e
  exact n xs rfl
theorem PoolAt.stay {p : Addr} {H H' : Hp} (h : PoolAt H p) (k : KeepP p H H') : Stay H H' := let ⟨_, _, e, _⟩ := h; k.stay e
theorem PoolAt.same {p : Addr} {H H' : Hp} (h : PoolAt H p) (s : Same H H') : PoolAt H' p := let ⟨x, y, e, r⟩ := h; ⟨x, y, s _ _ e, r⟩
def spDraw : Sp := fun vs H Q _ => ∃ (p : Addr) (m : Nat), vs = [.ref p, .int m] ∧ PoolAt H p ∧ 0 < m ∧ m ≤ 1000 ∧ ∀ H' (r : Nat), KeepP p H H' → PoolAt H' p → r < m → Q (.int r) H'
theorem scDraw : FnScope ["_law_pool_here", "_law_many", "_law_found"] ["_law_pool_here", "_law_many"] (defScope sDraw) := ⟨rfl, rfl, rfl, by decide +kernel, rfl, by decide +kernel, by decide +kernel⟩
theorem ok_draw (T : Tx K mg) : Ok P w K mg base 1 (He.ga K "_law_draw") ["_law_pool_here", "_law_many"] spDraw := by
  refine ok_mk T.F_law_draw scDraw (fun _ _ _ _ _ _ us hl => match us, hl with | [_, _], _ => rfl) (fun vs H Q E h => ?_) (fun cdv A outer s H vs Q E hr h => ?_)
  · obtain ⟨p, m, rfl, _⟩ := h
    rfl
  · obtain ⟨p, m, rfl, ⟨x, y, hp, hx, hy0, hy⟩, hm0, hm, q⟩ := h
    refine ⟨_, pss_cons (ps_if (pt_cmpR op_gt (pe_ix ix_list (pv 0) pe_int (fun _ _ => rfl)) pe_int (nomark _))
        (pss_cons (ps_set (i := 2) scDraw.nd rfl (Or.inl rfl) (pe_op op_mod (pe_callTy call_int1 (by rfl) T.n_int (by decide +kernel) (pa_cons (pe_ix ix_list (pv 0) pe_int (fun _ _ => rfl)) pa_nil)) (pv 1)))
        (pss_cons (ps_asg (pe_op op_fdiv (pe_ix ix_list (pv 0) pe_int (fun _ _ => rfl)) (pv 1)) (pg_sub (pv 0) pe_int set_list))
        (pss_one (ps_ret (pv 2))))) pss_nil)
      (pss_cons (ps_asg (pe_op op_mod (pe_callTy call_int1 (by rfl) T.n_int (by decide +kernel) (pa_cons (pe_op op_add (pe_op op_mul (pe_ix ix_list (pv 0) pe_int (fun _ _ => rfl)) pe_int) pe_int) pa_nil)) pe_int) (pg_sub (pv 0) pe_int set_list))
      (pss_one (ps_ret (pe_op op_mod (pe_callTy call_int1 (by rfl) T.n_int (by decide +kernel) (pa_cons (pe_op op_fdiv (pe_op op_mod (pe_callTy call_int1 (by rfl) T.n_int (by decide +kernel) (pa_cons (pe_op op_mul (pe_ix ix_list (pv 0) pe_int (fun _ _ => rfl)) (pe_ix ix_list (pv 0) pe_int (fun _ _ => rfl))) pa_nil)) pe_int) pe_int) pa_nil)) (pv 1))))), ?_⟩
    refine ⟨_, rfl, p, _, _, .int x, rfl, rfl, SqL.of hp, atI_nat (j := 0) rfl, _, _, rfl, rfl, _, rfl, ?_⟩
    by_cases h0 : 0 < x
    · rw [decide_eq_true h0]
      refine iteT ⟨_, rfl, p, _, _, .int x, rfl, rfl, SqL.of hp, atI_nat (j := 0) rfl, .inl ⟨x, rfl, _, rfl, _, _, rfl, rfl, by omega, ?_⟩⟩
      refine ⟨_, rfl, p, _, _, .int x, rfl, rfl, SqL.of hp, atI_nat (j := 0) rfl, _, rfl, _, _, rfl, rfl, ⟨by omega, by omega⟩, ?_⟩
      refine ⟨_, rfl, p, _, _, 0, rfl, rfl, hp, rfl, ?_⟩
      have e1 : x % (m : Int) = ((x % (m : Int)).toNat : Int) := (Int.toNat_of_nonneg (Int.emod_nonneg _ (by omega))).symm
      have lt : x % (m : Int) < (m : Int) := Int.emod_lt_of_pos _ (by omega)
      refine ⟨_, rfl, ?_⟩
      show Q (.int (x % (m : Int))) _
      rw [e1]
      refine q _ _ KeepP.upd ⟨x / (m : Int), y, upd_same, Int.ediv_nonneg (by omega) (by omega), hy0, hy⟩ (by omega)
    · rw [decide_eq_false h0]
      refine iteF ?_
      refine ⟨_, rfl, p, _, _, .int y, rfl, rfl, SqL.of hp, atI_nat (j := 1) rfl, _, _, rfl, rfl, .inl ⟨by omega, by omega⟩, _, _, rfl, rfl, .inl ⟨_, rfl, _, _, rfl, rfl, by omega, ?_⟩⟩
      refine ⟨_, rfl, p, _, _, 1, rfl, rfl, hp, rfl, ?_⟩
      have y1 : 0 ≤ (y * 48271 + 11) % 2147483647 := Int.emod_nonneg _ (by omega)
      have y2 : (y * 48271 + 11) % 2147483647 < 2147483647 := Int.emod_lt_of_pos _ (by omega)
      have e1 : upd H p (.lst ([V.int x, V.int y].set 1 (.int ((y * 48271 + 11) % 2147483647)))) p = some (.lst [.int x, .int ((y * 48271 + 11) % 2147483647)]) := upd_same
      have k1 : KeepP p H (upd H p (.lst ([V.int x, V.int y].set 1 (.int ((y * 48271 + 11) % 2147483647))))) := KeepP.upd
      generalize upd H p (.lst ([V.int x, V.int y].set 1 (.int ((y * 48271 + 11) % 2147483647)))) = H1 at e1 k1 ⊢
      generalize (y * 48271 + 11) % 2147483647 = z at y1 y2 e1 ⊢
      refine ⟨_, rfl, p, _, _, .int z, rfl, rfl, SqL.of e1, atI_nat (j := 1) rfl, _, rfl, p, _, _, .int z, rfl, rfl, SqL.of e1, atI_nat (j := 1) rfl, _, _, rfl, rfl, .inl ⟨by omega, by omega⟩, .inl ⟨_, rfl, _, _, rfl, rfl, by omega, _, _, rfl, rfl, ⟨by omega, by omega⟩, .inl ⟨_, rfl, _, rfl, _, _, rfl, rfl, by omega, ?_⟩⟩⟩
      have e2 : (z * z % 2147483629 / 16) % (m : Int) = (((z * z % 2147483629 / 16) % (m : Int)).toNat : Int) := (Int.toNat_of_nonneg (Int.emod_nonneg _ (by omega))).symm
      have lt : (z * z % 2147483629 / 16) % (m : Int) < (m : Int) := Int.emod_lt_of_pos _ (by omega)
      show Q (.int ((z * z % 2147483629 / 16) % (m : Int))) _
      rw [e2]
      exact q _ _ k1 ⟨x, z, e1, hx, y1, by omega⟩ (by omega)
def spPick : Sp := fun vs H Q _ => ∃ (p l : Addr) (us : List V), vs = [.ref p, .ref l] ∧ PoolAt H p ∧ H l = some (.lst us) ∧ l ≠ p ∧ us ≠ [] ∧ us.length ≤ 1000 ∧ ∀ H' u, KeepP p H H' → PoolAt H' p → u ∈ us → Q u H'
theorem scPick : FnScope ["_law_pool_here", "_law_row"] ["_law_pool_here", "_law_row"] (defScope sPick) := ⟨rfl, rfl, rfl, by decide +kernel, rfl, by decide +kernel, by decide +kernel⟩
theorem ok_pick (T : Tx K mg) : Ok P w K mg base 2 (He.ga K "_law_pick") ["_law_pool_here", "_law_row"] spPick := by
  refine ok_mk T.F_law_pick scPick (fun _ _ _ _ _ _ us hl => match us, hl with | [_, _], _ => rfl) (fun vs H Q E h => ?_) (fun cdv A outer s H vs Q E hr h => ?_)
  · obtain ⟨p, l, us, rfl, _⟩ := h
    rfl
  · obtain ⟨p, l, us, rfl, hp, hl, hne, hn, h1000, q⟩ := h
    refine ⟨_, pss_one (ps_ret (pe_ix ix_list (pv 1) (pc (ok_draw T) hr T.g_law_draw (pa_cons (pv 0) (pa_cons (pe_callB call_len_seq (by rfl) T.n_len PySem.boot_len (pa_cons (pv 1) pa_nil)) pa_nil))) (fun _ _ => rfl))), ?_⟩
    refine ⟨_, rfl, _, rfl, _, rfl, l, us, rfl, .inl (SqL.of hl), p, us.length, rfl, hp, List.length_pos_iff.mpr hn, h1000, fun H' r k hp' hr => ?_⟩
    have hlt : us[r]? = some us[r] := List.getElem?_eq_getElem hr
    exact ⟨l, us, _, us[r], rfl, rfl, SqL.of (k _ _ hne hl), atI_nat (j := r) hlt, q H' _ k hp' (List.getElem_mem hr)⟩
end
end K79
/-! ## KD16 -/
set_option maxRecDepth 100000
set_option maxHeartbeats 2000000
namespace K79
open PySem PySem.Spec PyProof.Rows L2
/-- a comprehension that draws from the pool at p -/
theorem lc_pool {J : It} {n : Nat} {G : Hp → Prop} {Y : Nat → Hp → V → Hp → Prop} (w : Walk J n G Y) {g : TG} {te : TE} {vs : List Nat} {σ : L2.St} {H1 : Hp} {Q : Addr → Hp → Prop} {p : Addr} (hp : PoolAt H1 p) (Pr : Nat → List V → Prop) (hn : n < 16777216)
    (hG : ∀ H, KeepP p H1 H → G H) (h0 : Pr 0 [])
    (hs : ∀ (i : Nat) (x : V) (H H' : Hp) (acc : List V) (Kc : VK), i < n → KeepP p H1 H → PoolAt H p → Pr i acc → (∀ y H4, KeepP p H H4 → PoolAt H4 p → Pr (i + 1) (acc ++ [y]) → Kc y H4) → Y i H x H' →
      g x (wipe σ vs) H' fun σ2 H2 => wipe σ2 vs = wipe σ vs ∧ te σ2 H2 Kc)
    (hd : ∀ H D acc, H1 D = none → KeepP p H1 H → PoolAt H p → H D = some (.lst acc) → Pr n acc → Q D H) : ∀ D, H1 D = none →
    ∃ W : Nat → Nat → Hp → Prop, (∃ m, W 0 m (upd H1 D (.lst []))) ∧ ∀ i m H, W i m H →
      (J.stop i H ∧ Q D H) ∨ (J.go i H ∧ ∃ Nx : Hp → Prop, (∀ H', Nx H' → ∃ m', m' < m ∧ W (i + 1) m' H') ∧ ∀ x H', J.yld i H x H' → g x (wipe σ vs) H' fun σ2 H2 => wipe σ2 vs = wipe σ vs ∧ tYes σ2 H2 fun b H3 =>
        if b = true then te σ2 H3 fun y H4 => ∃ acc, H4 D = some (.lst acc) ∧ acc.length < sizeLine ∧ Nx (upd H4 D (.lst (acc ++ [y]))) else Nx H3) := by
  intro D nD
  have e : ∀ (t : TE) (Kc : VK) (Kn : Hp → Prop) (σ2 : L2.St) (H2 : Hp), (tYes σ2 H2 fun b H3 => if b = true then t σ2 H3 Kc else Kn H3) = t σ2 H2 Kc := fun t Kc Kn σ2 H2 => by
    show (if true = true then t σ2 H2 Kc else Kn H2) = _
    rw [if_pos rfl]
  have npD : p ≠ D := fun z => by
    obtain ⟨_, _, z2, _⟩ := hp
    rw [z, nD] at z2
    cases z2
  have kD : ∀ {H : Hp} {ys : List V}, KeepP p H1 H → KeepP p H1 (upd H D (.lst ys)) := fun {H ys} k b o nb e => by
    rw [upd_ne (ne_of_none e nD)]
    exact k b o nb e
  have pD : ∀ {H : Hp} {ys : List V}, PoolAt H p → PoolAt (upd H D (.lst ys)) p := fun {H ys} ⟨x, y, z, r⟩ => ⟨x, y, by rw [upd_ne npD]; exact z, r⟩
  refine lc_it w (tt := tYes) (Qd := fun H => Q D H) (fun i H => ∃ acc, H D = some (.lst acc) ∧ acc.length ≤ i ∧ KeepP p H1 H ∧ PoolAt H p ∧ Pr i acc)
    ⟨[], upd_same, Nat.le_refl _, kD (KeepP.refl _), pD hp, h0⟩ (fun i H _ ⟨acc, _, _, k, _⟩ => hG H k) (fun i x H H' hi ⟨acc, eD, la, k, pp, pr⟩ y => ?_) (fun H ⟨acc, eD, la, k, pp, pr⟩ => hd H D acc nD k pp eD pr)
  simp only [e]
  refine hs i x H H' acc _ hi k pp pr (fun y H4 k4 p4 pr4 => ?_) y
  exact ⟨acc, k4 D _ (Ne.symm npD) eD, small' (by omega), acc ++ [y], upd_same, by rw [List.length_append]; exact Nat.succ_le_succ la, kD (k.trans k4), pD p4, pr4⟩
section
variable {P : Program} {w : World} {K : PySem.W.Frag} {mg : Str → Option Value} {base : Heap}
/-! ### _law_pool -/
def spPool (K : PySem.W.Frag) : Sp := fun vs H Q _ => ∃ (a : Addr) (ns : List Int), vs = [.ref a, .int 0] ∧ SqL K H a (ns.map V.int) ∧ ∀ H' p, Same H H' → PoolAt H' p → Q (.ref p) H'
theorem scPool : FnScope ["_law_script", "_law_k", "_law_cell", "_law_size", "_law_mixed"] ["_law_script", "_law_k"] (defScope sPool) := ⟨rfl, rfl, rfl, by decide +kernel, rfl, by decide +kernel, by decide +kernel⟩
theorem ok_pool (T : Tx K mg) : Ok P w K mg base 1 (He.ga K "_law_pool") ["_law_script", "_law_k"] (spPool K) := by
  refine ok_mk T.F_law_pool scPool (fun _ _ _ _ _ _ us hl => match us, hl with | [_, _], _ => rfl) (fun vs H Q E h => ?_) (fun cdv A outer s H vs Q E hr h => ?_)
  · obtain ⟨a, ns, rfl, _⟩ := h
    rfl
  · obtain ⟨a, ns, rfl, ha, q⟩ := h
    refine ⟨_, pss_cons (ps_set (i := 2) scPool.nd rfl (Or.inl rfl) (pe_ifExp (pt_cmpR op_lt (pv 1) (pe_callB call_len_seq (by rfl) T.n_len PySem.boot_len (pa_cons (pv 0) pa_nil)) (nomark _)) (pe_ix ix_list (pv 0) (pv 1) (fun _ _ => rfl))
          (pe_op op_add (pe_op op_mul pe_int (pe_callB (cr_sum rfl) (by rfl) T.n_sum (by decide +kernel) (pa_cons (pe_slice sl_list (pv 0) po_none (po_some pe_int)) pa_nil))) (pv 1))))
      (pss_cons (ps_set (i := 3) scPool.nd rfl (Or.inl rfl) (pe_callB call_abs (by rfl) T.n_abs (by decide +kernel) (pa_cons (pv 2) pa_nil)))
      (pss_cons (ps_set (i := 4) scPool.nd rfl (Or.inl rfl) (pe_op op_add (pe_op op_add (pe_op op_add (pe_op op_mod (pe_callTy call_int1 (by rfl) T.n_int (by decide +kernel) (pa_cons (pv 3) pa_nil)) pe_int) (pe_op op_mul (pe_op op_mul pe_int (pv 1)) (pv 1))) (pe_op op_mul pe_int (pv 1))) pe_int))
      (pss_cons (ps_set (i := 4) scPool.nd rfl (Or.inl rfl) (pe_op op_mod (pe_callTy call_int1 (by rfl) T.n_int (by decide +kernel) (pa_cons (pe_op op_mul (pv 4) pe_int) pa_nil)) pe_int))
      (pss_one (ps_ret (pe_lst (pa_cons (pe_op op_mul (pv 3) (pe_callTy call_int1 (by rfl) T.n_int (by decide +kernel) (pa_cons (pe_cmpR op_ge (pv 3) (pe_op op_pow pe_int pe_int) (nomark _)) pa_nil)))
          (pa_cons (pe_op op_mod (pe_callTy call_int1 (by rfl) T.n_int (by decide +kernel) (pa_cons (pe_op op_mul (pv 4) (pv 4)) pa_nil)) pe_int) pa_nil)))))))), ?_⟩
    have fin : ∀ (c z u : Int) (H1 : Hp), Same H H1 → 0 ≤ z → 0 ≤ u → u < 2147483647 → (tRet (tLst (tCons (tOp (rI CMul fun i j => V.int (i * j)) (tVar 3) (tCB rInt1 (tCons (tOp (rI0 fun i j => V.bl (decide (j ≤ i))) (tVar 3) (tOp (rI CPow fun i j => V.int (i ^ j.toNat)) (tC (.int 10)) (tC (.int 18)))) tNil)))
            (tCons (tOp (rI (fun _ j => 0 < j) fun i j => V.int (i % j)) (tCB rInt1 (tCons (tOp (rI CMul fun i j => V.int (i * j)) (tVar 4) (tVar 4)) tNil)) (tC (.int 2147483629))) tNil))))
        { nx := fun _ H' => Q .non H', rt := Q } [some (.ref a), some (.int 0), some (.int c), some (.int z), some (.int u)] H1 := by
      intro c z u H1 s1 hz h0 h1
      refine ⟨_, rfl, _, rfl, _, _, rfl, rfl, ⟨by omega, by omega, by decide⟩, _, _, rfl, rfl, .inr ⟨_, rfl, _, _, rfl, rfl, .inr ⟨by split <;> omega, by split <;> omega⟩, ?_⟩⟩
      refine ⟨_, rfl, _, rfl, _, _, rfl, rfl, .inl ⟨by omega, by omega⟩, .inl ⟨_, rfl, _, _, rfl, rfl, by omega, small (by show 2 ≤ _; decide), fun p np => ?_⟩⟩
      refine q _ p (s1.trans (same_upd np)) ⟨_, _, upd_same, Int.mul_nonneg hz (by split <;> omega), Int.emod_nonneg _ (by omega), ?_⟩
      have := Int.emod_lt_of_pos (u * u) (show (0 : Int) < 2147483629 by omega)
      omega
    -- behind the cell
    have key : ∀ (c : Int) (H1 : Hp), Same H H1 → (tSeq (tAsg (tCB (fun xs H Q => ∃ i, xs = [.int i] ∧ Q (.int (if i < 0 then -i else i)) H) (tCons (tVar 2) tNil)) (gName 3))
        (tSeq (tAsg (tOp (rI0 fun i j => V.int (i + j)) (tOp (rI0 fun i j => V.int (i + j)) (tOp (rI0 fun i j => V.int (i + j)) (tOp (rI (fun _ j => 0 < j) fun i j => V.int (i % j)) (tCB rInt1 (tCons (tVar 3) tNil)) (tC (.int 2147483629))) (tOp (rI CMul fun i j => V.int (i * j)) (tOp (rI CMul fun i j => V.int (i * j)) (tC (.int 7919)) (tVar 1)) (tVar 1))) (tOp (rI CMul fun i j => V.int (i * j)) (tC (.int 31)) (tVar 1))) (tC (.int 17))) (gName 4))
        (tSeq (tAsg (tOp (rI (fun _ j => 0 < j) fun i j => V.int (i % j)) (tCB rInt1 (tCons (tOp (rI CMul fun i j => V.int (i * j)) (tVar 4) (tC (.int 48271))) tNil)) (tC (.int 2147483647))) (gName 4))
          (tRet (tLst (tCons (tOp (rI CMul fun i j => V.int (i * j)) (tVar 3) (tCB rInt1 (tCons (tOp (rI0 fun i j => V.bl (decide (j ≤ i))) (tVar 3) (tOp (rI CPow fun i j => V.int (i ^ j.toNat)) (tC (.int 10)) (tC (.int 18)))) tNil)))
            (tCons (tOp (rI (fun _ j => 0 < j) fun i j => V.int (i % j)) (tCB rInt1 (tCons (tOp (rI CMul fun i j => V.int (i * j)) (tVar 4) (tVar 4)) tNil)) (tC (.int 2147483629))) tNil)))))))
        { nx := fun _ H' => Q .non H', rt := Q } [some (.ref a), some (.int 0), some (.int c), none, none] H1 := by
      intro c H1 s1
      refine ⟨_, rfl, c, rfl, ?_⟩
      have hz : 0 ≤ (if c < 0 then -c else c) := by split <;> omega
      generalize (if c < 0 then -c else c) = z at hz ⊢
      refine ⟨_, rfl, .inl ⟨z, rfl, _, _, rfl, rfl, by omega, _, rfl, _, _, rfl, rfl, .inl ⟨by omega, by omega⟩, _, rfl, _, _, rfl, rfl, .inl ⟨by omega, by omega⟩, _, _, rfl, rfl, _, rfl, _, _, rfl, rfl, .inl ⟨by omega, by omega⟩, _, _, rfl, rfl, _, _, rfl, rfl, ?_⟩⟩
      refine ⟨_, rfl, _, _, rfl, rfl, .inr ⟨by omega, by omega⟩, .inl ⟨_, rfl, _, _, rfl, rfl, by omega, ?_⟩⟩
      exact fin c z _ H1 s1 hz (Int.emod_nonneg _ (by omega)) (Int.emod_lt_of_pos _ (by omega))
    refine ⟨_, rfl, _, rfl, a, _, rfl, .inl ha, _, _, rfl, rfl, _, rfl, ?_⟩
    cases ns with
    | nil =>
      have e0 : decide ((0 : Int) < (((([] : List Int).map V.int).length : Nat) : Int)) = false := by decide
      rw [e0]
      refine iteF ⟨_, rfl, _, rfl, a, _, rfl, ha, fun p np => ?_⟩
      have s1 := same_upd (o := .lst (cutV ([] : List V) none (some 63))) np
      refine ⟨p, [], rfl, SqL.of (by rw [upd_same]; rfl), _, _, rfl, rfl, .inl ⟨by omega, by omega⟩, _, rfl, _, _, rfl, rfl, ?_⟩
      exact key _ _ s1
    | cons c ns =>
      have e0 : decide ((0 : Int) < ((((c :: ns : List Int).map V.int).length : Nat) : Int)) = true := decide_eq_true (by rw [List.length_map, List.length_cons]; omega)
      rw [e0]
      refine iteT ⟨_, rfl, _, rfl, a, _, _, .int c, rfl, rfl, ha, atI_nat (j := 0) rfl, ?_⟩
      exact key _ _ (Same.refl _)
end
end K79
/-! ## KD17 -/
set_option maxRecDepth 100000
set_option maxHeartbeats 2000000
namespace K79
open PySem PySem.Spec PyProof.Rows L2
section
variable {P : Program} {w : World} {K : PySem.W.Frag} {mg : Str → Option Value} {base : Heap}
/-! ### _law_reach -/
def fiveV : List V := [.int 0, .int 1, .int 2, .int 3, .non]
theorem five_cv {u : V} (h : u ∈ fiveV) : ∃ n : Num, u = cv n ∧ ∀ m, n = some m → m ≤ 3 := by
  unfold fiveV at h
  simp only [List.mem_cons, List.not_mem_nil, or_false] at h
  rcases h with h | h | h | h | h
  · exact ⟨some 0, h, fun m e => by cases e; omega⟩
  · exact ⟨some 1, h, fun m e => by cases e; omega⟩
  · exact ⟨some 2, h, fun m e => by cases e; omega⟩
  · exact ⟨some 3, h, fun m e => by cases e; omega⟩
  · exact ⟨none, h, fun m e => by cases e⟩
def spLReach (CR : Addr) : Sp := fun vs H Q _ => ∃ (p : Addr) (k : Nat), vs = [.ref p, .int k] ∧ PoolAt H p ∧ 1 ≤ k ∧ k ≤ 4 ∧ ∀ H' x ps, KeepP p H H' → PoolAt H' p → RchAt CR H' x k ps → Q (.ref x) H'
theorem scLReach : FnScope ["_law_pool_here", "_law_size", "_law_rows", "_law_turn", "_law_at"] ["_law_pool_here", "_law_size"] (defScope sLReach) := ⟨rfl, rfl, rfl, by decide +kernel, rfl, by decide +kernel, by decide +kernel⟩
theorem ok_lreach (T : Tx K mg) : Ok P w K mg base 7 (He.ga K "_law_reach") ["_law_pool_here", "_law_size"] (spLReach (He.ga K "Reach")) := by
  refine ok_mk T.F_law_reach scLReach (fun _ _ _ _ _ _ us hl => match us, hl with | [_, _], _ => rfl) (fun vs H Q E h => ?_) (fun cdv A outer s H vs Q E hr h => ?_)
  · obtain ⟨p, k, rfl, _⟩ := h
    rfl
  · obtain ⟨p, k, rfl, hp, k1, k4, q⟩ := h
    refine ⟨_, pss_cons (ps_set (i := 2) scLReach.nd rfl (Or.inl rfl) (pe_lst pa_nil))
      (pss_cons (ps_for PassesOwn.never rfl (pi_range1 (by rfl) T.n_range (pa_cons (pc (ok_draw T) (hr.mono (by decide)) T.g_law_draw (pa_cons (pv 0) (pa_cons pe_int pa_nil))) pa_nil)) (pg_name (i := 3) scLReach.nd rfl (Or.inl rfl))
        (pss_one (ps_expr (pe_bm PySem.F.plainAttrs_list PySem.F.slot_list_append PySem.F.type_list_append mt_append (pv 2) (pa_cons (pe_callTy call_tuple_of (by rfl) T.n_tuple (by decide +kernel) (pa_cons
          (pe_lc (own := [("_law_at", 4)]) (g := gName 4) (tt := tYes) rfl scLReach.nd (pi_range1 (by rfl) T.n_range (pa_cons (pv 1) pa_nil)) (blkOk_by (own := [("_law_at", 4)]) (N := ["_law_pool_here", "_law_size", "_law_rows", "_law_turn", "_law_at"]) (sc := defScope sLReach) (by decide +kernel))
            (fun _ _ _ _ _ => pg_name (i := 4) scLReach.nd rfl (Or.inl rfl)) (fun _ _ _ _ _ => pts_nil) (fun _ _ _ _ _ => pc (ok_pick T) (hr.mono (by decide)) T.g_law_pick (pa_cons (pv 0) (pa_cons (pe_lst (pa_cons pe_int (pa_cons pe_int (pa_cons pe_int (pa_cons pe_int (pa_cons pe_non pa_nil)))))) pa_nil)))) pa_nil)) pa_nil)))))
      (pss_one (ps_ret (pmk (ok_rinit T) hr T.mk_Reach T.g_Reach (pa_cons (pv 1) (pa_cons (pv 2) pa_nil)))))), ?_⟩
    refine ⟨small (by show 0 ≤ _; decide), fun o no => ?_⟩
    have s0 : Same H (upd H o (.lst [])) := same_upd no
    have e0 : upd H o (.lst []) o = some (.lst []) := upd_same
    have npo : o ≠ p := fun z => by
      obtain ⟨_, _, z2, _⟩ := hp
      rw [← z, no] at z2
      cases z2
    have hp0 := hp.same s0
    generalize upd H o (.lst []) = H0 at s0 e0 hp0 ⊢
    refine ⟨_, rfl, p, 4, rfl, hp0, by omega, by omega, fun H1 r kp1 hp1 hr4 => ⟨(r : Int), rfl, by omega, by omega, ?_⟩⟩
    rw [Int.toNat_natCast]
    refine for_it (walk_range (lo := 0) (n := r)) (fun i σ H' => ∃ y3, σ = [some (.ref p), some (.int k), some (.ref o), y3, none] ∧ KeepP p H H' ∧ PoolAt H' p ∧ ∃ us cs, H' o = some (.lst us) ∧ Cnts H' us cs ∧ (∀ c ∈ cs, Val k c) ∧ us.length = i)
      ⟨none, rfl, (KeepP.of s0).trans kp1, hp1, [], [], kp1 _ _ npo e0, .nil, by simp, rfl⟩ (fun _ _ _ _ _ => trivial) (fun i u σ H2 H2' hi hp yy => ?_) (fun σ H2 hp => ?_)
    · obtain ⟨y3, rfl, kp2, hp2, us, cs, eo, hc, hv, hlen⟩ := hp
      obtain ⟨rfl, rfl⟩ := yy
      refine ⟨_, rfl, .inl ⟨rfl, _, SqL.of eo⟩, ?_⟩
      refine ⟨_, rfl, (k : Int), rfl, by omega, by omega, ?_⟩
      rw [Int.toNat_natCast]
      refine lc_pool (walk_range (lo := 0) (n := k)) hp2 (fun i acc => ∃ c : Cnt, acc = c.map cv ∧ c.length = i ∧ ∀ n, some n ∈ c → n ≤ 3) (by omega) (fun _ _ => trivial) ⟨[], rfl, rfl, by simp⟩
        (fun j x H3 H3' acc Kc hj kp3 hp3 pr kc yy => ?_) (fun H3 D acc nD kp3 hp3 eD pr => ?_)
      · obtain ⟨rfl, rfl⟩ := yy
        obtain ⟨c, rfl, hcl, hc3⟩ := pr
        refine ⟨rfl, _, rfl, small (by show 5 ≤ _; decide), fun l nl => ?_⟩
        have s3 := same_upd (o := .lst fiveV) nl
        have nlp : l ≠ p := fun z => by
          obtain ⟨_, _, z2, _⟩ := hp3
          rw [← z, nl] at z2
          cases z2
        refine ⟨p, l, fiveV, rfl, hp3.same s3, upd_same, nlp, by simp [fiveV], by simp [fiveV], fun H4 u kp4 hp4 hu => ?_⟩
        obtain ⟨n, rfl, hn⟩ := five_cv hu
        refine kc _ _ ((KeepP.of s3).trans kp4) hp4 ⟨c ++ [n], by simp, by simp [hcl], fun m hm => ?_⟩
        rcases List.mem_append.mp hm with h | h
        · exact hc3 m h
        · exact hn m (List.mem_singleton.mp h).symm
      · obtain ⟨c, rfl, hcl, hc3⟩ := pr
        refine ⟨D, _, rfl, .inl ⟨SqL.of eD, fun t nt => ?_⟩⟩
        have s4 := same_upd (o := .tup (c.map cv)) nt
        have eo3 := s4 _ _ (kp3 _ _ npo eo)
        refine ⟨o, us, .ref t, rfl, rfl, eo3, small' (by omega), ?_⟩
        have st : Stay H2' (upd H3 t (.tup (c.map cv))) := (hp2.stay kp3).trans s4.stay
        have st5 : Stay (upd H3 t (.tup (c.map cv))) (upd (upd H3 t (.tup (c.map cv))) o (.lst (us ++ [V.ref t]))) := Stay.upd eo3
        refine ⟨_, rfl, fun b u hb e => ?_, ?_, us ++ [.ref t], cs ++ [c], upd_same, ?_, fun d hd => ?_, by simp [hlen]⟩
        · have hbo : b ≠ o := ne_of_none e no
          rw [upd_ne hbo]
          exact s4 _ _ (kp3 _ _ hb (kp2 _ _ hb e))
        · obtain ⟨x, y, e, rr⟩ := hp3.same s4
          exact ⟨x, y, by rw [upd_ne (Ne.symm npo)]; exact e, rr⟩
        · exact paired_app ((hc.stay st).stay st5) (.cons ⟨t, rfl, st5.tup upd_same⟩ .nil)
        · rcases List.mem_append.mp hd with h | h
          · exact hv d h
          · rw [List.mem_singleton.mp h]
            exact ⟨hcl, fun n hn => Nat.le_trans (hc3 n hn) (by decide)⟩
    · obtain ⟨y3, rfl, kp2, hp2, us, cs, eo, hc, hv, hlen⟩ := hp
      refine ⟨_, rfl, _, rfl, fun X dX nX ndX dne => ?_⟩
      have hup : Same H2 (upd (upd H2 dX (.own X)) X (.ins (He.ga K "Reach") dX [])) := fun b o e => by
        rw [upd_ne (ne_of_none e nX), upd_ne (ne_of_none e ndX)]
        exact e
      refine ⟨X, dX, o, k, us, cs, rfl, upd_same, hup _ _ eo, hc.stay hup.stay, hv, k1, k4, by omega, fun H3 ps k3 hR _ _ => ⟨rfl, ?_⟩⟩
      have s3 : Same H2 H3 := fun b o e => k3 b o (ne_of_none e nX) (hup _ _ e)
      exact q H3 X ps (kp2.trans (KeepP.of s3)) (hp2.same s3) hR
end
end K79
/-! ## KD18 -/
set_option maxRecDepth 100000
set_option maxHeartbeats 4000000
namespace K79
open PySem PySem.Spec PyProof.Rows L2
section
variable {P : Program} {w : World} {K : PySem.W.Frag} {mg : Str → Option Value} {base : Heap}
/-! ### _law_great_right -/
theorem nf_self {K : PySem.W.Frag} {C : Addr} : PySem.W.notFirst K C (.ref C) = true := by simp [PySem.W.notFirst]
/-- a list of counts, a list of others, the first one's first is in none of the others -/
def PairOk (H : Hp) (u : V) : Prop := ∃ (t lh lt a : Addr) (k : Nat) (vs : List V) (g : Cnt) (hs : List Cnt), u = .ref t ∧ H t = some (.tup [.ref lh, .ref lt]) ∧ H lh = some (.lst [.ref a]) ∧ H a = some (.tup (g.map cv)) ∧ H lt = some (.lst vs) ∧ Cnts H vs hs ∧
  Val k g ∧ (∀ c ∈ hs, Val k c) ∧ 1 ≤ k ∧ k ≤ 4 ∧ vs.length ≤ 19 ∧ below g (zeroC k) = false ∧ ∀ h ∈ hs, below g h = false
theorem PairOk.same {H H' : Hp} {u : V} (p : PairOk H u) (s : Same H H') : PairOk H' u := by
  obtain ⟨t, lh, lt, a, k, vs, g, hs, rfl, h1, h2, h3, h4, h5, r⟩ := p
  exact ⟨t, lh, lt, a, k, vs, g, hs, rfl, s _ _ h1, s _ _ h2, s _ _ h3, s _ _ h4, h5.stay s.stay, r⟩
def spGR : Sp := fun vs H Q _ => vs = [] ∧ ∀ H', Same H H' → Q (.bl true) H'
theorem scGR : FnScope ["_law_top", "_law_pairs", "_law_here", "_law_there", "_law_size", "_law_one", "_law_other", "_law_told"] [] (defScope sGR) := ⟨rfl, rfl, rfl, by decide +kernel, rfl, by decide +kernel, by decide +kernel⟩
theorem not_all {k : Nat} {g : Cnt} {hs ps qs : List Cnt} (hg : ∃ m ∈ ps, below g m = true) (hl : g.length = k) (hp : ∀ c ∈ ps, c.length = k) (hq : ∀ c ∈ qs, c.length = k) (hs' : ∀ c ∈ qs, c = zeroC k ∨ c ∈ hs) (h0 : below g (zeroC k) = false) (h1 : ∀ h ∈ hs, below g h = false) :
    ¬ (ps.all fun c => qs.any (below c)) = true := fun h => by
  obtain ⟨m, hm, hb⟩ := hg
  obtain ⟨d, hd, hbd⟩ := List.any_eq_true.mp (List.all_eq_true.mp h m hm)
  have := below_trans (hl.trans (hp m hm).symm) ((hp m hm).trans (hq d hd).symm) hb hbd
  rcases hs' d hd with e | e
  · rw [e, h0] at this
    cases this
  · rw [h1 d e] at this
    cases this
theorem all_not {ps qs : List Cnt} {c : Cnt} (hc : c ∈ ps) (hb : qs.any (below c) = false) : (ps.all fun c => qs.any (below c)) = false := by
  cases e : (ps.all fun c => qs.any (below c)) with
  | false => rfl
  | true =>
    have := List.all_eq_true.mp e c hc
    rw [hb] at this
    cases this
/-- one pair is laid, none the others -/
theorem pair_mk1 {H : Hp} {a l r t : Addr} {k : Nat} {g : Cnt} (n1 : H a = none) (n2 : upd H a (.tup (g.map cv)) l = none) (n3 : upd (upd H a (.tup (g.map cv))) l (.lst [.ref a]) r = none)
    (n4 : upd (upd (upd H a (.tup (g.map cv))) l (.lst [.ref a])) r (.lst []) t = none) (v : Val k g) (k1 : 1 ≤ k) (k4 : k ≤ 4) (z : below g (zeroC k) = false) :
    PairOk (upd (upd (upd (upd H a (.tup (g.map cv))) l (.lst [.ref a])) r (.lst [])) t (.tup [.ref l, .ref r])) (.ref t) ∧ Same H (upd (upd (upd (upd H a (.tup (g.map cv))) l (.lst [.ref a])) r (.lst [])) t (.tup [.ref l, .ref r])) := by
  have s1 := same_upd (o := .tup (g.map cv)) n1
  have e1 : upd H a (.tup (g.map cv)) a = some (.tup (g.map cv)) := upd_same
  have s2 := same_upd (o := .lst [.ref a]) n2
  have e2 : upd (upd H a (.tup (g.map cv))) l (.lst [.ref a]) l = some (.lst [.ref a]) := upd_same
  have s3 := same_upd (o := .lst []) n3
  have e3 : upd (upd (upd H a (.tup (g.map cv))) l (.lst [.ref a])) r (.lst []) r = some (.lst []) := upd_same
  have s4 := same_upd (o := .tup [.ref l, .ref r]) n4
  exact ⟨⟨t, l, r, a, k, [], g, [], rfl, upd_same, s4 _ _ (s3 _ _ e2), s4 _ _ (s3 _ _ (s2 _ _ e1)), s4 _ _ e3, .nil, v, by simp, k1, k4, by simp, z, by simp⟩, ((s1.trans s2).trans s3).trans s4⟩
/-- .. one other -/
theorem pair_mk2 {H : Hp} {a l b r t : Addr} {k : Nat} {g d : Cnt} (n1 : H a = none) (n2 : upd H a (.tup (g.map cv)) l = none) (n3 : upd (upd H a (.tup (g.map cv))) l (.lst [.ref a]) b = none)
    (n4 : upd (upd (upd H a (.tup (g.map cv))) l (.lst [.ref a])) b (.tup (d.map cv)) r = none) (n5 : upd (upd (upd (upd H a (.tup (g.map cv))) l (.lst [.ref a])) b (.tup (d.map cv))) r (.lst [.ref b]) t = none)
    (v : Val k g) (v' : Val k d) (k1 : 1 ≤ k) (k4 : k ≤ 4) (z : below g (zeroC k) = false) (z' : below g d = false) :
    PairOk (upd (upd (upd (upd (upd H a (.tup (g.map cv))) l (.lst [.ref a])) b (.tup (d.map cv))) r (.lst [.ref b])) t (.tup [.ref l, .ref r])) (.ref t) ∧ Same H (upd (upd (upd (upd (upd H a (.tup (g.map cv))) l (.lst [.ref a])) b (.tup (d.map cv))) r (.lst [.ref b])) t (.tup [.ref l, .ref r])) := by
  have s1 := same_upd (o := .tup (g.map cv)) n1
  have e1 : upd H a (.tup (g.map cv)) a = some (.tup (g.map cv)) := upd_same
  generalize upd H a (.tup (g.map cv)) = H1 at *
  have s2 := same_upd (o := .lst [.ref a]) n2
  have e2 : upd H1 l (.lst [.ref a]) l = some (.lst [.ref a]) := upd_same
  generalize upd H1 l (.lst [.ref a]) = H2 at *
  have s3 := same_upd (o := .tup (d.map cv)) n3
  have e3 : upd H2 b (.tup (d.map cv)) b = some (.tup (d.map cv)) := upd_same
  generalize upd H2 b (.tup (d.map cv)) = H3 at *
  have s4 := same_upd (o := .lst [.ref b]) n4
  have e4 : upd H3 r (.lst [.ref b]) r = some (.lst [.ref b]) := upd_same
  generalize upd H3 r (.lst [.ref b]) = H4 at *
  have s5 := same_upd (o := .tup [.ref l, .ref r]) n5
  exact ⟨⟨t, l, r, a, k, [.ref b], g, [d], rfl, upd_same, s5 _ _ (s4 _ _ (s3 _ _ e2)), s5 _ _ (s4 _ _ (s3 _ _ (s2 _ _ e1))), s5 _ _ e4, .cons ⟨b, rfl, s5 _ _ (s4 _ _ e3)⟩ .nil, v, by simpa using v', k1, k4, by simp, z, by simpa using z'⟩, (((s1.trans s2).trans s3).trans s4).trans s5⟩
theorem val_dec {k : Nat} {c : Cnt} (h : c.length = k) (h2 : (c.all fun n => match n with | none => true | some m => decide (m ≤ 10 ^ 29)) = true) : Val k c := ⟨h, fun n hn => by
  have := List.all_eq_true.mp h2 (some n) hn
  exact of_decide_eq_true this⟩
abbrev topN : Num := some (10 ^ 29)
theorem top_eq : V.int ((10 : Int) ^ (29 : Int).toNat) = cv topN := by decide +kernel
theorem lst_new {H4 : Hp} {l : Addr} (items : List V) (nl : H4 l = none) : ∃ G, G = upd H4 l (.lst items) := ⟨_, rfl⟩
theorem ok_gr (T : Tx K mg) : Ok P w K mg base 7 (He.ga K "_law_great_right") [] spGR := by
  obtain ⟨fdP, FP, bP, kP⟩ := ok_part (P := P) (w := w) (base := base) T
  obtain ⟨fdL, FL, bL⟩ := (ok_rle (P := P) (w := w) (base := base) T).ex
  refine ok_mk T.F_law_great_right scGR (fun _ _ _ _ _ _ us hl => match us, hl with | [], _ => rfl) (fun vs H Q E h => ?_) (fun cdv A outer s H vs Q E hr h => ?_)
  · obtain ⟨rfl, _⟩ := h
    rfl
  · obtain ⟨rfl, q⟩ := h
    refine ⟨_, pss_cons (ps_set (i := 0) scGR.nd rfl (Or.inl rfl) (pe_op op_pow pe_int pe_int))
      (pss_cons (ps_set (i := 1) scGR.nd rfl (Or.inl rfl) (pe_lst (pa_cons (pe_tup (pa_cons (pe_lst (pa_cons (pe_tup (pa_cons (pv 0) pa_nil)) pa_nil)) (pa_cons (pe_lst pa_nil) pa_nil)))
          (pa_cons (pe_tup (pa_cons (pe_lst (pa_cons (pe_tup (pa_cons (pv 0) (pa_cons pe_non pa_nil))) pa_nil)) (pa_cons (pe_lst (pa_cons (pe_tup (pa_cons (pv 0) (pa_cons (pv 0) pa_nil))) pa_nil)) pa_nil)))
          (pa_cons (pe_tup (pa_cons (pe_lst (pa_cons (pe_tup (pa_cons pe_int (pa_cons pe_int (pa_cons pe_int (pa_cons pe_int pa_nil))))) pa_nil)) (pa_cons (pe_lst (pa_cons (pe_tup (pa_cons pe_int (pa_cons pe_int (pa_cons pe_int (pa_cons pe_int pa_nil))))) pa_nil)) pa_nil)))
          (pa_cons (pe_tup (pa_cons (pe_lst (pa_cons (pe_tup (pa_cons pe_non pa_nil)) pa_nil)) (pa_cons (pe_lst (pa_cons (pe_tup (pa_cons (pv 0) pa_nil)) pa_nil)) pa_nil))) pa_nil))))))
      (pss_cons (ps_for PassesOwn.never rfl (pi_list (pv 1)) (pg2 (i := 2) (j := 3) rfl scGR.nd rfl rfl rfl rfl)
        (pss_cons (ps_set (i := 4) scGR.nd rfl (Or.inl rfl) (pe_callB call_len_seq (by rfl) T.n_len PySem.boot_len (pa_cons (pe_ix ix_list (pv 2) pe_int (fun _ _ => rfl)) pa_nil)))
        (pss_cons (ps_par (i := 5) (j := 6) rfl scGR.nd rfl rfl (by decide) rfl rfl (pa_cons (pmk (ok_rinit T) hr T.mk_Reach T.g_Reach (pa_cons (pv 4) (pa_cons (pv 2) pa_nil))) (pa_cons (pmk (ok_rinit T) hr T.mk_Reach T.g_Reach (pa_cons (pv 4) (pa_cons (pv 3) pa_nil))) pa_nil)) (by rfl))
        (pss_cons (ps_set (i := 7) scGR.nd rfl (Or.inl rfl) (pe_call FP hr rfl T.g_parting_allowance kP bP .nil passL (pa_cons (pv 5) (pa_cons (pv 6) pa_nil))))
        (pss_cons (ps_if (PW.pt (pw_or (pt_cmp (pc_isN (pv 7)) rfl) (pw_or1 (pt_not (pt_val (pc (ok_more T) (hr.mono (by decide)) T.g_law_more (pa_cons (pc (ok_most T) (hr.mono (by decide)) T.g_most_by (pa_cons (pv 5) (pa_cons (pv 7) pa_nil))) (pa_cons (pc (ok_most T) (hr.mono (by decide)) T.g_most_by (pa_cons (pv 6) (pa_cons (pv 7) pa_nil))) pa_nil)))))))) (pss_one (ps_ret pe_bl)) pss_nil)
        (pss_one (ps_if (PW.pt (pw_and (pt_cmp (pc_notN (pe_call FP hr rfl T.g_parting_allowance kP bP .nil passL (pa_cons (pv 6) (pa_cons (pv 5) pa_nil)))) rfl) (pw_and1 (pt_cmpR (op_ownI (op := .LtE) (fun _ _ => rfl) T.m_Reach_le.at_ T.m_Reach_le.fn (fnr_of FL bL) (hr.mono (by decide)) pass0) (pv 6) (pv 5) (nomark _))))) (pss_one (ps_ret pe_bl)) pss_nil)))))))
      (pss_one (ps_ret pe_bl)))), ?_⟩
    refine ⟨_, _, rfl, rfl, ⟨by omega, by omega, by decide⟩, ?_⟩
    show gName 0 (V.int ((10 : Int) ^ (29 : Int).toNat)) _ _ _
    rw [top_eq]
    have w1 : ∀ (x : V), [x].length ≤ sizeLine := fun x => small (by show 1 ≤ _; decide)
    have w2 : ∀ (x y : V), [x, y].length ≤ sizeLine := fun x y => small (by show 2 ≤ _; decide)
    have w4 : ∀ (x y z u : V), [x, y, z, u].length ≤ sizeLine := fun x y z u => small (by show 4 ≤ _; decide)
    have w0 : ([] : List V).length ≤ sizeLine := small (by show 0 ≤ _; decide)
    refine ⟨_, rfl, w1 _, fun a1 n1 => ⟨w1 _, fun l1 n2 => ⟨w0, fun r1 n3 => ⟨w2 _ _, fun t1 n4 => ?_⟩⟩⟩⟩
    obtain ⟨P1, s1⟩ := pair_mk1 (k := 1) (g := [topN]) n1 n2 n3 n4 (val_dec rfl (by decide +kernel)) (by decide) (by decide) (by decide +kernel)
    refine ⟨_, rfl, w2 _ _, fun a2 n1 => ⟨w1 _, fun l2 n2 => ⟨_, rfl, _, rfl, w2 _ _, fun b2 n3 => ⟨w1 _, fun r2 n4 => ⟨w2 _ _, fun t2 n5 => ?_⟩⟩⟩⟩⟩
    obtain ⟨P2, s2⟩ := pair_mk2 (k := 2) (g := [topN, none]) (d := [topN, topN]) n1 n2 n3 n4 n5 (val_dec rfl (by decide +kernel)) (val_dec rfl (by decide +kernel)) (by decide) (by decide) (by decide +kernel) (by decide +kernel)
    refine ⟨w4 _ _ _ _, fun a3 n1 => ⟨w1 _, fun l3 n2 => ⟨w4 _ _ _ _, fun b3 n3 => ⟨w1 _, fun r3 n4 => ⟨w2 _ _, fun t3 n5 => ?_⟩⟩⟩⟩⟩
    obtain ⟨P3, s3⟩ := pair_mk2 (k := 4) (g := [some 0, some 0, some 0, some 1]) (d := [some 1, some 1, some 1, some 0]) n1 n2 n3 n4 n5 (val_dec rfl (by decide +kernel)) (val_dec rfl (by decide +kernel)) (by decide) (by decide) (by decide +kernel) (by decide +kernel)
    refine ⟨w1 _, fun a4 n1 => ⟨w1 _, fun l4 n2 => ⟨_, rfl, w1 _, fun b4 n3 => ⟨w1 _, fun r4 n4 => ⟨w2 _ _, fun t4 n5 => ?_⟩⟩⟩⟩⟩
    obtain ⟨P4, s4⟩ := pair_mk2 (k := 1) (g := [none]) (d := [topN]) n1 n2 n3 n4 n5 (val_dec rfl (by decide +kernel)) (val_dec rfl (by decide +kernel)) (by decide) (by decide) (by decide +kernel) (by decide +kernel)
    refine ⟨w4 _ _ _ _, fun l nl => ?_⟩
    obtain ⟨G, hG⟩ := lst_new [.ref t1, .ref t2, .ref t3, .ref t4] nl
    rw [← hG]
    have s5 : Same _ G := hG ▸ same_upd (o := .lst [.ref t1, .ref t2, .ref t3, .ref t4]) nl
    have hl : G l = some (.lst [.ref t1, .ref t2, .ref t3, .ref t4]) := by
      rw [hG]
      exact upd_same
    have all4 : ∀ u ∈ [V.ref t1, .ref t2, .ref t3, .ref t4], PairOk G u := fun u hu => by
      simp only [List.mem_cons, List.not_mem_nil, or_false] at hu
      rcases hu with h | h | h | h
      · rw [h]
        exact P1.same (((s2.trans s3).trans s4).trans s5)
      · rw [h]
        exact P2.same ((s3.trans s4).trans s5)
      · rw [h]
        exact P3.same (s4.trans s5)
      · rw [h]
        exact P4.same s5
    have sA : Same H G := (((s1.trans s2).trans s3).trans s4).trans s5
    clear hG s1 s2 s3 s4 s5 P1 P2 P3 P4
    generalize [V.ref t1, .ref t2, .ref t3, .ref t4] = items at hl all4
    refine ⟨_, rfl, l, rfl, ⟨_, SqL.of hl⟩, for_it (walk_list (K := K) (xs := items)) (fun i σ H' => ∃ y2 y3 y4 y5 y6 y7, σ = [some (cv topN), some (.ref l), y2, y3, y4, y5, y6, y7] ∧ Same G H')
      ⟨none, none, none, none, none, none, rfl, Same.refl _⟩ (fun i σ H' _ ⟨_, _, _, _, _, _, _, s6⟩ => s6.seq (SqL.of hl)) (fun i u σ H1 H1' hi hp yy => ?_) (fun σ H1 hp => ?_)⟩
    · obtain ⟨y2, y3, y4, y5, y6, y7, rfl, s6⟩ := hp
      obtain ⟨rfl, ex⟩ := yy
      obtain ⟨t, lh, lt, a, k, vs, g, hs, rfl, p1, p2, p3, p4, p5, vg, vh, k1, k4, lv, z, zh⟩ := (all4 u (List.mem_of_getElem? ex)).same s6
      refine ⟨t, _, rfl, SqT.of p1, rfl, _, _, rfl, _, _, rfl, rfl, ?_⟩
      refine ⟨_, rfl, lh, _, _, .ref a, rfl, rfl, SqL.of p2, atI_nat (j := 0) rfl, a, _, rfl, .inr (SqT.of p3), ?_⟩
      rw [List.length_map, vg.len]
      -- Reach(size, here)
      refine ⟨_, rfl, _, rfl, fun X dX nX ndX dne => ?_⟩
      have hup : Same H1' (upd (upd H1' dX (.own X)) X (.ins (He.ga K "Reach") dX [])) := fun b o e => by
        rw [upd_ne (ne_of_none e nX), upd_ne (ne_of_none e ndX)]
        exact e
      refine ⟨X, dX, lh, k, [.ref a], [g], rfl, upd_same, hup _ _ p2, .cons ⟨a, rfl, hup _ _ p3⟩ .nil, by simpa using vg, k1, k4, by simp, fun H2 ps kx hR hsub hdom => ⟨rfl, ?_⟩⟩
      have s2 : Same H1' H2 := fun b o e => kx b o (ne_of_none e nX) (hup _ _ e)
      refine ⟨_, rfl, _, rfl, fun Y dY nY ndY dne2 => ?_⟩
      have hup2 : Same H2 (upd (upd H2 dY (.own Y)) Y (.ins (He.ga K "Reach") dY [])) := fun b o e => by
        rw [upd_ne (ne_of_none e nY), upd_ne (ne_of_none e ndY)]
        exact e
      refine ⟨Y, dY, lt, k, vs, hs, rfl, upd_same, hup2 _ _ (s2 _ _ p4), (p5.stay s2.stay).stay hup2.stay, vh, k1, k4, lv, fun H3 qs ky hR2 hsub2 hdom2 => ⟨rfl, ?_⟩⟩
      have s3 : Same H2 H3 := fun b o e => ky b o (ne_of_none e nY) (hup2 _ _ e)
      have hR := hR.stay s3.stay
      have na : ¬ (ps.all fun c => qs.any (below c)) = true := not_all (hdom g (by simp)) vg.len (fun c hc => (hR.val c hc).len) (fun c hc => (hR2.val c hc).len) hsub2 z zh
      refine ⟨_, _, rfl, ?_⟩
      -- told
      refine ⟨_, rfl, _, rfl, .inl ⟨X, Y, k, ps, qs, rfl, hR, hR2, fun H4 s4 hall => absurd hall na, fun H4 tt c Gr s4 hc hb hGr al => ?_⟩⟩
      have lc : c.length = k := (hR.val c hc).len
      refine ⟨_, rfl, _, rfl, iteF ?_⟩
      have hR4 := hR.stay s4.stay
      have hR24 := hR2.stay s4.stay
      refine ⟨_, rfl, _, rfl, X, tt, ps, _, _, _, rfl, (by rw [List.length_replicate]; exact hR4), al, fun H5 s5 => ?_⟩
      refine ⟨_, rfl, _, rfl, Y, tt, qs, _, _, _, rfl, (by rw [List.length_replicate]; exact hR24.stay s5.stay), al.stay s5.stay, fun H6 s6' => ?_⟩
      refine ⟨_, _, rfl, _, rfl, ?_⟩
      have hm := part_more (ps := ps) (qs := qs) (c := c) (G := Gr) hR2.some_ hc (fun d hd => ((hR.val d hd).len).trans lc.symm) (fun d hd => ((hR2.val d hd).len).trans lc.symm) hb hGr
      rw [lc] at hm
      rw [hm]
      refine iteF ?_
      have hR6 := (hR4.stay s5.stay).stay s6'.stay
      have hR26 := (hR24.stay s5.stay).stay s6'.stay
      have sB : Same G H6 := ((((s6.trans s2).trans s3).trans s4).trans s5).trans s6'
      refine ⟨_, rfl, _, rfl, .inl ⟨Y, X, k, qs, ps, rfl, hR26, hR6, fun H7 s7 hall => ⟨_, rfl, iteF ?_⟩, fun H7 t' c' G' s7 hc' hb' _ al' => ⟨_, rfl, iteT ?_⟩⟩⟩
      · exact ⟨_, _, _, _, _, _, rfl, sB.trans s7⟩
      · have hR7 := hR6.stay s7.stay
        have hR27 := hR26.stay s7.stay
        obtain ⟨dx, pa, pvs, h1, h2, h3⟩ := hR7.at_
        obtain ⟨dy, pb, qvs, m1, m2, m3⟩ := hR27.at_
        refine ⟨_, rfl, _, rfl, Y, _, _, X, _, _, _, rfl, rfl, m1, h1, nf_self, Y, X, k, qs, ps, rfl, hR27, hR7, fun H8 s8 => ⟨_, rfl, ?_⟩⟩
        rw [all_not hc' hb']
        exact iteF ⟨_, _, _, _, _, _, rfl, (sB.trans s7).trans s8⟩
    · obtain ⟨y2, y3, y4, y5, y6, y7, rfl, s6⟩ := hp
      exact q H1 (sA.trans s6)
end
end K79
/-! ## KD19 -/
set_option maxRecDepth 100000
set_option maxHeartbeats 8000000
namespace K79
open PySem PySem.Spec PyProof.Rows L2
section
variable {P : Program} {w : World} {K : PySem.W.Frag} {mg : Str → Option Value} {base : Heap}
theorem last_max {ms : List Int} (ho : ms.Pairwise (· ≤ ·)) (hn : ms ≠ []) : ∃ m, atI (ms.map V.int) (-1) = some (.int m) ∧ m ∈ ms ∧ ∀ y ∈ ms, y ≤ m := by
  have h1 : 0 < ms.length := List.length_pos_iff.mpr hn
  have hlt : ms.length - 1 < ms.length := by omega
  refine ⟨ms[ms.length - 1], ?_, List.getElem_mem hlt, fun y hy => ?_⟩
  · unfold atI ixN
    rw [List.length_map, if_neg (by omega), if_pos (by omega)]
    have e : (-1 + (ms.length : Int)).toNat = ms.length - 1 := by omega
    rw [e]
    show (ms.map V.int)[ms.length - 1]? = _
    rw [List.getElem?_map, List.getElem?_eq_getElem hlt]
    rfl
  · obtain ⟨i, hi, rfl⟩ := List.mem_iff_getElem.mp hy
    by_cases e : i = ms.length - 1
    · subst e
      exact Int.le_refl _
    · exact List.pairwise_iff_getElem.mp ho i (ms.length - 1) hi hlt (by omega)
theorem due_reading {y0 y1 y2 y3 y4 y5 y6 y7 y8 y10 : Option V} {D : Addr} {H : Hp} {C : VK} {ws : List Num} (hD : H D = some (.lst (ws.map cv))) (hl : ws.length ≤ 21) (hne : ws ≠ []) (q : ∀ H', Same H H' → C (cv (mostW ws)) H') :
    tIf (tTest (tOp (rIn K false) (tC .non) (tVar 9))) (tC .non) (tOp (rIxL K) (tCB (rSorted K) (tCons (tLc (iList K (tVar 9)) (gName 13) tYes (tCB rInt1 (tCons (tVar 13) tNil)) [13]) tNil)) (tUn (rU fun i => .int (-i)) (tC (.int 1))))
      [y0, y1, y2, y3, y4, y5, y6, y7, y8, some (.ref D), y10, none, none, none] H C := by
  refine ⟨_, rfl, D, _, rfl, .inl (SqL.of hD), rfl, flat_cv _, _, rfl, ?_⟩
  show if inV .non (ws.map cv) = true then _ else _
  rw [inV_non]
  unfold mostW at q
  by_cases hn : none ∈ ws
  · rw [if_pos hn] at q
    rw [decide_eq_true hn]
    exact iteT (q H (Same.refl _))
  · rw [if_neg hn] at q
    rw [decide_eq_false hn]
    refine iteF ⟨_, rfl, D, rfl, ⟨_, SqL.of hD⟩, lc_same0 (walk_list (K := K) (xs := ws.map cv)) (fun i acc _ => acc = ((ws.map (·.getD 0)).take i).map dv) (by rw [List.length_map]; omega) (fun H' s => s.seq (SqL.of hD)) (fun _ _ _ _ _ h => h) rfl
      (fun i u H2 H2' acc Kc hi s2 _ pr kc yy => ?_) (fun H2 D2 vs nD2 s2 eD2 lD2 pr => ?_)⟩
    · obtain ⟨rfl, ey⟩ := yy
      obtain ⟨n, en, rfl⟩ := get_map ey
      cases n with
      | none => exact absurd (List.mem_of_getElem? en) hn
      | some m =>
        refine ⟨rfl, _, rfl, .inl ⟨(m : Int), rfl, kc _ _ (Same.refl _) ?_⟩⟩
        rw [pr, take_succ (x := m) (by rw [List.getElem?_map, en]; rfl), List.map_append]
        rfl
    · rw [List.length_map, List.take_of_length_le (by rw [List.length_map]; exact Nat.le_refl _)] at pr
      subst pr
      refine ⟨D2, (ws.map (·.getD 0)).map fun n : Nat => (n : Int), rfl, SqL.of (by rw [List.map_map]; exact eD2), (by rw [List.length_map, List.length_map]; omega), fun ms p hp ho np => ?_⟩
      have hn2 : ms ≠ [] := fun e => by
        have := hp.length_eq
        rw [e, List.length_map, List.length_map] at this
        exact hne (List.length_eq_zero_iff.mp this.symm)
      obtain ⟨m, h1, h2, h3⟩ := last_max ho hn2
      refine ⟨1, rfl, p, _, _, .int m, rfl, rfl, SqL.of upd_same, h1, ?_⟩
      obtain ⟨m', hm', rfl⟩ := List.mem_map.mp (hp.subset h2)
      have e : m' = maxNat (ws.map (·.getD 0)) := maxNat_eq hm' fun z hz => by
        have := h3 (z : Int) (hp.symm.subset (List.mem_map.mpr ⟨z, hz, rfl⟩))
        omega
      have q2 := q (upd H2 p (.lst (ms.map V.int))) (s2.trans (same_upd np))
      rw [← e] at q2
      exact q2
theorem scal_cvcv (a b : Num) : scal (cv a) (cv b) = true := by cases a <;> cases b <;> rfl
theorem pd_nothing : PyData.eqv (.tuple [.str "nothing"]) (.tuple [.str "nothing"]) = true := by decide +kernel
theorem pd_shaped : SeqAt.shaped (.tuple [.str "nothing"]) = true := by decide +kernel
/-! ### law -/
def spLaw (K : PySem.W.Frag) : Sp := fun vs H Q _ => ∃ (a : Addr) (ns : List Int), vs = [.ref a] ∧ SqL K H a (ns.map V.int) ∧ ∀ H', Q (.bl true) H'
abbrev nLaw : List Str := ["_law_script", "_law_pool_here", "_law_turn", "_law_size", "_law_one", "_law_other", "_law_told", "_law_memo", "_law_some", "_law_worths", "_law_due", "_law_at", "_law_count", "_law_worth"]
theorem scLaw : FnScope ["_law_script", "_law_pool_here", "_law_turn", "_law_size", "_law_one", "_law_other", "_law_told", "_law_memo", "_law_some", "_law_worths", "_law_due", "_law_at", "_law_count", "_law_worth"] ["_law_script"] (defScope sLaw) := ⟨rfl, rfl, rfl, by decide +kernel, rfl, by decide +kernel, by decide +kernel⟩
theorem ok_law (T : Tx K mg) {fd : FuncData} (F : FunD K "law" "law" (defArgs sLaw) (defBody sLaw) (defScope sLaw) [] [] (He.ga K "law") fd) : FnOk P w K mg base CX0 8 (He.ga K "law") fd ["_law_script"] (spLaw K) := by
  obtain ⟨fdP, FP, bP, kP⟩ := ok_part (P := P) (w := w) (base := base) T
  obtain ⟨fdL, FL, bL⟩ := (ok_rle (P := P) (w := w) (base := base) T).ex
  obtain ⟨fdA, DA, FA⟩ := ok_ainit (P := P) (w := w) (base := base) T
  obtain ⟨mv, kb⟩ := kb_mem DA
  refine F.ok scLaw (fun vs H Q E h => ?_) (fun cdv A outer s H vs Q E hr h => ?_)
  · obtain ⟨a, ns, rfl, _⟩ := h
    rfl
  · obtain ⟨a, ns, rfl, ha, q⟩ := h
    refine ⟨_, PSs.nox (pss_cons (ps_if (pt_not (pt_val (pc0 (ok_gr T) hr T.g_law_great_right))) (pss_one (ps_ret pe_bl)) pss_nil)
      (pss_cons (ps_set (i := 1) scLaw.nd rfl (Or.inr rfl) (pc (ok_pool T) (hr.mono (by decide)) T.g_law_pool (pa_cons (pv 0) (pa_cons pe_int pa_nil))))
      (pss_cons (ps_for PassesOwn.never rfl (pi_range1 (by rfl) T.n_range (pa_cons pe_int pa_nil)) (pg_name (i := 2) scLaw.nd rfl (Or.inl rfl))
        (pss_cons (ps_set (i := 3) scLaw.nd rfl (Or.inl rfl) (pe_op op_add pe_int (pc (ok_draw T) (hr.mono (by decide)) T.g_law_draw (pa_cons (pv 1) (pa_cons pe_int pa_nil)))))
        (pss_cons (ps_par (i := 4) (j := 5) rfl scLaw.nd rfl rfl (by decide) rfl rfl (pa_cons (pc (ok_lreach T) hr T.g_law_reach (pa_cons (pv 1) (pa_cons (pv 3) pa_nil))) (pa_cons (pc (ok_lreach T) hr T.g_law_reach (pa_cons (pv 1) (pa_cons (pv 3) pa_nil))) pa_nil)) (by rfl))
        (pss_cons (ps_set (i := 6) scLaw.nd rfl (Or.inl rfl) (pe_call FP (hr.mono (by decide)) rfl T.g_parting_allowance kP bP .nil passL (pa_cons (pv 4) (pa_cons (pv 5) pa_nil))))
        (pss_cons (ps_if (pt_cmpR op_ne (pe_cmp (pc_isN (pv 6)) rfl) (pe_cmpR (op_ownI (op := .LtE) (fun _ _ => rfl) T.m_Reach_le.at_ T.m_Reach_le.fn (fnr_of FL bL) (hr.mono (by decide)) pass0) (pv 4) (pv 5) (nomark _)) (nomark _)) (pss_one (ps_ret pe_bl)) pss_nil)
        (pss_cons (ps_if (pt_cmp (pc_notN (pv 6)) rfl) (pss_one (ps_if (PW.pt (pw_or (pt_cmpR (op_neD hr.units) (pe_fld (pv 6) rfl) (pe_tup (pa_cons pe_str pa_nil)) (nomark _))
            (pw_or1 (pt_not (pt_val (pc (ok_more T) (hr.mono (by decide)) T.g_law_more (pa_cons (pc (ok_most T) (hr.mono (by decide)) T.g_most_by (pa_cons (pv 4) (pa_cons (pv 6) pa_nil))) (pa_cons (pc (ok_most T) (hr.mono (by decide)) T.g_most_by (pa_cons (pv 5) (pa_cons (pv 6) pa_nil))) pa_nil)))))))) (pss_one (ps_ret pe_bl)) pss_nil)) pss_nil)
        (pss_cons (ps_set (i := 7) scLaw.nd rfl (Or.inl rfl) (pc (ok_pick T) (hr.mono (by decide)) T.g_law_pick (pa_cons (pv 1) (pa_cons (pe_lst (pa_cons (pe_tup (pa_cons pe_str pa_nil)) (pa_cons (pe_tup (pa_cons pe_str (pa_cons pe_int pa_nil))) pa_nil))) pa_nil))))
        (pss_cons (ps_set (i := 8) scLaw.nd rfl (Or.inr rfl) (pe_makeK (n := 1) (ks := ["memory"]) T.mk_Allowance FA (hr.mono (by decide)) rfl T.g_Allowance kb pass0
            (pa_cons (pe_lc (own := [("_law_at", 11)]) (g := gName 11) (tt := tYes) rfl scLaw.nd (pi_range1 (by rfl) T.n_range (pa_cons (pv 3) pa_nil)) (blkOk_by (own := [("_law_at", 11)]) (N := nLaw) (sc := defScope sLaw) (by decide +kernel))
              (fun _ _ _ _ _ => pg_name (i := 11) scLaw.nd rfl (Or.inl rfl)) (fun _ _ _ _ _ => pts_nil) (fun _ _ _ _ _ => pc (ok_draw T) (hr.mono (by decide)) T.g_law_draw (pa_cons (pv 1) (pa_cons pe_int pa_nil)))) pa_nil) (pk_cons (pv 7) pk_nil)))
        (pss_cons (ps_setLc (i := 9) (own := [("_law_count", 12)]) (g := gName 12) (tt := tYes) rfl scLaw.nd rfl rfl rfl (pi_tup (pe_fld (pv 4) rfl)) (blkOk_by (own := [("_law_count", 12)]) (N := nLaw) (sc := defScope sLaw) (by decide +kernel))
            (fun _ _ _ _ _ => pg_name (i := 12) scLaw.nd rfl (Or.inl rfl)) (fun _ _ _ _ _ => pts_nil) (fun _ _ _ _ _ => pm (ok_worth T) (hr.mono (by decide)) T.c_Allowance T.m_Allowance_worth (pv 8) (pa_cons (pv 12) pa_nil)))
        (pss_cons (ps_set (i := 10) scLaw.nd rfl (Or.inl rfl) (pe_ifExp (pt_cmpR op_in_seq pe_non (pv 9) rfl) pe_non (pe_ix ix_list (pe_callB cr_sorted (by rfl) T.n_sorted (by decide +kernel) (pa_cons
            (pe_lc (own := [("_law_worth", 13)]) (g := gName 13) (tt := tYes) rfl scLaw.nd (pi_list (pv 9)) (blkOk_by (own := [("_law_worth", 13)]) (N := nLaw) (sc := defScope sLaw) (by decide +kernel))
              (fun _ _ _ _ _ => pg_name (i := 13) scLaw.nd rfl (Or.inl rfl)) (fun _ _ _ _ _ => pts_nil) (fun _ _ _ _ _ => pe_callTy call_int1 (by rfl) T.n_int (by decide +kernel) (pa_cons (pv 13) pa_nil))) pa_nil)) (pe_un un_neg pe_int) (fun _ _ => rfl))))
        (pss_cons (ps_if (PW.pt (pw_or (pt_cmpR op_ne (pc (ok_most T) (hr.mono (by decide)) T.g_most_by (pa_cons (pv 4) (pa_cons (pv 8) pa_nil))) (pv 10) (nomark _))
            (pw_or1 (PW.pt (pw_and (pt_cmpR (op_ownI (op := .LtE) (fun _ _ => rfl) T.m_Reach_le.at_ T.m_Reach_le.fn (fnr_of FL bL) (hr.mono (by decide)) pass0) (pv 4) (pv 5) (nomark _))
              (pw_and1 (pt_val (pc (ok_more T) (hr.mono (by decide)) T.g_law_more (pa_cons (pv 10) (pa_cons (pc (ok_most T) (hr.mono (by decide)) T.g_most_by (pa_cons (pv 5) (pa_cons (pv 8) pa_nil))) pa_nil)))))))))) (pss_one (ps_ret pe_bl)) pss_nil)
        (pss_cons (ps_if (PW.pt (pw_or (pt_cmpR op_ne (pc (ok_refused T) hr T.g_law_refused (pa_cons pe_non (pa_cons (pv 5) pa_nil))) pe_str (nomark _))
            (pw_or1 (pt_cmpR op_ne (pc (ok_refused T) hr T.g_law_refused (pa_cons (pv 4) (pa_cons pe_non pa_nil))) pe_str (nomark _))))) (pss_one (ps_ret pe_bl)) pss_nil)
        (pss_one (ps_if (pt_cmpR op_ne (pc (ok_refused T) hr T.g_law_refused (pa_cons (pv 4) (pa_cons (pmk (ok_rinit T) (hr.mono (by decide)) T.mk_Reach T.g_Reach (pa_cons (pe_op op_add (pv 3) pe_int) (pa_cons (pe_lst pa_nil) pa_nil))) pa_nil))) pe_str (nomark _)) (pss_one (ps_ret pe_bl)) pss_nil))))))))))))))
      (pss_one (ps_ret pe_bl))))), ?_⟩
    refine ⟨rfl, fun H1 s1 => ⟨_, rfl, iteF ?_⟩⟩
    refine ⟨_, rfl, a, ns, rfl, s1.seq ha, fun H2 p s2 hp2 => ?_⟩
    refine ⟨8, rfl, by omega, by omega, ?_⟩
    refine for_it (walk_range (lo := 0) (n := 8)) (fun i σ H' => ∃ y2 y3 y4 y5 y6 y7 y8 y9 y10, σ = [some (.ref a), some (.ref p), y2, y3, y4, y5, y6, y7, y8, y9, y10, none, none, none] ∧ PoolAt H' p)
      ⟨none, none, none, none, none, none, none, none, none, rfl, hp2⟩ (fun _ _ _ _ _ => trivial) (fun i u σ H3 H3' hi hp yy => ?_) (fun σ H3 hp => ?_)
    · obtain ⟨y2, y3, y4, y5, y6, y7, y8, y9, y10, rfl, hp3⟩ := hp
      obtain ⟨rfl, rfl⟩ := yy
      -- size
      refine ⟨_, rfl, p, 3, rfl, hp3, by omega, by omega, fun H4 r kp4 hp4 hr3 => ⟨_, _, rfl, rfl, ?_⟩⟩
      obtain ⟨k, ek⟩ : ∃ k : Nat, (1 : Int) + (r : Int) = (k : Int) := ⟨1 + r, by omega⟩
      show gName 3 (V.int ((1 : Int) + (r : Int))) _ _ _
      rw [ek]
      have k1 : 1 ≤ k := by omega
      have k3 : k ≤ 3 := by omega
      -- one, other
      refine ⟨_, rfl, _, rfl, p, k, rfl, hp4, k1, by omega, fun H5 x ps kp5 hp5 hx5 => ⟨_, rfl, _, rfl, p, k, rfl, hp5, k1, by omega, fun H6 y qs kp6 hp6 hy6 => ⟨_, _, rfl, ?_⟩⟩⟩
      have hx6 : RchAt (He.ga K "Reach") H6 x k ps := hx5.stay (hp5.stay kp6)
      replace hy6 : RchAt (He.ga K "Reach") H6 y k qs := hy6
      clear hx5
      -- told
      refine ⟨_, rfl, _, rfl, .inl ⟨x, y, k, ps, qs, rfl, hx6, hy6, fun H7 s7 hall => ?_, fun H7 t c Gr s7 hc hb hGr al => ?_⟩⟩
      · have hx7 := hx6.stay s7.stay
        have hy7 := hy6.stay s7.stay
        have hp7 := hp6.same s7
        obtain ⟨dx, pa, pvs, m1, m2, m3⟩ := id hx7.at_
        obtain ⟨dy, pb, qvs, n1, n2, n3⟩ := id hy7.at_
        refine ⟨_, rfl, _, rfl, _, rfl, x, _, _, y, _, _, _, rfl, rfl, m1, n1, nf_self, x, y, k, ps, qs, rfl, hx7, hy7, fun H8 s8 => ⟨rfl, _, rfl, ?_⟩⟩
        refine iteNS (by rw [hall]; rfl) ?_
        refine ⟨_, rfl, _, rfl, iteF ?_⟩
        have hx8 := hx7.stay s8.stay
        have hy8 := hy7.stay s8.stay
        have hp8 := hp7.same s8
        clear m1 m2 m3 n1 n2 n3
        -- memo
        refine ⟨_, rfl, small (by show 1 ≤ _; decide), fun z1 nz1 => ⟨small (by show 2 ≤ _; decide), fun z2 nz2 => ⟨small (by show 2 ≤ _; decide), fun l nl => ?_⟩⟩⟩
        have t1 := same_upd (o := .tup (memV .nothing)) nz1
        have t2 := same_upd (o := .tup (memV (.times 2))) nz2
        have t3 := same_upd (o := .lst [V.ref z1, .ref z2]) nl
        have hpl := ((hp8.same t1).same t2).same t3
        have nlp : l ≠ p := fun e => by
          obtain ⟨_, _, z, _⟩ := (hp8.same t1).same t2
          rw [← e] at z
          exact absurd (z.symm.trans nl) (by simp)
        refine ⟨p, l, [.ref z1, .ref z2], rfl, hpl, upd_same, nlp, by simp, by simp, fun H12 u kp12 hp12 hu => ?_⟩
        have st12 := ((t1.stay.trans t2.stay).trans t3.stay).trans (hpl.stay kp12)
        have hx12 := hx8.stay st12
        have hy12 := hy8.stay st12
        obtain ⟨za, m, rfl, ez, hmok⟩ : ∃ za m, u = V.ref za ∧ H12 za = some (.tup (memV m)) ∧ memOk m := by
          rcases List.mem_cons.mp hu with e | hu
          · exact ⟨z1, .nothing, e, ((t2.stay.trans t3.stay).trans (hpl.stay kp12)).tup upd_same, trivial⟩
          · exact ⟨z2, .times 2, List.mem_singleton.mp hu, (t3.stay.trans (hpl.stay kp12)).tup upd_same, by show 2 ≤ 10 ^ 6; decide⟩
        clear t1 t2 t3 hpl nlp st12 kp12 hu nz1 nz2 nl hx8 hy8 hp8
        -- some
        refine ⟨_, rfl, (k : Int), rfl, by omega, by omega, ?_⟩
        rw [Int.toNat_natCast]
        refine lc_pool (walk_range (lo := 0) (n := k)) hp12 (fun i acc => ∃ ds : List Nat, acc = ds.map dv ∧ ds.length = i ∧ ∀ d ∈ ds, d ≤ 1000) (by omega) (fun _ _ => trivial) ⟨[], rfl, rfl, by simp⟩
          (fun j v H13 H13' acc Kc hj kp13 hp13 pr kc yy => ?_) (fun H13 D acc nD kp13 hp13 eD pr => ?_)
        · obtain ⟨rfl, rfl⟩ := yy
          obtain ⟨ds, rfl, hdl, hd⟩ := pr
          refine ⟨rfl, _, rfl, p, 5, rfl, hp13, by omega, by omega, fun H14 r kp14 hp14 hr5 => kc _ _ kp14 hp14 ⟨ds ++ [r], by rw [List.map_append]; rfl, by simp [hdl], fun d hdm => ?_⟩⟩
          rcases List.mem_append.mp hdm with h | h
          · exact hd d h
          · rw [List.mem_singleton.mp h]
            omega
        obtain ⟨ds, rfl, hdl, hd⟩ := pr
        have st13 := hp12.stay kp13
        refine ⟨_, rfl, rfl, rfl, fun X dX nX ndX dne => ?_⟩
        have hup : Same H13 (upd (upd H13 dX (.own X)) X (.ins (He.ga K "Allowance") dX [])) := fun b o e => by
          rw [upd_ne (ne_of_none e nX), upd_ne (ne_of_none e ndX)]
          exact e
        refine ⟨X, dX, D, za, .non, ds, List.replicate ds.length none, m, rfl, upd_same, hup _ _ eD, .inl ⟨rfl, rfl⟩, by simp, by omega, by omega, hd, fun z hz => .inr (List.mem_replicate.mp hz).2, SqT.of (hup _ _ (st13.tup ez)), hmok, fun H14 k14 al => ⟨rfl, ?_⟩⟩
        have s14 : Same H13 H14 := fun b o e => k14 b o (ne_of_none e nX) (hup _ _ e)
        have hx14 := (hx12.stay st13).stay s14.stay
        have hy14 := (hy12.stay st13).stay s14.stay
        have hp14 := hp13.same s14
        clear hup k14 s14 st13 hx12 hy12 nX ndX dne eD nD kp13 hp13 ez hp12
        obtain ⟨dx, pa, pvs, m1, m2, m3⟩ := id hx14.at_
        obtain ⟨dX2, da2, oa2, ma2, b1, b2, b3, b4⟩ := id al.at_
        -- worths
        refine ⟨_, rfl, x, _, dx, _, _, rfl, m1, T.c_Reach, T.no_Reach_peaks, rf_peaks _ _, pa, rfl, ⟨_, SqT.of m2⟩, ?_⟩
        refine lc_same0 (walk_tup (K := K) (xs := pvs)) (fun i acc _ => acc = ((ps.map (worthN ds (List.replicate ds.length none) m)).take i).map cv) (by have := paired_len m3; have := hx14.few; omega) (fun H' s => s.sqT (SqT.of m2)) (fun _ _ _ _ _ h => h) rfl
          (fun i u H15 H15' acc Kc hi s15 _ pr kc yy => ?_) (fun H15 D2 ws nD2 s15 eD2 lD2 pr => ?_)
        · obtain ⟨rfl, ey⟩ := yy
          obtain ⟨d, ed, hd'⟩ := paired_get m3 ey
          obtain ⟨b, rfl, eb⟩ := hd'.stay s15.stay
          refine ⟨rfl, _, rfl, X, dX2, _, rfl, s15 _ _ b1, af_no _ _ _ (by decide +kernel) (by decide +kernel) (by decide +kernel), _, rfl, ?_⟩
          refine ⟨X, b, ds, _, m, d, rfl, al.stay s15.stay, eb, by rw [hdl]; exact hx14.val d (List.mem_of_getElem? ed), fun H16 s16 => kc _ _ s16 ?_⟩
          rw [pr, take_succ (x := worthN ds (List.replicate ds.length none) m d) (by rw [List.getElem?_map, ed]; rfl), List.map_append]
          rfl
        have lp : pvs.length = (ps.map (worthN ds (List.replicate ds.length none) m)).length := by rw [List.length_map]; exact paired_len m3
        rw [lp, List.take_length] at pr
        subst pr
        -- due
        refine due_reading eD2 (by rw [List.length_map]; exact hx14.few) (by simpa using hx14.some_) fun H16 s16 => ?_
        have hx16 := (hx14.stay s15.stay).stay s16.stay
        have hy16 := (hy14.stay s15.stay).stay s16.stay
        have al16 := (al.stay s15.stay).stay s16.stay
        have hp16 := (hp14.same s15).same s16
        clear m1 m2 m3 b1 b2 b3 b4 hx14 hy14 al hp14 s15 s16 eD2 lD2 nD2 lp
        -- most_by
        refine ⟨_, rfl, _, rfl, x, X, ps, ds, _, m, rfl, (by rw [hdl]; exact hx16), al16, fun H17 s17 => ⟨_, rfl, scal_cvcv _ _, _, rfl, ?_⟩⟩
        refine iteNS rfl ?_
        have hx17 := hx16.stay s17.stay
        have hy17 := hy16.stay s17.stay
        have al17 := al16.stay s17.stay
        have hp17 := hp16.same s17
        clear hx16 hy16 al16 hp16 s17
        obtain ⟨dx, pa, pvs, m1, m2, m3⟩ := id hx17.at_
        obtain ⟨dy, pb, qvs, n1, n2, n3⟩ := id hy17.at_
        refine ⟨_, rfl, _, rfl, x, _, _, y, _, _, _, rfl, rfl, m1, n1, nf_self, x, y, k, ps, qs, rfl, hx17, hy17, fun H18 s18 => ⟨_, rfl, ?_⟩⟩
        rw [hall]
        have hx18 := hx17.stay s18.stay
        have hy18 := hy17.stay s18.stay
        have al18 := al17.stay s18.stay
        have hp18 := hp17.same s18
        clear m1 m2 m3 n1 n2 n3 hx17 hy17 al17 hp17 s18
        refine iteT ?_
        refine ⟨_, rfl, _, rfl, _, rfl, y, X, qs, ds, _, m, rfl, (by rw [hdl]; exact hy18), al18, fun H19 s19 => ⟨_, _, rfl, _, rfl, ?_⟩⟩
        have hmm := most_mono (days := ds) (outs := List.replicate ds.length none) (mem := m) (ps := ps) (qs := qs) (fun o ho => (List.mem_replicate.mp ho).2) (fun c hc => by rw [(hx18.val c hc).len, hdl]) (fun c hc => by rw [(hy18.val c hc).len, hdl]) hall
        rw [show moreN (mostW (ps.map (worthN ds (List.replicate ds.length none) m))) (mostN ds (List.replicate ds.length none) m qs) = false from hmm]
        refine iteF ?_
        have hx19 := hx18.stay s19.stay
        have hp19 := hp18.same s19
        -- refused
        refine ⟨_, rfl, .inl ⟨.ref y, rfl, fun H20 s20 => ⟨rfl, _, rfl, iteNS rfl ?_⟩⟩⟩
        have hx20 := hx19.stay s20.stay
        have hp20 := hp19.same s20
        refine ⟨_, rfl, .inr (.inl ⟨x, k, ps, rfl, hx20, fun H21 s21 => ⟨rfl, _, rfl, iteNS rfl ?_⟩⟩)⟩
        have hx21 := hx20.stay s21.stay
        have hp21 := hp20.same s21
        refine ⟨_, rfl, _, rfl, _, _, rfl, rfl, small (by show 0 ≤ _; decide), fun l nl => fun Y dY nY ndY dne => ?_⟩
        have t1 := same_upd (o := .lst []) nl
        have el : upd H21 l (.lst []) l = some (.lst []) := upd_same
        generalize upd H21 l (.lst []) = H22 at t1 el nY ndY ⊢
        have hup : Same H22 (upd (upd H22 dY (.own Y)) Y (.ins (He.ga K "Reach") dY [])) := fun b o e => by
          rw [upd_ne (ne_of_none e nY), upd_ne (ne_of_none e ndY)]
          exact e
        refine ⟨Y, dY, l, k + 1, [], [], rfl, upd_same, hup _ _ el, .nil, by simp, by omega, by omega, by simp, fun H23 rs ky hR _ _ => ⟨rfl, ?_⟩⟩
        have s23 : Same H22 H23 := fun b o e => ky b o (ne_of_none e nY) (hup _ _ e)
        refine .inr (.inr ⟨x, Y, k, k + 1, ps, rs, rfl, (hx21.stay t1.stay).stay s23.stay, hR, by omega, fun H24 s24 => ⟨rfl, _, rfl, iteNS rfl ?_⟩⟩)
        exact ⟨_, _, _, _, _, _, _, _, _, rfl, ((hp21.same t1).same s23).same s24⟩
      · have hx7 := hx6.stay s7.stay
        have hy7 := hy6.stay s7.stay
        have hp7 := hp6.same s7
        have lc : c.length = k := (hx6.val c hc).len
        have hall := all_not hc hb
        obtain ⟨dx, pa, pvs, m1, m2, m3⟩ := id hx7.at_
        obtain ⟨dy, pb, qvs, n1, n2, n3⟩ := id hy7.at_
        refine ⟨_, rfl, _, rfl, _, rfl, x, _, _, y, _, _, _, rfl, rfl, m1, n1, nf_self, x, y, k, ps, qs, rfl, hx7, hy7, fun H8 s8 => ⟨rfl, _, rfl, ?_⟩⟩
        refine iteNS (by rw [hall]; rfl) ?_
        refine ⟨_, rfl, _, rfl, iteT ?_⟩
        have al8 := al.stay s8.stay
        obtain ⟨dt, da, oa, ma, a1, a2, a3, a4⟩ := id al8.at_
        refine ⟨_, rfl, t, _, dt, _, _, rfl, a1, T.c_Allowance, T.no_Allowance_memory, af_mem _ _ _, small (by show 1 ≤ _; decide), fun z nz => ?_⟩
        have s9 := same_upd (o := .tup [.str "nothing"]) nz
        refine ⟨.tuple [.str "nothing"], .tuple [.str "nothing"], .tup (s9.sqT a4) (.cons (.str _) .nil), .tup (SqT.of upd_same) (.cons (.str _) .nil), pd_shaped, pd_shaped, _, rfl, ?_⟩
        rw [pd_nothing]
        refine iteF ?_
        generalize upd H8 z (.tup [.str "nothing"]) = H9 at s9 ⊢
        have hx9 := (hx7.stay s8.stay).stay s9.stay
        have hy9 := (hy7.stay s8.stay).stay s9.stay
        have al9 := al8.stay s9.stay
        refine ⟨_, rfl, _, rfl, x, t, ps, _, _, _, rfl, (by rw [List.length_replicate]; exact hx9), al9, fun H10 s10 => ?_⟩
        refine ⟨_, rfl, _, rfl, y, t, qs, _, _, _, rfl, (by rw [List.length_replicate]; exact hy9.stay s10.stay), al9.stay s10.stay, fun H11 s11 => ?_⟩
        refine ⟨_, _, rfl, _, rfl, ?_⟩
        have hm := part_more (ps := ps) (qs := qs) (c := c) (G := Gr) hy6.some_ hc (fun d hd => ((hx6.val d hd).len).trans lc.symm) (fun d hd => ((hy6.val d hd).len).trans lc.symm) hb hGr
        rw [lc] at hm
        rw [hm]
        refine iteF ?_
        have hx8 := (hx9.stay s10.stay).stay s11.stay
        have hy8 := (hy9.stay s10.stay).stay s11.stay
        have hp8 := (((hp7.same s8).same s9).same s10).same s11
        clear al8 a1 a2 a3 a4 al9 s9 s10 hx9 hy9 s8
        clear m1 m2 m3 n1 n2 n3
        -- memo
        refine ⟨_, rfl, small (by show 1 ≤ _; decide), fun z1 nz1 => ⟨small (by show 2 ≤ _; decide), fun z2 nz2 => ⟨small (by show 2 ≤ _; decide), fun l nl => ?_⟩⟩⟩
        have t1 := same_upd (o := .tup (memV .nothing)) nz1
        have t2 := same_upd (o := .tup (memV (.times 2))) nz2
        have t3 := same_upd (o := .lst [V.ref z1, .ref z2]) nl
        have hpl := ((hp8.same t1).same t2).same t3
        have nlp : l ≠ p := fun e => by
          obtain ⟨_, _, z, _⟩ := (hp8.same t1).same t2
          rw [← e] at z
          exact absurd (z.symm.trans nl) (by simp)
        refine ⟨p, l, [.ref z1, .ref z2], rfl, hpl, upd_same, nlp, by simp, by simp, fun H12 u kp12 hp12 hu => ?_⟩
        have st12 := ((t1.stay.trans t2.stay).trans t3.stay).trans (hpl.stay kp12)
        have hx12 := hx8.stay st12
        have hy12 := hy8.stay st12
        obtain ⟨za, m, rfl, ez, hmok⟩ : ∃ za m, u = V.ref za ∧ H12 za = some (.tup (memV m)) ∧ memOk m := by
          rcases List.mem_cons.mp hu with e | hu
          · exact ⟨z1, .nothing, e, ((t2.stay.trans t3.stay).trans (hpl.stay kp12)).tup upd_same, trivial⟩
          · exact ⟨z2, .times 2, List.mem_singleton.mp hu, (t3.stay.trans (hpl.stay kp12)).tup upd_same, by show 2 ≤ 10 ^ 6; decide⟩
        clear t1 t2 t3 hpl nlp st12 kp12 hu nz1 nz2 nl hx8 hy8 hp8
        -- some
        refine ⟨_, rfl, (k : Int), rfl, by omega, by omega, ?_⟩
        rw [Int.toNat_natCast]
        refine lc_pool (walk_range (lo := 0) (n := k)) hp12 (fun i acc => ∃ ds : List Nat, acc = ds.map dv ∧ ds.length = i ∧ ∀ d ∈ ds, d ≤ 1000) (by omega) (fun _ _ => trivial) ⟨[], rfl, rfl, by simp⟩
          (fun j v H13 H13' acc Kc hj kp13 hp13 pr kc yy => ?_) (fun H13 D acc nD kp13 hp13 eD pr => ?_)
        · obtain ⟨rfl, rfl⟩ := yy
          obtain ⟨ds, rfl, hdl, hd⟩ := pr
          refine ⟨rfl, _, rfl, p, 5, rfl, hp13, by omega, by omega, fun H14 r kp14 hp14 hr5 => kc _ _ kp14 hp14 ⟨ds ++ [r], by rw [List.map_append]; rfl, by simp [hdl], fun d hdm => ?_⟩⟩
          rcases List.mem_append.mp hdm with h | h
          · exact hd d h
          · rw [List.mem_singleton.mp h]
            omega
        obtain ⟨ds, rfl, hdl, hd⟩ := pr
        have st13 := hp12.stay kp13
        refine ⟨_, rfl, rfl, rfl, fun X dX nX ndX dne => ?_⟩
        have hup : Same H13 (upd (upd H13 dX (.own X)) X (.ins (He.ga K "Allowance") dX [])) := fun b o e => by
          rw [upd_ne (ne_of_none e nX), upd_ne (ne_of_none e ndX)]
          exact e
        refine ⟨X, dX, D, za, .non, ds, List.replicate ds.length none, m, rfl, upd_same, hup _ _ eD, .inl ⟨rfl, rfl⟩, by simp, by omega, by omega, hd, fun z hz => .inr (List.mem_replicate.mp hz).2, SqT.of (hup _ _ (st13.tup ez)), hmok, fun H14 k14 al => ⟨rfl, ?_⟩⟩
        have s14 : Same H13 H14 := fun b o e => k14 b o (ne_of_none e nX) (hup _ _ e)
        have hx14 := (hx12.stay st13).stay s14.stay
        have hy14 := (hy12.stay st13).stay s14.stay
        have hp14 := hp13.same s14
        clear hup k14 s14 st13 hx12 hy12 nX ndX dne eD nD kp13 hp13 ez hp12
        obtain ⟨dx, pa, pvs, m1, m2, m3⟩ := id hx14.at_
        obtain ⟨dX2, da2, oa2, ma2, b1, b2, b3, b4⟩ := id al.at_
        -- worths
        refine ⟨_, rfl, x, _, dx, _, _, rfl, m1, T.c_Reach, T.no_Reach_peaks, rf_peaks _ _, pa, rfl, ⟨_, SqT.of m2⟩, ?_⟩
        refine lc_same0 (walk_tup (K := K) (xs := pvs)) (fun i acc _ => acc = ((ps.map (worthN ds (List.replicate ds.length none) m)).take i).map cv) (by have := paired_len m3; have := hx14.few; omega) (fun H' s => s.sqT (SqT.of m2)) (fun _ _ _ _ _ h => h) rfl
          (fun i u H15 H15' acc Kc hi s15 _ pr kc yy => ?_) (fun H15 D2 ws nD2 s15 eD2 lD2 pr => ?_)
        · obtain ⟨rfl, ey⟩ := yy
          obtain ⟨d, ed, hd'⟩ := paired_get m3 ey
          obtain ⟨b, rfl, eb⟩ := hd'.stay s15.stay
          refine ⟨rfl, _, rfl, X, dX2, _, rfl, s15 _ _ b1, af_no _ _ _ (by decide +kernel) (by decide +kernel) (by decide +kernel), _, rfl, ?_⟩
          refine ⟨X, b, ds, _, m, d, rfl, al.stay s15.stay, eb, by rw [hdl]; exact hx14.val d (List.mem_of_getElem? ed), fun H16 s16 => kc _ _ s16 ?_⟩
          rw [pr, take_succ (x := worthN ds (List.replicate ds.length none) m d) (by rw [List.getElem?_map, ed]; rfl), List.map_append]
          rfl
        have lp : pvs.length = (ps.map (worthN ds (List.replicate ds.length none) m)).length := by rw [List.length_map]; exact paired_len m3
        rw [lp, List.take_length] at pr
        subst pr
        -- due
        refine due_reading eD2 (by rw [List.length_map]; exact hx14.few) (by simpa using hx14.some_) fun H16 s16 => ?_
        have hx16 := (hx14.stay s15.stay).stay s16.stay
        have hy16 := (hy14.stay s15.stay).stay s16.stay
        have al16 := (al.stay s15.stay).stay s16.stay
        have hp16 := (hp14.same s15).same s16
        clear m1 m2 m3 b1 b2 b3 b4 hx14 hy14 al hp14 s15 s16 eD2 lD2 nD2 lp
        -- most_by
        refine ⟨_, rfl, _, rfl, x, X, ps, ds, _, m, rfl, (by rw [hdl]; exact hx16), al16, fun H17 s17 => ⟨_, rfl, scal_cvcv _ _, _, rfl, ?_⟩⟩
        refine iteNS rfl ?_
        have hx17 := hx16.stay s17.stay
        have hy17 := hy16.stay s17.stay
        have al17 := al16.stay s17.stay
        have hp17 := hp16.same s17
        clear hx16 hy16 al16 hp16 s17
        obtain ⟨dx, pa, pvs, m1, m2, m3⟩ := id hx17.at_
        obtain ⟨dy, pb, qvs, n1, n2, n3⟩ := id hy17.at_
        refine ⟨_, rfl, _, rfl, x, _, _, y, _, _, _, rfl, rfl, m1, n1, nf_self, x, y, k, ps, qs, rfl, hx17, hy17, fun H18 s18 => ⟨_, rfl, ?_⟩⟩
        rw [hall]
        have hx18 := hx17.stay s18.stay
        have hy18 := hy17.stay s18.stay
        have al18 := al17.stay s18.stay
        have hp18 := hp17.same s18
        clear m1 m2 m3 n1 n2 n3 hx17 hy17 al17 hp17 s18
        refine iteF ?_
        have hx19 := hx18
        have hp19 := hp18
        -- refused
        refine ⟨_, rfl, .inl ⟨.ref y, rfl, fun H20 s20 => ⟨rfl, _, rfl, iteNS rfl ?_⟩⟩⟩
        have hx20 := hx19.stay s20.stay
        have hp20 := hp19.same s20
        refine ⟨_, rfl, .inr (.inl ⟨x, k, ps, rfl, hx20, fun H21 s21 => ⟨rfl, _, rfl, iteNS rfl ?_⟩⟩)⟩
        have hx21 := hx20.stay s21.stay
        have hp21 := hp20.same s21
        refine ⟨_, rfl, _, rfl, _, _, rfl, rfl, small (by show 0 ≤ _; decide), fun l nl => fun Y dY nY ndY dne => ?_⟩
        have t1 := same_upd (o := .lst []) nl
        have el : upd H21 l (.lst []) l = some (.lst []) := upd_same
        generalize upd H21 l (.lst []) = H22 at t1 el nY ndY ⊢
        have hup : Same H22 (upd (upd H22 dY (.own Y)) Y (.ins (He.ga K "Reach") dY [])) := fun b o e => by
          rw [upd_ne (ne_of_none e nY), upd_ne (ne_of_none e ndY)]
          exact e
        refine ⟨Y, dY, l, k + 1, [], [], rfl, upd_same, hup _ _ el, .nil, by simp, by omega, by omega, by simp, fun H23 rs ky hR _ _ => ⟨rfl, ?_⟩⟩
        have s23 : Same H22 H23 := fun b o e => ky b o (ne_of_none e nY) (hup _ _ e)
        refine .inr (.inr ⟨x, Y, k, k + 1, ps, rs, rfl, (hx21.stay t1.stay).stay s23.stay, hR, by omega, fun H24 s24 => ⟨rfl, _, rfl, iteNS rfl ?_⟩⟩)
        exact ⟨_, _, _, _, _, _, _, _, _, rfl, ((hp21.same t1).same s23).same s24⟩
    · exact q H3
end
end K79
/-! ## KRun -/
set_option maxRecDepth 100000
set_option maxHeartbeats 0
namespace K79
open PySem PySem.Spec PyProof.Rows L2
/-! ### the Hook -/
def frY (n : Nat) (g : Addr → Option Obj) : PySem.W.Frag := He.frG g (PySem.cStatics :: He.asD g n)
abbrev AlY : Type := He.AlD × Bool
def obsY (n : Nat) (g : Addr → Option Obj) : AlY := (He.obsD fa fn (frY n g), moreK (frY n g))
def valY : AlY := (He.valD fn, true)
def hookY (n : Nat) : PySem.W.Hook where
  α := AlY
  obs := fun s => obsY n s.heap.get?
  val := fun _ => valY
  says := fun _ h => ∃ K : PySem.W.Frag, K.In h ∧ SaysY K
  of := fun _ _ e => ⟨_, He.frG_in, ⟨congrArg (fun z : AlY => z.1) e, congrArg (fun z : AlY => z.2) e⟩⟩
  keeps := fun _ _ _ ⟨K, hK, c⟩ k => ⟨K, PySem.W.Frag.In.keeps hK k, c⟩
theorem obsY_eq {n : Nat} {g : Addr → Option Obj} {s : Shared} (h : ∀ a, g a = s.heap.get? a) : obsY n g = (hookY n).obs s := by
  have e : g = s.heap.get? := funext h
  rw [e] <;> rfl
abbrev R : PySem.W.OpenRow := PySem.W.OpenLaw.row row
abbrev hk : PySem.W.Hook := hookY 7
def ob (s : PySem.W.SharedT) : AlY := obsY 7 (HandSHeadRun.getT s)
theorem ob_eq (s : PySem.W.SharedT) : ob s = hk.obs s.abs := obsY_eq (HandSHeadRun.getT_eq s)
def looseA : List Str := ["TownError", "BadPart", "BadLimits", "BadCount", "is_integer", "is_between", "has_kind", "MOST_AREAS", "MOST_NUMBER", "is_count", "is_no_more", "is_below", "lesser", "rank", "is_ahead", "in_order"]
def looseB : List Str := ["greatest_of", "Reach", "MANY", "is_sum", "are_sums", "is_kept", "Allowance", "heaviest", "most_by", "parting_allowance", "_law_pool", "_law_draw", "_law_pick", "_law_reach", "_law_more", "_law_refused", "_law_great_right"]
def loose : List Str := looseA ++ looseB
theorem run (w : World) : HandSHeadRun.RunEq R (PySem.W.view R.prog [38]) hk ob 4000 loose w := by
  intro os
  kernel_rfl
end K79
/-! ## KEnd -/
set_option maxRecDepth 100000
set_option maxHeartbeats 0
namespace K79
open PySem PySem.Spec PyProof.Rows L2
theorem facts {P : Program} {w : World} {K : PySem.W.Frag} {h : Heap} {mg : Str → Option Value} {f : Addr} (X : K.In h) (G : h.Ns mainGlobals mg) (hfa : mg ("law" : Str) = some (.ref f)) (c : SaysY K) :
    ∃ fd : FuncData, (∀ (s : Shared) (v : Value), BindsTo s fd ⟨[v], []⟩ [("_law_script", v)]) ∧ ∀ base : Heap, K.In base → base.Ns mainGlobals mg → FnOk P w K mg base CX0 8 f fd ["_law_script"] (spLaw K) := by
  have T : Tx K mg := ⟨c, h, X, G⟩
  obtain ⟨fd, F⟩ := T.F_law
  have e := hfa.symm.trans T.g_law
  cases e
  have b := FunD.bindsA (ps := ["_law_script"]) F fun _ _ _ _ _ _ us hl => match us, hl with | [_], _ => rfl
  exact ⟨fd, fun s v => b s [v] rfl, fun base _ _ => ok_law T F⟩
end K79
open PySem PySem.W PySem.Calls PyProof.Rows
theorem PySem.Challenge.cw_cutofftills_k79_whole_allowances_part_re_holds : PySem.Challenge.rw_cutofftills_k79_whole_allowances_part_re.Holds := by
  w_on; o_law
  refine HandSHeadRun.head_any (r := OpenLaw.row PySem.Challenge.rw_cutofftills_k79_whole_allowances_part_re) (q := view (OpenLaw.row PySem.Challenge.rw_cutofftills_k79_whole_allowances_part_re).prog [38]) (H := K79.hk) (ob := K79.ob) (M := 4000) (loose := K79.loose) (d := HandSHeadRun.topDef (OpenLaw.row PySem.Challenge.rw_cutofftills_k79_whole_allowances_part_re).prog 38) (kwd := []) K79.ob_eq
    (by kernel_rfl) (fun s => by kernel_rfl) K79.run (by kernel_rfl) (by kernel_rfl) (by kernel_rfl) (by rfl) (by first | assumption | decide +kernel) (by decide +kernel) ⟨rfl, rfl, rfl, rfl, rfl, by decide +kernel⟩ ?hw ?hc
  case hw => w_witness2
  case hc =>
    refine L2.walk_ofE (l := PySem.Challenge.rw_cutofftills_k79_whole_allowances_part_re) (n := 63) (k := 8) (x := "_law_script") (CX := L2.CX0) rfl (by decide) (by kernel_rfl) ⟨rfl, by decide, by decide⟩ ?F (fun _ _ _ _ z => z)
    intro w mg fa h Y G hmg0
    obtain ⟨K, KX, c⟩ := Y
    have hmg : mg ("law" : PySem.Str) = some (.ref fa) := by
      have e : (HandSHeadRun.topDef (OpenLaw.row PySem.Challenge.rw_cutofftills_k79_whole_allowances_part_re).prog 38).name = ("law" : PySem.Str) := by kernel_rfl
      rw [← e]
      exact hmg0
    obtain ⟨fd, hb, hF⟩ := K79.facts (P := (PySem.Challenge.rw_cutofftills_k79_whole_allowances_part_re).prog) (w := w) KX G hmg c
    exact ⟨K, fd, K79.spLaw K, KX, hb, fun H a ns hl _ hS => ⟨a, ns, rfl, hS, fun _ => rfl⟩, hF⟩
