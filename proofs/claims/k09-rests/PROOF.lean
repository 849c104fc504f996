import PyProof.Rows.All
import Wide.All
import OpenK.AllK
import Wide.FinOn
import HandS.ForMost
import HandS.Walk
import KE.GoesEnum
import PyProof.ListStr
import PyProof.StrBlock2
import KE.SortKeyHeap
import HandS.Lambda
import HandS.SortKw
import HandS.StrMore
import HandS.IsInst
import HandS.Wide
import HandS.Style
import HandS.TupAny
import HandS.Zip
import HandS.EndTab
import HandS.DeepEq
import HandS.Text
import HandS.Codes
import KE.KNestM
import PySem.Challenge.RW_struckpieces_k09_whole_rests_known_by_ha
set_option Elab.async false

section
set_option autoImplicit false
set_option linter.all false
namespace K9
/-! texts as lists of codes; the order of sorting: fewer signs first -/
abbrev T := List Nat
def tlt (a b : T) : Bool := if a.length = b.length then decide (a < b) else decide (a.length < b.length)
def tle (a b : T) : Bool := !tlt b a
def ins (x : T) : List T → List T
  | [] => [x]
  | y :: r => if tle x y then x :: y :: r else y :: ins x r
def isort : List T → List T
  | [] => []
  | x :: r => ins x (isort r)
theorem tlt_irr (a : T) : tlt a a = false := by
  unfold tlt
  rw [if_pos rfl]
  exact decide_eq_false (List.lt_irrefl a)
theorem tlt_trans {a b c : T} (h1 : tlt a b = true) (h2 : tlt b c = true) : tlt a c = true := by
  unfold tlt at *
  by_cases e1 : a.length = b.length <;> by_cases e2 : b.length = c.length
  · rw [if_pos e1] at h1
    rw [if_pos e2] at h2
    rw [if_pos (e1.trans e2)]
    exact decide_eq_true (List.lt_trans (of_decide_eq_true h1) (of_decide_eq_true h2))
  · rw [if_neg e2] at h2
    have q := of_decide_eq_true h2
    rw [if_neg (by omega)]
    exact decide_eq_true (by omega)
  · rw [if_neg e1] at h1
    have q := of_decide_eq_true h1
    rw [if_neg (by omega)]
    exact decide_eq_true (by omega)
  · rw [if_neg e1] at h1
    rw [if_neg e2] at h2
    have q := of_decide_eq_true h1
    have q2 := of_decide_eq_true h2
    rw [if_neg (by omega)]
    exact decide_eq_true (by omega)
theorem tlt_tot {a b : T} (h : tlt a b = false) (h2 : tlt b a = false) : a = b := by
  unfold tlt at *
  by_cases e : a.length = b.length
  · rw [if_pos e] at h
    rw [if_pos e.symm] at h2
    have q1 := of_decide_eq_false h
    have q2 := of_decide_eq_false h2
    exact List.le_antisymm (List.not_lt.mp q2) (List.not_lt.mp q1)
  · rw [if_neg e] at h
    rw [if_neg (fun z => e z.symm)] at h2
    have q1 := of_decide_eq_false h
    have q2 := of_decide_eq_false h2
    omega
theorem tlt_asymm {a b : T} (h : tlt a b = true) : tlt b a = false := by
  cases q : tlt b a with
  | false => rfl
  | true =>
    have z := tlt_trans h q
    rw [tlt_irr] at z
    cases z
theorem tle_total (a b : T) : tle a b = true ∨ tle b a = true := by
  unfold tle
  cases h : tlt b a with
  | false => exact .inl rfl
  | true =>
    rw [tlt_asymm h]
    exact .inr rfl
theorem tle_cases {a b : T} (h : tle a b = true) : a = b ∨ tlt a b = true := by
  unfold tle at h
  have h1 : tlt b a = false := by simpa using h
  cases h2 : tlt a b with
  | false => exact .inl (tlt_tot h2 h1)
  | true => exact .inr rfl
theorem tle_of_lt {a b : T} (h : tlt a b = true) : tle a b = true := by
  unfold tle
  rw [tlt_asymm h]
  rfl
theorem tle_refl (a : T) : tle a a = true := by
  unfold tle
  rw [tlt_irr]
  rfl
theorem tle_trans {a b c : T} (h1 : tle a b = true) (h2 : tle b c = true) : tle a c = true := by
  rcases tle_cases h1 with rfl | q1
  · exact h2
  · rcases tle_cases h2 with rfl | q2
    · exact h1
    · exact tle_of_lt (tlt_trans q1 q2)
theorem mem_ins (x y : T) : ∀ l : List T, y ∈ ins x l ↔ y = x ∨ y ∈ l
  | [] => by simp [ins]
  | z :: r => by
    unfold ins
    split
    · simp
    · have q := mem_ins x y r
      simp only [List.mem_cons, q]
      constructor
      · rintro (h | h | h)
        · exact .inr (.inl h)
        · exact .inl h
        · exact .inr (.inr h)
      · rintro (h | h | h)
        · exact .inr (.inl h)
        · exact .inl h
        · exact .inr (.inr h)
theorem mem_isort (y : T) : ∀ l : List T, y ∈ isort l ↔ y ∈ l
  | [] => by simp [isort]
  | x :: r => by
    show y ∈ ins x (isort r) ↔ _
    rw [mem_ins, mem_isort y r, List.mem_cons]
/-- in order, no two alike -/
abbrev Up (l : List T) : Prop := l.Pairwise fun a b => tlt a b = true
theorem up_ins {x : T} : ∀ {l : List T}, Up l → x ∉ l → Up (ins x l)
  | [], _, _ => by simp [ins, Up]
  | y :: r, h, n => by
    obtain ⟨h1, h2⟩ := List.pairwise_cons.mp h
    have nxy : x ≠ y := fun z => n (by simp [z])
    unfold ins
    split
    · rename_i q
      have xy : tlt x y = true := by
        cases w : tlt x y with
        | true => rfl
        | false =>
          unfold tle at q
          have q2 : tlt y x = false := by simpa using q
          exact absurd (tlt_tot w q2) nxy
      refine List.pairwise_cons.mpr ⟨fun b hb => ?_, h⟩
      rcases List.mem_cons.mp hb with e | e
      · rw [e]
        exact xy
      · exact tlt_trans xy (h1 b e)
    · rename_i q
      have yx : tlt y x = true := by
        unfold tle at q
        simpa using q
      refine List.pairwise_cons.mpr ⟨fun b hb => ?_, up_ins h2 fun z => n (List.mem_cons_of_mem _ z)⟩
      rcases (mem_ins x b r).mp hb with e | e
      · rw [e]
        exact yx
      · exact h1 b e
theorem up_isort : ∀ {l : List T}, l.Nodup → Up (isort l)
  | [], _ => List.Pairwise.nil
  | x :: r, h => by
    obtain ⟨h1, h2⟩ := List.nodup_cons.mp h
    exact up_ins (up_isort h2) fun z => h1 ((mem_isort x r).mp z)
theorem up_one : ∀ {l m : List T}, Up l → Up m → (∀ x, x ∈ l ↔ x ∈ m) → l = m
  | [], [], _, _, _ => rfl
  | [], y :: m, _, _, h => absurd ((h y).mpr (List.mem_cons_self ..)) (by simp)
  | x :: l, [], _, _, h => absurd ((h x).mp (List.mem_cons_self ..)) (by simp)
  | x :: l, y :: m, hl, hm, h => by
    obtain ⟨l1, l2⟩ := List.pairwise_cons.mp hl
    obtain ⟨m1, m2⟩ := List.pairwise_cons.mp hm
    have e : x = y := by
      rcases List.mem_cons.mp ((h x).mp (List.mem_cons_self ..)) with q | q
      · exact q
      · rcases List.mem_cons.mp ((h y).mpr (List.mem_cons_self ..)) with q2 | q2
        · exact q2.symm
        · have z := tlt_asymm (m1 x q)
          rw [l1 y q2] at z
          cases z
    subst e
    have nl : x ∉ l := fun z => by
      have q := l1 x z
      rw [tlt_irr] at q
      cases q
    have nm : x ∉ m := fun z => by
      have q := m1 x z
      rw [tlt_irr] at q
      cases q
    rw [up_one l2 m2 fun z => ?_]
    constructor
    · intro hz
      rcases List.mem_cons.mp ((h z).mp (List.mem_cons_of_mem _ hz)) with q | q
      · exact absurd (q ▸ hz) nl
      · exact q
    · intro hz
      rcases List.mem_cons.mp ((h z).mpr (List.mem_cons_of_mem _ hz)) with q | q
      · exact absurd (q ▸ hz) nm
      · exact q
theorem isort_of {l m : List T} (hl : l.Nodup) (hm : Up m) (h : ∀ x, x ∈ m ↔ x ∈ l) : m = isort l :=
  up_one hm (up_isort hl) fun x => (h x).trans (mem_isort x l).symm
theorem isort_congr {l m : List T} (hl : l.Nodup) (hm : m.Nodup) (h : ∀ x, x ∈ l ↔ x ∈ m) : isort l = isort m :=
  up_one (up_isort hl) (up_isort hm) fun x => (mem_isort x l).trans ((h x).trans (mem_isort x m).symm)
theorem nodup_ins {x : T} {l : List T} (h : l.Nodup) (n : x ∉ l) : (ins x l).Nodup := by
  induction l with
  | nil => simp [ins]
  | cons y r ih =>
    obtain ⟨h1, h2⟩ := List.nodup_cons.mp h
    unfold ins
    split
    · exact List.nodup_cons.mpr ⟨n, h⟩
    · refine List.nodup_cons.mpr ⟨fun z => ?_, ih h2 fun z => n (List.mem_cons_of_mem _ z)⟩
      rcases (mem_ins x y r).mp z with q | q
      · exact n (by simp [q])
      · exact h1 q
theorem nodup_isort {l : List T} (h : l.Nodup) : (isort l).Nodup := by
  induction l with
  | nil => simp [isort]
  | cons x r ih =>
    obtain ⟨h1, h2⟩ := List.nodup_cons.mp h
    exact nodup_ins (ih h2) fun z => h1 ((mem_isort x r).mp z)

/-! strikes -/
def hits (ps : List T) (log : T) (i : Nat) : List (Nat × Nat) :=
  (ps.zipIdx.filter fun q => q.1.isPrefixOf (log.drop i)).map fun q => (i, q.2)
def strikes (ps : List T) (log : T) : List (Nat × Nat) := (List.range log.length).flatMap (hits ps log)
def cut (ps : List T) (log : T) (s : Nat × Nat) : T := log.take s.1 ++ log.drop (s.1 + (ps.getD s.2 []).length)
def kids (ps : List T) (log : T) : List T := (strikes ps log).map (cut ps log)
def stuck (ps : List T) (log : T) : Bool := (strikes ps log).length == 0
theorem mem_hits {ps : List T} {log : T} {i : Nat} {s : Nat × Nat} : s ∈ hits ps log i ↔ s.1 = i ∧ ∃ p, ps[s.2]? = some p ∧ p.isPrefixOf (log.drop i) = true := by
  unfold hits
  rw [List.mem_map]
  constructor
  · rintro ⟨q, hq, rfl⟩
    obtain ⟨h1, h2⟩ := List.mem_filter.mp hq
    exact ⟨rfl, q.1, List.mem_zipIdx_iff_getElem?.mp h1, h2⟩
  · rintro ⟨e, p, h1, h2⟩
    refine ⟨(p, s.2), List.mem_filter.mpr ⟨List.mem_zipIdx_iff_getElem?.mpr h1, h2⟩, ?_⟩
    rw [← e]
theorem mem_strikes {ps : List T} {log : T} {s : Nat × Nat} : s ∈ strikes ps log ↔ s.1 < log.length ∧ ∃ p, ps[s.2]? = some p ∧ p.isPrefixOf (log.drop s.1) = true := by
  unfold strikes
  rw [List.mem_flatMap]
  constructor
  · rintro ⟨i, hi, hs⟩
    obtain ⟨e, h⟩ := mem_hits.mp hs
    subst e
    exact ⟨List.mem_range.mp hi, h⟩
  · rintro ⟨h1, h2⟩
    exact ⟨s.1, List.mem_range.mpr h1, mem_hits.mpr ⟨rfl, h2⟩⟩
theorem cut_sub (ps : List T) (log : T) (s : Nat × Nat) : (cut ps log s).Sublist log := by
  unfold cut
  have h : (log.take s.1 ++ log.drop (s.1 + (ps.getD s.2 []).length)).Sublist (log.take s.1 ++ log.drop s.1) := by
    refine List.Sublist.append (List.Sublist.refl _) ?_
    rw [← List.drop_drop]
    exact List.drop_sublist _ _
  rwa [List.take_append_drop] at h
theorem kid_sub {ps : List T} {log x : T} (h : x ∈ kids ps log) : x.Sublist log := by
  obtain ⟨s, _, rfl⟩ := List.mem_map.mp h
  exact cut_sub ps log s
/-- what a log comes to -/
inductive Reach (ps : List T) (log : T) : T → Prop
  | self : Reach ps log log
  | step {x y : T} : Reach ps log x → y ∈ kids ps x → Reach ps log y
theorem Reach.sub {ps : List T} {log x : T} (h : Reach ps log x) : x.Sublist log := by
  induction h with
  | self => exact List.Sublist.refl _
  | step _ hk ih => exact (kid_sub hk).trans ih
/-- f holds just what the log comes to, each once -/
def AllLeft (ps : List T) (log : T) (f : List T) : Prop := f.Nodup ∧ ∀ x, x ∈ f ↔ Reach ps log x
def Closed (ps : List T) (f : List T) : Prop := ∀ x ∈ f, ∀ y ∈ kids ps x, y ∈ f
theorem AllLeft.of {ps : List T} {log : T} {f : List T} (hn : f.Nodup) (h0 : log ∈ f) (hc : Closed ps f) (hr : ∀ x ∈ f, Reach ps log x) : AllLeft ps log f :=
  ⟨hn, fun x => ⟨hr x, fun h => by
    induction h with
    | self => exact h0
    | step _ hk ih => exact hc _ ih _ hk⟩⟩

/-! how many texts there can be -/
def subs : T → List T
  | [] => [[]]
  | a :: r => subs r ++ (subs r).map (a :: ·)
theorem subs_len : ∀ l : T, (subs l).length = 2 ^ l.length
  | [] => rfl
  | a :: r => by
    show (subs r ++ (subs r).map (a :: ·)).length = 2 ^ (r.length + 1)
    rw [List.length_append, List.length_map, subs_len r, Nat.pow_succ]
    omega
theorem mem_subs {x : T} : ∀ {l : T}, x.Sublist l → x ∈ subs l
  | [], h => by
    rw [List.sublist_nil.mp h]
    simp [subs]
  | a :: r, h => by
    show x ∈ subs r ++ (subs r).map (a :: ·)
    rcases List.sublist_cons_iff.mp h with q | ⟨y, rfl, q⟩
    · exact List.mem_append_left _ (mem_subs q)
    · exact List.mem_append_right _ (List.mem_map.mpr ⟨y, mem_subs q, rfl⟩)
theorem nodup_le : ∀ {f U : List T}, f.Nodup → (∀ x ∈ f, x ∈ U) → f.length ≤ U.length
  | [], _, _, _ => Nat.zero_le _
  | x :: f, U, hn, h => by
    obtain ⟨h1, h2⟩ := List.nodup_cons.mp hn
    have hx : x ∈ U := h x (List.mem_cons_self ..)
    have q := nodup_le (U := U.erase x) h2 fun y hy => (List.mem_erase_of_ne (show y ≠ x from fun z => h1 (by rw [← z]; exact hy))).mpr (h y (List.mem_cons_of_mem _ hy))
    have e := List.length_erase_of_mem hx
    have p : 0 < U.length := List.length_pos_of_mem hx
    rw [List.length_cons]
    omega
theorem reach_le {ps : List T} {log : T} {f : List T} (hn : f.Nodup) (hr : ∀ x ∈ f, Reach ps log x) : f.length ≤ 2 ^ log.length := by
  rw [← subs_len]
  exact nodup_le hn fun x hx => mem_subs (hr x hx).sub

/-! meetings -/
def meet (one other : T) (p : Nat) : Option T :=
  if ((one.drop p).take other.length).isPrefixOf other then some (one ++ other.drop ((one.drop p).take other.length).length) else none
def put (f : List T) (x : T) : List T := if x ∈ f then f else f ++ [x]
def stepP (i j : Nat) (one other : T) (f : List T) (p : Nat) : List T := match meet one other p with
  | some l => if i = j ∧ p = 0 then f else put f l
  | none => f
def stepO (i : Nat) (one : T) (f : List T) (q : T × Nat) : List T := (List.range one.length).foldl (stepP i q.2 one q.1) f
def stepI (ps : List T) (f : List T) (q : T × Nat) : List T := ps.zipIdx.foldl (stepO q.2 q.1) f
def meetF (ps : List T) : List T := ps.zipIdx.foldl (stepI ps) []
def meetings (ps : List T) : List T := isort (meetF ps)
theorem nodup_put {f : List T} {x : T} (h : f.Nodup) : (put f x).Nodup := by
  unfold put
  split
  · exact h
  · rename_i n
    refine List.nodup_append.mpr ⟨h, by simp, fun a ha b hb => ?_⟩
    intro z
    rw [z, List.mem_singleton.mp hb] at ha
    exact n ha
/-- what each step keeps, the whole keeps -/
theorem fold_keeps {α β : Type} {P : α → Prop} (g : α → β → α) : ∀ (l : List β) (a : α), P a → (∀ a, ∀ b ∈ l, P a → P (g a b)) → P (l.foldl g a)
  | [], a, h, _ => h
  | b :: r, a, h, k => fold_keeps g r (g a b) (k a b (List.mem_cons_self ..) h) fun a' b' hb => k a' b' (List.mem_cons_of_mem _ hb)
/-- every text that is put keeps P -/
theorem meetF_keeps {ps : List T} {P : List T → Prop} (h0 : P []) (hp : ∀ f one other p l, one ∈ ps → other ∈ ps → p < one.length → meet one other p = some l → P f → P (put f l)) : P (meetF ps) := by
  refine fold_keeps _ _ _ h0 fun f q hq hf => fold_keeps _ _ _ hf fun f2 q2 hq2 hf2 => fold_keeps _ _ _ hf2 fun f3 p hp3 hf3 => ?_
  show P (stepP q.2 q2.2 q.1 q2.1 f3 p)
  unfold stepP
  split
  · rename_i l hl
    split
    · exact hf3
    · exact hp f3 q.1 q2.1 p l (List.mem_of_getElem? (List.mem_zipIdx_iff_getElem?.mp hq)) (List.mem_of_getElem? (List.mem_zipIdx_iff_getElem?.mp hq2)) (List.mem_range.mp hp3) hl hf3
  · exact hf3
theorem nodup_meetF (ps : List T) : (meetF ps).Nodup := meetF_keeps List.nodup_nil fun _ _ _ _ _ _ _ _ _ h => nodup_put h
theorem mem_put {f : List T} {x y : T} : y ∈ put f x ↔ y ∈ f ∨ y = x := by
  unfold put
  split
  · rename_i h
    exact ⟨.inl, fun z => z.elim id fun e => e ▸ h⟩
  · simp
/-- each meeting: of two pieces -/
theorem mem_meetF {ps : List T} {l : T} (h : l ∈ meetF ps) : ∃ one other p, one ∈ ps ∧ other ∈ ps ∧ p < one.length ∧ meet one other p = some l := by
  refine meetF_keeps (ps := ps) (P := fun f => ∀ l ∈ f, ∃ one other p, one ∈ ps ∧ other ∈ ps ∧ p < one.length ∧ meet one other p = some l) (fun l h => by cases h) (fun f one other p l h1 h2 h3 h4 hf l' hl' => ?_) l h
  rcases mem_put.mp hl' with q | q
  · exact hf l' q
  · subst q
    exact ⟨one, other, p, h1, h2, h3, h4⟩
theorem meet_eq {one other l : T} {p : Nat} (h : meet one other p = some l) : l = one ++ other.drop ((one.drop p).take other.length).length := by
  unfold meet at h
  split at h
  · exact (Option.some.inj h).symm
  · cases h
theorem meet_len {one other l : T} {p : Nat} (h : meet one other p = some l) : l.length ≤ one.length + other.length := by
  rw [meet_eq h, List.length_append, List.length_drop]
  omega

/-! one rest -/
def OneRest (ps : List T) : List T → Option (T × T × T) → Prop
  | [], r => r = none
  | log :: rest, r => ∃ f, AllLeft ps log f ∧ match isort (f.filter (stuck ps)) with
    | a :: b :: _ => r = some (log, a, b)
    | _ => OneRest ps rest r

/-! reckoned -/
def addAll : List T → List T × List T → List T × List T
  | [], s => s
  | l :: r, s => if l ∈ s.1 then addAll r s else addAll r (s.1 ++ [l], l :: s.2)
def work (ps : List T) : Nat → List T × List T → List T
  | 0, s => s.1
  | n + 1, s => match s.2 with
    | [] => s.1
    | here :: w => work ps n (addAll (kids ps here) (s.1, w))
def closedB (ps : List T) (f : List T) : Bool := f.all fun x => (kids ps x).all fun y => decide (y ∈ f)
def restB (ps : List T) : List T → Option (Option (T × T × T))
  | [] => some none
  | log :: rest =>
    let f := work ps 100 ([log], [log])
    if closedB ps f then match isort (f.filter (stuck ps)) with
      | a :: b :: _ => some (some (log, a, b))
      | _ => restB ps rest
    else none
def SInv (ps : List T) (log : T) (s : List T × List T) : Prop := s.1.Nodup ∧ log ∈ s.1 ∧ (∀ x ∈ s.1, Reach ps log x) ∧ ∀ x ∈ s.2, Reach ps log x
theorem addAll_inv {ps : List T} {log : T} : ∀ {l : List T} {s : List T × List T}, (∀ x ∈ l, Reach ps log x) → SInv ps log s → SInv ps log (addAll l s)
  | [], _, _, h => h
  | x :: r, s, hl, h => by
    obtain ⟨h1, h2, h3, h4⟩ := id h
    unfold addAll
    have hr : ∀ y ∈ r, Reach ps log y := fun y hy => hl y (List.mem_cons_of_mem _ hy)
    split
    · exact addAll_inv hr h
    · rename_i n
      refine addAll_inv hr ⟨?_, List.mem_append_left _ h2, fun y hy => ?_, fun y hy => ?_⟩
      · have q := nodup_put (x := x) h1
        unfold put at q
        rwa [if_neg n] at q
      · rcases List.mem_append.mp hy with q | q
        · exact h3 y q
        · rw [List.mem_singleton.mp q]
          exact hl x (List.mem_cons_self ..)
      · rcases List.mem_cons.mp hy with q | q
        · rw [q]
          exact hl x (List.mem_cons_self ..)
        · exact h4 y q
theorem work_inv {ps : List T} {log : T} : ∀ {n : Nat} {s : List T × List T}, SInv ps log s → (work ps n s).Nodup ∧ log ∈ work ps n s ∧ ∀ x ∈ work ps n s, Reach ps log x
  | 0, _, h => ⟨h.1, h.2.1, h.2.2.1⟩
  | n + 1, s, h => by
    unfold work
    split
    · exact ⟨h.1, h.2.1, h.2.2.1⟩
    · rename_i here w e
      obtain ⟨h1, h2, h3, h4⟩ := h
      rw [e] at h4
      exact work_inv (addAll_inv (fun x hx => .step (h4 here (List.mem_cons_self ..)) hx) ⟨h1, h2, h3, fun x hx => h4 x (List.mem_cons_of_mem _ hx)⟩)
theorem work_all {ps : List T} {log : T} (h : closedB ps (work ps 100 ([log], [log])) = true) : AllLeft ps log (work ps 100 ([log], [log])) := by
  obtain ⟨h1, h2, h3⟩ := work_inv (ps := ps) (log := log) (n := 100) (s := ([log], [log])) ⟨by simp, by simp, fun x hx => by rw [List.mem_singleton.mp hx]; exact .self, fun x hx => by rw [List.mem_singleton.mp hx]; exact .self⟩
  refine AllLeft.of h1 h2 (fun x hx y hy => ?_) h3
  unfold closedB at h
  exact of_decide_eq_true (List.all_eq_true.mp (List.all_eq_true.mp h x hx) y hy)
theorem AllLeft.sorted {ps : List T} {log : T} {f g : List T} (hf : AllLeft ps log f) (hg : AllLeft ps log g) : isort (f.filter (stuck ps)) = isort (g.filter (stuck ps)) :=
  isort_congr (hf.1.filter _) (hg.1.filter _) fun x => by
    rw [List.mem_filter, List.mem_filter, hf.2, hg.2]
theorem restB_is {ps : List T} : ∀ {logs : List T} {r : Option (T × T × T)} {r' : Option (T × T × T)}, restB ps logs = some r → OneRest ps logs r' → r' = r
  | [], r, r', h, o => by
    have e : none = r := Option.some.inj h
    rw [← e]
    exact o
  | log :: rest, r, r', h, o => by
    obtain ⟨f, hf, o⟩ := o
    unfold restB at h
    dsimp only at h
    split at h
    · rename_i hc
      rw [hf.sorted (work_all hc)] at o
      split at h
      · rename_i a b t e
        rw [e] at o
        rw [← Option.some.inj h]
        exact o
      · rename_i n
        split at o
        · rename_i a b t e
          exact absurd e (n a b t)
        · exact restB_is h o
    · cases h
theorem isort_len : ∀ l : List T, (isort l).length = l.length
  | [] => rfl
  | x :: r => by
    have q : ∀ l : List T, (ins x l).length = l.length + 1 := fun l => by
      induction l with
      | nil => rfl
      | cons y s ih =>
        unfold ins
        split
        · rfl
        · rw [List.length_cons, ih, List.length_cons]
    show (ins x (isort r)).length = _
    rw [q, isort_len r, List.length_cons]
/-- a sign has the piece of it alone: then nothing but the empty text is stuck -/
theorem oneRest_all {ps : List T} (hps : ∀ p ∈ ps, ∀ c ∈ p, [c] ∈ ps) : ∀ {logs : List T} {r : Option (T × T × T)}, (∀ l ∈ logs, ∀ c ∈ l, [c] ∈ ps) → OneRest ps logs r → r = none
  | [], _, _, o => o
  | log :: rest, r, hl, o => by
    obtain ⟨f, hf, o⟩ := o
    have e : ∀ x ∈ f.filter (stuck ps), x = [] := fun x hx => by
      obtain ⟨h1, h2⟩ := List.mem_filter.mp hx
      have hs := ((hf.2 x).mp h1).sub
      cases x with
      | nil => rfl
      | cons c t =>
        have hc : [c] ∈ ps := hl log (List.mem_cons_self ..) c (hs.subset (List.mem_cons_self ..))
        obtain ⟨j, hj⟩ := List.getElem?_of_mem hc
        have hm : (0, j) ∈ strikes ps (c :: t) := mem_strikes.mpr ⟨Nat.zero_lt_succ _, [c], hj, by simp⟩
        unfold stuck at h2
        have hlen := List.length_pos_of_mem hm
        have h2' : (strikes ps (c :: t)).length = 0 := by simpa using h2
        omega
    have n1 : (f.filter (stuck ps)).length ≤ 1 := by
      have q := nodup_le (U := [[]]) (hf.1.filter (stuck ps)) fun x hx => by
        rw [e x hx]
        simp
      exact q
    have n2 := isort_len (f.filter (stuck ps))
    split at o
    · rename_i a b t q
      rw [q] at n2
      simp only [List.length_cons] at n2
      omega
    · exact oneRest_all hps (fun l hl' => hl l (List.mem_cons_of_mem _ hl')) o
end K9
end

section
set_option autoImplicit false
namespace K9
def rep (n c : Nat) : T := List.replicate n c
def dueP (s g c : Nat) : Option (T × T × T) := if g % s = 0 then none else some (rep g c, [], rep (g % s) c)
def powB (s d c : Nat) : Bool :=
  decide (restB [rep s c, rep (s + 1 + d) c] (meetings [rep s c, rep (s + 1 + d) c]) = some (dueP s (s + 1 + d) c)) &&
  decide (restB [rep (s + 1 + d) c, rep s c] (meetings [rep (s + 1 + d) c, rep s c]) = some (dueP s (s + 1 + d) c)) &&
  decide (restB [rep s c] (meetings [rep s c]) = some none) &&
  decide (meetings [rep s c] = ((List.range (s - 1)).map fun i => rep (s + 1 + i) c))
def powS (s c : Nat) : Bool := (List.range (8 - (s + 1))).all fun d => powB (s + 1) d c
theorem pow_1a : powS 1 97 = true := by decide +kernel
theorem pow_2a : powS 2 97 = true := by decide +kernel
theorem pow_3a : powS 3 97 = true := by decide +kernel
theorem pow_4a : powS 4 97 = true := by decide +kernel
theorem pow_5a : powS 5 97 = true := by decide +kernel
theorem pow_1d : powS 1 100 = true := by decide +kernel
theorem pow_2d : powS 2 100 = true := by decide +kernel
theorem pow_3d : powS 3 100 = true := by decide +kernel
theorem pow_4d : powS 4 100 = true := by decide +kernel
theorem pow_5d : powS 5 100 = true := by decide +kernel
theorem pow_1h : powS 1 104 = true := by decide +kernel
theorem pow_2h : powS 2 104 = true := by decide +kernel
theorem pow_3h : powS 3 104 = true := by decide +kernel
theorem pow_4h : powS 4 104 = true := by decide +kernel
theorem pow_5h : powS 5 104 = true := by decide +kernel
theorem pow_all : (([1, 2, 3, 4, 5] : List Nat).all fun s => ([97, 100, 104] : List Nat).all fun c => powS s c) = true := by
  simp only [List.all_cons, List.all_nil, pow_1a, pow_2a, pow_3a, pow_4a, pow_5a, pow_1d, pow_2d, pow_3d, pow_4d, pow_5d, pow_1h, pow_2h, pow_3h, pow_4h, pow_5h, Bool.and_self]
theorem mem_rep {n c x : Nat} (h : x ∈ rep n c) : x = c := List.eq_of_mem_replicate h
theorem meet_all {ps : List T} {c : Nat} (h : ∀ p ∈ ps, ∀ x ∈ p, x = c) : ∀ l ∈ meetings ps, ∀ x ∈ l, x = c := fun l hl x hx => by
  obtain ⟨a, b, q, ha, hb, _, hm⟩ := mem_meetF ((mem_isort l _).mp hl)
  rw [meet_eq hm] at hx
  rcases List.mem_append.mp hx with hx | hx
  · exact h a ha x hx
  · exact h b hb x (List.mem_of_mem_drop hx)
theorem one_all {ps : List T} {c : Nat} (h1 : [c] ∈ ps) (h : ∀ p ∈ ps, ∀ x ∈ p, x = c) {r : Option (T × T × T)} (o : OneRest ps (meetings ps) r) : r = none :=
  oneRest_all (fun p hp x hx => by rw [h p hp x hx]; exact h1) (fun l hl x hx => by rw [meet_all h l hl x hx]; exact h1) o
theorem meet_one (c : Nat) : meetings [rep 1 c] = [] := by
  have e : meetF [rep 1 c] = [] := by
    show stepP 0 0 (rep 1 c) (rep 1 c) [] 0 = []
    unfold stepP
    split
    · rfl
    · rfl
  unfold meetings
  rw [e]
  rfl
theorem pow_law {s g c : Nat} (h1 : 1 ≤ s) (h2 : s ≤ 6) (hg : s < g) (h3 : g ≤ 8) (hc : c ∈ [97, 100, 104]) :
    (∀ r, OneRest [rep s c, rep g c] (meetings [rep s c, rep g c]) r → r = dueP s g c) ∧ (∀ r, OneRest [rep g c, rep s c] (meetings [rep g c, rep s c]) r → r = dueP s g c) ∧
    (∀ r, OneRest [rep s c] (meetings [rep s c]) r → r = none) ∧ meetings [rep s c] = ((List.range (s - 1)).map fun i => rep (s + 1 + i) c) := by
  by_cases hs : s = 1
  · subst hs
    have e : dueP 1 g c = none := by
      unfold dueP
      rw [if_pos (Nat.mod_one g)]
    rw [e]
    have al : ∀ p ∈ [rep 1 c, rep g c], ∀ x ∈ p, x = c := fun p hp x hx => by
      rcases List.mem_cons.mp hp with rfl | hp
      · exact mem_rep hx
      · cases List.mem_singleton.mp hp
        exact mem_rep hx
    have al2 : ∀ p ∈ [rep g c, rep 1 c], ∀ x ∈ p, x = c := fun p hp x hx => by
      rcases List.mem_cons.mp hp with rfl | hp
      · exact mem_rep hx
      · cases List.mem_singleton.mp hp
        exact mem_rep hx
    have al3 : ∀ p ∈ [rep 1 c], ∀ x ∈ p, x = c := fun p hp x hx => by
      cases List.mem_singleton.mp hp
      exact mem_rep hx
    exact ⟨fun r o => one_all (List.mem_cons_self ..) al o, fun r o => one_all (List.mem_cons_of_mem _ (List.mem_cons_self ..)) al2 o, fun r o => one_all (List.mem_cons_self ..) al3 o, meet_one c⟩
  · have hm : s - 1 ∈ [1, 2, 3, 4, 5] := by
      simp
      omega
    have a := List.all_eq_true.mp pow_all (s - 1) hm
    have b := List.all_eq_true.mp a c hc
    have pf := List.all_eq_true.mp b (g - s - 1) (List.mem_range.mpr (by omega))
    rw [show s - 1 + 1 = s by omega] at pf
    unfold powB at pf
    rw [show s + 1 + (g - s - 1) = g by omega, Bool.and_eq_true, Bool.and_eq_true, Bool.and_eq_true] at pf
    obtain ⟨⟨⟨pf1, pf2⟩, pf3⟩, pf4⟩ := pf
    exact ⟨fun r o => restB_is (of_decide_eq_true pf1) o, fun r o => restB_is (of_decide_eq_true pf2) o, fun r o => restB_is (of_decide_eq_true pf3) o, of_decide_eq_true pf4⟩
def rndPiece (e i a b : Nat) : T := rep e a ++ rep i b ++ rep e a
def rndB (e i a b : Nat) : Bool :=
  decide (restB [rndPiece e i a b] (meetings [rndPiece e i a b]) = some (some (rndPiece e i a b ++ rep i b ++ rep e a, rep e a ++ rep i b, rep i b ++ rep e a))) &&
  decide (restB [[a, b], [b, a]] (meetings [[a, b], [b, a]]) = some none) && decide (restB [[a, b]] (meetings [[a, b]]) = some none) && decide (meetings [[b, a]] = [])
def rndS (e i : Nat) : Bool := ([(97, 98), (99, 104), (98, 101)] : List (Nat × Nat)).all fun q => rndB e i q.1 q.2
theorem rnd_11 : rndS 1 1 = true := by decide +kernel
theorem rnd_12 : rndS 1 2 = true := by decide +kernel
theorem rnd_21 : rndS 2 1 = true := by decide +kernel
theorem rnd_22 : rndS 2 2 = true := by decide +kernel
theorem rnd_31 : rndS 3 1 = true := by decide +kernel
theorem rnd_32 : rndS 3 2 = true := by decide +kernel
theorem rnd_all : (([1, 2, 3] : List Nat).all fun e => ([1, 2] : List Nat).all fun i => rndS e i) = true := by
  simp only [List.all_cons, List.all_nil, rnd_11, rnd_12, rnd_21, rnd_22, rnd_31, rnd_32, Bool.and_self]
end K9
end

section
set_option autoImplicit false
set_option linter.all false
/-! two pieces that overlap in the middle: another alphabet, the same story -/
namespace K9
section
variable {σ : Nat → Nat} (hσ : ∀ a b, σ a = σ b → a = b)
include hσ
theorem map_inj : ∀ {a b : T}, a.map σ = b.map σ → a = b
  | [], [], _ => rfl
  | [], _ :: _, h => by simp at h
  | _ :: _, [], h => by simp at h
  | x :: a, y :: b, h => by
    rw [List.map_cons, List.map_cons] at h
    injection h with h1 h2
    rw [hσ x y h1, map_inj h2]
theorem pre_map : ∀ p l : T, (p.map σ).isPrefixOf (l.map σ) = p.isPrefixOf l
  | [], l => by simp
  | _ :: _, [] => by simp
  | x :: p, y :: l => by
    rw [List.map_cons, List.map_cons, List.isPrefixOf_cons₂, List.isPrefixOf_cons₂, pre_map p l]
    have e : (σ x == σ y) = (x == y) := by
      by_cases e : x = y
      · rw [beq_iff_eq.mpr e, beq_iff_eq.mpr (congrArg σ e)]
      · rw [beq_eq_false_iff_ne.mpr e, beq_eq_false_iff_ne.mpr fun z => e (hσ x y z)]
    rw [e]
omit hσ in
theorem zip_map (ps : List T) : (ps.map (List.map σ)).zipIdx = ps.zipIdx.map fun q => (q.1.map σ, q.2) := by
  rw [List.zipIdx_map]
  rfl
theorem hits_map (ps : List T) (l : T) (i : Nat) : hits (ps.map (List.map σ)) (l.map σ) i = hits ps l i := by
  unfold hits
  rw [zip_map, List.filter_map, List.map_map]
  have e : ((fun q : T × Nat => q.1.isPrefixOf ((l.map σ).drop i)) ∘ fun q : T × Nat => (q.1.map σ, q.2)) = fun q : T × Nat => q.1.isPrefixOf (l.drop i) := by
    funext q
    show (q.1.map σ).isPrefixOf ((l.map σ).drop i) = _
    rw [← List.map_drop, pre_map hσ]
  rw [e]
  rfl
theorem strikes_map (ps : List T) (l : T) : strikes (ps.map (List.map σ)) (l.map σ) = strikes ps l := by
  unfold strikes
  rw [List.length_map]
  have e : hits (ps.map (List.map σ)) (l.map σ) = hits ps l := funext fun i => hits_map hσ ps l i
  rw [e]
omit hσ in
theorem cut_map (ps : List T) (l : T) (s : Nat × Nat) : cut (ps.map (List.map σ)) (l.map σ) s = (cut ps l s).map σ := by
  unfold cut
  have e : ((ps.map (List.map σ)).getD s.2 []).length = (ps.getD s.2 []).length := by
    rw [List.getD_eq_getElem?_getD, List.getD_eq_getElem?_getD, List.getElem?_map]
    cases ps[s.2]? with
    | none => rfl
    | some p => simp
  rw [e, List.map_append, List.map_take, List.map_drop]
theorem kids_map (ps : List T) (l : T) : kids (ps.map (List.map σ)) (l.map σ) = (kids ps l).map (List.map σ) := by
  unfold kids
  rw [strikes_map hσ, List.map_map]
  exact List.map_congr_left fun s _ => cut_map ps l s
theorem stuck_map (ps : List T) (l : T) : stuck (ps.map (List.map σ)) (l.map σ) = stuck ps l := by
  unfold stuck
  rw [strikes_map hσ]
theorem reach_map {ps : List T} {l x : T} (h : Reach ps l x) : Reach (ps.map (List.map σ)) (l.map σ) (x.map σ) := by
  induction h with
  | self => exact .self
  | step _ hk ih =>
    refine .step ih ?_
    rw [kids_map hσ]
    exact List.mem_map.mpr ⟨_, hk, rfl⟩
theorem nodup_map' : ∀ {f : List T}, f.Nodup → (f.map (List.map σ)).Nodup
  | [], _ => List.nodup_nil
  | x :: f, h => by
    obtain ⟨h1, h2⟩ := List.nodup_cons.mp h
    refine List.nodup_cons.mpr ⟨fun hm => ?_, nodup_map' h2⟩
    obtain ⟨y, hy, e⟩ := List.mem_map.mp hm
    rw [map_inj hσ e] at hy
    exact h1 hy
theorem all_map {ps : List T} {l : T} {f : List T} (h : AllLeft ps l f) : AllLeft (ps.map (List.map σ)) (l.map σ) (f.map (List.map σ)) := by
  refine AllLeft.of (nodup_map' hσ h.1) (List.mem_map.mpr ⟨l, (h.2 l).mpr .self, rfl⟩) (fun x hx y hy => ?_) fun x hx => ?_
  · obtain ⟨x0, hx0, rfl⟩ := List.mem_map.mp hx
    rw [kids_map hσ] at hy
    obtain ⟨y0, hy0, rfl⟩ := List.mem_map.mp hy
    exact List.mem_map.mpr ⟨y0, (h.2 y0).mpr (.step ((h.2 x0).mp hx0) hy0), rfl⟩
  · obtain ⟨x0, hx0, rfl⟩ := List.mem_map.mp hx
    exact reach_map hσ ((h.2 x0).mp hx0)
theorem stuck_filter (ps : List T) (f : List T) : (f.map (List.map σ)).filter (stuck (ps.map (List.map σ))) = (f.filter (stuck ps)).map (List.map σ) := by
  rw [List.filter_map]
  have e : (stuck (ps.map (List.map σ))) ∘ (List.map σ) = stuck ps := funext fun l => stuck_map hσ ps l
  rw [e]
theorem meet_map (one other : T) (p : Nat) : meet (one.map σ) (other.map σ) p = (meet one other p).map (List.map σ) := by
  unfold meet
  rw [← List.map_drop, List.length_map, ← List.map_take, pre_map hσ, List.length_map]
  cases ((one.drop p).take other.length).isPrefixOf other with
  | false => rfl
  | true =>
    rw [if_pos rfl, if_pos rfl, ← List.map_drop, ← List.map_append]
    rfl
theorem put_map (f : List T) (x : T) : put (f.map (List.map σ)) (x.map σ) = (put f x).map (List.map σ) := by
  unfold put
  by_cases h : x ∈ f
  · rw [if_pos h, if_pos (List.mem_map.mpr ⟨x, h, rfl⟩)]
  · rw [if_neg h, if_neg (fun hm => ?_), List.map_append]
    · rfl
    · obtain ⟨y, hy, e⟩ := List.mem_map.mp hm
      rw [map_inj hσ e] at hy
      exact h hy
theorem stepP_map (i j : Nat) (one other : T) (f : List T) (p : Nat) : stepP i j (one.map σ) (other.map σ) (f.map (List.map σ)) p = (stepP i j one other f p).map (List.map σ) := by
  unfold stepP
  rw [meet_map hσ]
  cases meet one other p with
  | none => rfl
  | some l =>
    show (if i = j ∧ p = 0 then f.map (List.map σ) else put (f.map (List.map σ)) (l.map σ)) = List.map (List.map σ) (if i = j ∧ p = 0 then f else put f l)
    split
    · rfl
    · exact put_map hσ f l
omit hσ in
theorem fold_map {α β γ : Type} (m : α → γ) (g : α → β → α) (k : γ → β → γ) (h : ∀ a b, k (m a) b = m (g a b)) : ∀ (l : List β) (a : α), l.foldl k (m a) = m (l.foldl g a)
  | [], _ => rfl
  | b :: l, a => by
    rw [List.foldl_cons, List.foldl_cons, h, fold_map m g k h l]
theorem stepO_map (i : Nat) (one : T) (f : List T) (q : T × Nat) : stepO i (one.map σ) (f.map (List.map σ)) (q.1.map σ, q.2) = (stepO i one f q).map (List.map σ) := by
  unfold stepO
  rw [List.length_map]
  exact fold_map (List.map (List.map σ)) _ _ (fun a p => stepP_map hσ i q.2 one q.1 a p) _ f
theorem stepI_map (ps : List T) (f : List T) (q : T × Nat) : stepI (ps.map (List.map σ)) (f.map (List.map σ)) (q.1.map σ, q.2) = (stepI ps f q).map (List.map σ) := by
  unfold stepI
  rw [zip_map, List.foldl_map]
  exact fold_map (List.map (List.map σ)) _ _ (fun a r => stepO_map hσ q.2 q.1 a r) _ f
theorem meetF_map (ps : List T) : meetF (ps.map (List.map σ)) = (meetF ps).map (List.map σ) := by
  unfold meetF
  rw [zip_map, List.foldl_map]
  exact fold_map (List.map (List.map σ)) _ _ (fun a r => stepI_map hσ ps a r) _ []
end
/-! the eight first numbers for letters -/
def base : T := List.range 8
def pA (e1 : Nat) : T := base.take e1
def pB (e0 : Nat) : T := base.drop e0
def pF (e0 : Nat) : T := base.take e0
def pL (e1 : Nat) : T := base.drop e1
def left2 (ps : List T) : List T := (work ps 100 ([base], [base])).filter (stuck ps)
def okPair (e0 e1 : Nat) (ps : List T) : Bool :=
  decide (meetF ps = [base]) && closedB ps (work ps 100 ([base], [base])) && (decide (left2 ps = [pF e0, pL e1]) || decide (left2 ps = [pL e1, pF e0]))
def okEnds (e0 e1 : Nat) : Bool := okPair e0 e1 [pA e1, pB e0] && okPair e0 e1 [pB e0, pA e1] && decide (meetF [pA e1, pL e1] = [])
theorem ends_all : ((List.range 8).all fun e1 => (List.range e1).all fun e0 => e0 == 0 || okEnds e0 e1) = true := by decide +kernel

def sg (L : T) (i : Nat) : Nat := if i < 8 then L.getD i 0 else 1000 + i
theorem sg_inj {L : T} (hn : L.Nodup) (hl : L.length = 8) (hb : ∀ c ∈ L, c < 1000) : ∀ a b, sg L a = sg L b → a = b := by
  have hlt : ∀ a, a < 8 → L.getD a 0 = L[a]! ∧ sg L a < 1000 := fun a ha => by
    have h1 : a < L.length := by omega
    refine ⟨by simp [h1], ?_⟩
    unfold sg
    rw [if_pos ha, List.getD_eq_getElem?_getD, List.getElem?_eq_getElem h1]
    exact hb _ (List.getElem_mem h1)
  intro a b h
  by_cases ha : a < 8
  · by_cases hb2 : b < 8
    · unfold sg at h
      have h1 : a < L.length := by omega
      have h2 : b < L.length := by omega
      rw [if_pos ha, if_pos hb2, List.getD_eq_getElem?_getD, List.getD_eq_getElem?_getD, List.getElem?_eq_getElem h1, List.getElem?_eq_getElem h2] at h
      have h' : L[a] = L[b] := h
      have pw := List.pairwise_iff_getElem.mp hn
      rcases Nat.lt_trichotomy a b with z | z | z
      · exact absurd h' (pw a b h1 h2 z)
      · exact z
      · exact absurd h'.symm (pw b a h2 h1 z)
    · have q := (hlt a ha).2
      rw [h] at q
      unfold sg at q
      rw [if_neg hb2] at q
      omega
  · by_cases hb2 : b < 8
    · have q := (hlt b hb2).2
      rw [← h] at q
      unfold sg at q
      rw [if_neg ha] at q
      omega
    · unfold sg at h
      rw [if_neg ha, if_neg hb2] at h
      omega
theorem sg_base {L : T} (hl : L.length = 8) : base.map (sg L) = L := by
  refine List.ext_getElem (by rw [List.length_map, hl]; rfl) fun i h1 h2 => ?_
  have hi : i < 8 := by omega
  rw [List.getElem_map]
  have e : base[i]'(by rw [List.length_map] at h1; exact h1) = i := by
    unfold base
    rw [List.getElem_range]
  rw [e]
  unfold sg
  rw [if_pos hi, List.getD_eq_getElem?_getD, List.getElem?_eq_getElem h2]
  rfl
theorem ends_ok {e0 e1 : Nat} (h0 : 1 ≤ e0) (h1 : e0 < e1) (h2 : e1 ≤ 7) : okEnds e0 e1 = true := by
  have a := List.all_eq_true.mp ends_all e1 (List.mem_range.mpr (by omega))
  have b := List.all_eq_true.mp a e0 (List.mem_range.mpr h1)
  rw [Bool.or_eq_true] at b
  rcases b with b | b
  · have := beq_iff_eq.mp b
    omega
  · exact b
theorem isort_two {a b : T} : ∃ s0 s1, isort [a, b] = [s0, s1] := by
  have h := isort_len [a, b]
  match e : isort [a, b] with
  | [x, y] => exact ⟨x, y, rfl⟩
  | [] => rw [e] at h; cases h
  | [x] => rw [e] at h; cases h
  | x :: y :: z :: r =>
    rw [e] at h
    simp at h
theorem pair_ok {L : T} (hn : L.Nodup) (hl : L.length = 8) (hb : ∀ c ∈ L, c < 1000) {e0 e1 : Nat} {ps : List T} (ok : okPair e0 e1 ps = true) (hne : L.take e0 ≠ L.drop e1) :
    meetings (ps.map (List.map (sg L))) = [L] ∧ ∀ r, OneRest (ps.map (List.map (sg L))) [L] r → ∃ s0 s1, isort [L.take e0, L.drop e1] = [s0, s1] ∧ r = some (L, s0, s1) := by
  have hi := sg_inj hn hl hb
  have eL := sg_base hl
  unfold okPair at ok
  rw [Bool.and_eq_true, Bool.and_eq_true] at ok
  obtain ⟨⟨o1, o2⟩, o3⟩ := ok
  constructor
  · unfold meetings
    rw [meetF_map hi, of_decide_eq_true o1, List.map_singleton, eL]
    rfl
  · intro r hr
    obtain ⟨f, hf, hr⟩ := hr
    have hA := all_map hi (work_all o2)
    rw [eL] at hA
    have e := hf.sorted hA
    rw [stuck_filter hi] at e
    have e1' : (pF e0).map (sg L) = L.take e0 := by
      unfold pF
      rw [List.map_take, eL]
    have e2' : (pL e1).map (sg L) = L.drop e1 := by
      unfold pL
      rw [List.map_drop, eL]
    have e3 : isort (f.filter (stuck (ps.map (List.map (sg L))))) = isort [L.take e0, L.drop e1] := by
      rw [e]
      rw [Bool.or_eq_true] at o3
      rcases o3 with o3 | o3
      · have q := of_decide_eq_true o3
        unfold left2 at q
        rw [q, List.map_cons, List.map_singleton, e1', e2']
      · have q := of_decide_eq_true o3
        unfold left2 at q
        rw [q, List.map_cons, List.map_singleton, e1', e2']
        refine isort_congr (by simp [hne.symm]) (by simp [hne]) fun x => ?_
        simp [or_comm]
    rw [e3] at hr
    obtain ⟨s0, s1, es⟩ := isort_two (a := L.take e0) (b := L.drop e1)
    rw [es] at hr
    exact ⟨s0, s1, es, hr⟩
theorem overlap {L : T} (hn : L.Nodup) (hl : L.length = 8) (hb : ∀ c ∈ L, c < 1000) {e0 e1 : Nat} (h0 : 1 ≤ e0) (h1 : e0 < e1) (h2 : e1 ≤ 7) {ps : List T} (hps : ps = [L.take e1, L.drop e0] ∨ ps = [L.drop e0, L.take e1]) :
    meetings ps = [L] ∧ (∀ r, OneRest ps [L] r → ∃ s0 s1, isort [L.take e0, L.drop e1] = [s0, s1] ∧ r = some (L, s0, s1)) ∧ meetings [L.take e1, L.drop e1] = [] := by
  have hi := sg_inj hn hl hb
  have eL := sg_base hl
  have ok := ends_ok h0 h1 h2
  unfold okEnds at ok
  rw [Bool.and_eq_true, Bool.and_eq_true] at ok
  obtain ⟨⟨o1, o2⟩, o3⟩ := ok
  have eA : (pA e1).map (sg L) = L.take e1 := by
    unfold pA
    rw [List.map_take, eL]
  have eB : (pB e0).map (sg L) = L.drop e0 := by
    unfold pB
    rw [List.map_drop, eL]
  have e2' : (pL e1).map (sg L) = L.drop e1 := by
    unfold pL
    rw [List.map_drop, eL]
  have hne : L.take e0 ≠ L.drop e1 := fun e => by
    have hd := (List.nodup_append.mp (by rw [List.take_append_drop e0 L]; exact hn)).2.2
    have m1 : L[0]'(by omega) ∈ L.take e0 := by
      rw [List.mem_take_iff_getElem]
      exact ⟨0, by omega, rfl⟩
    have m2 : L[0]'(by omega) ∈ L.drop e0 := by
      rw [e] at m1
      have hs : (L.drop e1).Sublist (L.drop e0) := by
        rw [show e1 = e0 + (e1 - e0) by omega, ← List.drop_drop]
        exact List.drop_sublist _ _
      exact hs.subset m1
    exact hd _ m1 _ m2 rfl
  have hz : meetings [L.take e1, L.drop e1] = [] := by
    have q := of_decide_eq_true o3
    have q2 := meetF_map hi [pA e1, pL e1]
    rw [q, List.map_cons, List.map_singleton, eA, e2'] at q2
    unfold meetings
    rw [q2]
    rfl
  rcases hps with rfl | rfl
  · have z := pair_ok hn hl hb o1 hne
    rw [List.map_cons, List.map_singleton, eA, eB] at z
    exact ⟨z.1, z.2, hz⟩
  · have z := pair_ok hn hl hb o2 hne
    rw [List.map_cons, List.map_singleton, eA, eB] at z
    exact ⟨z.1, z.2, hz⟩
end K9
end

section
set_option autoImplicit false
set_option linter.all false
/-! drawn orders -/
namespace K9
theorem perm_map_inv {α β : Type} {f : α → β} {us ws : List β} (h : us.Perm ws) : ∀ {l : List α}, ws = l.map f → ∃ l' : List α, us = l'.map f ∧ l'.Perm l := by
  induction h with
  | nil =>
    intro l e
    cases l with
    | nil => exact ⟨[], rfl, .refl _⟩
    | cons a l => cases e
  | cons x _ ih =>
    intro l e
    cases l with
    | nil => cases e
    | cons a l =>
      rw [List.map_cons] at e
      injection e with e1 e2
      obtain ⟨l', rfl, p⟩ := ih e2
      exact ⟨a :: l', by rw [List.map_cons, e1], p.cons a⟩
  | swap x y r =>
    intro l e
    match l, e with
    | [], e => cases e
    | [a], e => cases e
    | a :: b :: l, e =>
      rw [List.map_cons, List.map_cons] at e
      injection e with e1 e2
      injection e2 with e2 e3
      exact ⟨b :: a :: l, by rw [List.map_cons, List.map_cons, e1, e2, e3], .swap a b l⟩
  | trans _ _ ih1 ih2 =>
    intro l e
    obtain ⟨l', e', p⟩ := ih2 e
    obtain ⟨l2, e2, p2⟩ := ih1 e'
    exact ⟨l2, e2, p2.trans p⟩
theorem two_ends {ns ns' : List Int} (h : ns.Perm [1, 2, 3, 4, 5, 6, 7]) (h2 : ns'.Perm (ns.take 2)) (hs : ns'.Pairwise (· ≤ ·)) : ∃ e0 e1 : Nat, ns' = [(e0 : Int), (e1 : Int)] ∧ 1 ≤ e0 ∧ e0 < e1 ∧ e1 ≤ 7 := by
  have hl := h.length_eq
  match ns, hl, h, h2 with
  | a :: b :: r, hl, h, h2 =>
    have hn : (a :: b :: r).Nodup := h.symm.nodup (by decide)
    have hab : a ≠ b := fun e => (List.nodup_cons.mp hn).1 (by rw [e]; exact List.mem_cons_self ..)
    have ba : ∀ x ∈ [(1 : Int), 2, 3, 4, 5, 6, 7], 1 ≤ x ∧ x ≤ 7 := by decide
    have ha := ba a (h.mem_iff.mp (List.mem_cons_self ..))
    have hb := ba b (h.mem_iff.mp (List.mem_cons_of_mem _ (List.mem_cons_self ..)))
    have hl2 := h2.length_eq
    have e2 : (a :: b :: r).take 2 = [a, b] := rfl
    rw [e2] at h2 hl2
    match ns', hl2, h2, hs with
    | [x, y], _, h2, hs =>
      have hxy : x ≤ y := (List.pairwise_cons.mp hs).1 y (List.mem_cons_self ..)
      have hne : x ≠ y := fun e => by
        have := h2.symm.nodup (by simp [hab])
        rw [e] at this
        simp at this
      have hx := h2.mem_iff.mp (List.mem_cons_self (a := x) (l := [y]))
      have hy := h2.mem_iff.mp (List.mem_cons_of_mem x (List.mem_cons_self (a := y) (l := [])))
      have rx : 1 ≤ x ∧ x ≤ 7 := by
        rcases List.mem_cons.mp hx with rfl | hx
        · exact ha
        · cases List.mem_singleton.mp hx
          exact hb
      have ry : 1 ≤ y ∧ y ≤ 7 := by
        rcases List.mem_cons.mp hy with rfl | hy
        · exact ha
        · cases List.mem_singleton.mp hy
          exact hb
      refine ⟨x.toNat, y.toNat, ?_, by omega, by omega, by omega⟩
      rw [Int.toNat_of_nonneg (by omega), Int.toNat_of_nonneg (by omega)]
  | [], hl, _, _ => simp at hl
  | [a], hl, _, _ => simp at hl
theorem perm_two {α : Type} {a b : α} {l : List α} (h : l.Perm [a, b]) : l = [a, b] ∨ l = [b, a] := by
  have hl := h.length_eq
  match l, hl, h with
  | [x, y], _, h =>
    have hx := h.mem_iff.mp (List.mem_cons_self (a := x) (l := [y]))
    rcases List.mem_cons.mp hx with rfl | hx
    · have h2 := (List.perm_cons x).mp h
      have := List.perm_singleton.mp h2
      rw [this]
      exact .inl rfl
    · cases List.mem_singleton.mp hx
      have h2 := (List.perm_cons b).mp (h.trans (.swap b a []))
      have := List.perm_singleton.mp h2
      rw [this]
      exact .inr rfl
  | [], hl, _ => simp at hl
  | [x], hl, _ => simp at hl
theorem meet_sign {one other l : T} {p : Nat} (h : meet one other p = some l) {c : Nat} (hc : c ∈ l) : c ∈ one ∨ c ∈ other := by
  rw [meet_eq h] at hc
  rcases List.mem_append.mp hc with hc | hc
  · exact .inl hc
  · exact .inr (List.mem_of_mem_drop hc)
/-- the book with every sign of its own -/
theorem every_none {cs L : T} {ps : List T} (hp : cs.Perm L) (hps : ∀ p ∈ ps, ∀ c ∈ p, c ∈ L) {r : Option (T × T × T)} (h : OneRest (cs.map (fun c => [c]) ++ ps) (meetings (cs.map (fun c => [c]) ++ ps)) r) : r = none := by
  have one : ∀ c ∈ L, [c] ∈ cs.map (fun c => [c]) ++ ps := fun c hc => List.mem_append_left _ (List.mem_map.mpr ⟨c, hp.mem_iff.mpr hc, rfl⟩)
  have sgn : ∀ p ∈ cs.map (fun c => [c]) ++ ps, ∀ c ∈ p, c ∈ L := fun p hpp c hc => by
    rcases List.mem_append.mp hpp with hpp | hpp
    · obtain ⟨x, hx, rfl⟩ := List.mem_map.mp hpp
      cases List.mem_singleton.mp hc
      exact hp.mem_iff.mp hx
    · exact hps p hpp c hc
  refine oneRest_all (fun p hpp c hc => one c (sgn p hpp c hc)) (fun l hl c hc => ?_) h
  obtain ⟨a, b, q, ha, hb, _, hm⟩ := mem_meetF ((mem_isort l _).mp hl)
  rcases meet_sign hm hc with z | z
  · exact one c (sgn a ha c z)
  · exact one c (sgn b hb c z)
theorem take_mid {L : T} {e0 e1 : Nat} (h : e0 ≤ e1) : L.take e0 ++ (L.drop e0).take (e1 - e0) = L.take e1 := by
  have := List.take_add (l := L) (i := e0) (j := e1 - e0)
  rw [show e0 + (e1 - e0) = e1 by omega] at this
  exact this.symm
theorem mid_drop {L : T} {e0 e1 : Nat} (h : e0 ≤ e1) : (L.drop e0).take (e1 - e0) ++ L.drop e1 = L.drop e0 := by
  have e : L.drop e1 = (L.drop e0).drop (e1 - e0) := by
    rw [List.drop_drop, show e0 + (e1 - e0) = e1 by omega]
  rw [e, List.take_append_drop]
end K9
end

section
set_option Elab.async false
set_option linter.all false
set_option maxRecDepth 100000
set_option maxHeartbeats 4000000
/-! enumerate(a tuple): the call, the turns, the walk -/
namespace K9R
open PySem PySem.Spec PyProof.Rows L2
theorem enumB_new {v : Value} {o : Obj} {G : Heap → Prop} (B : PySem.Begins v o G) :
    Meets (Builtin.«enumerate.__new__» ⟨[.type "enumerate", v], []⟩) (fun _ R s => G s.heap ∧
      R (.ok (.ret (.ref (s.heap.push o).objs.size)))
        { s with heap := (s.heap.push o).push { cls := .type "enumerate", data := .fields #[.none, .bool false, .ref s.heap.objs.size, rawInt 0, .none, .none] } }) :=
  .of_wp fun prog w A R s h => by
    obtain ⟨hp, g, d, tk, os⟩ := s
    obtain ⟨hG, h⟩ := h
    have sb := sub_enumerate
    have go : ∀ {A2 : Around} {E : Value → Shared → Prop} {Q : Value → Shared → Prop}, Q (.ref hp.objs.size) ⟨hp.push o, g, d, tk, os⟩ → wpAny (model prog w) A2 (pyIter v) Q E ⟨hp, g, d, tk, os⟩ :=
      fun q => B.iter prog w _ _ ⟨hp, g, d, tk, os⟩ _ hG q
    wp_walk using go
    refine wpAny_stack_any fun st => wpAny_pure ?_
    split
    · rename_i c _ _ _ _ _
      cases (c == Value.type "enumerate") <;> (wp_walk using go; exact ⟨_, rfl, h⟩)
    · wp_walk using go
      exact ⟨_, rfl, h⟩
section
variable {prog : Program} {w : World} {A : Around} {E : Value → Shared → Prop} {s : Shared}
theorem call_enumB {v : Value} {o : Obj} {G : Heap → Prop} {Q : Value → Shared → Prop} (B : PySem.Begins v o G) (hG : G s.heap)
    (h : ∀ h', IsEnum h' (s.heap.objs.size + 1) s.heap.objs.size 0 .none → h'.get? s.heap.objs.size = some o → (∀ b u, s.heap.get? b = some u → h'.get? b = some u) → Q (.ref (s.heap.objs.size + 1)) { s with heap := h' }) :
    wpAny (model prog w) A (call (.type "enumerate") [v]) Q E s := by
  refine callType_new F.called_enumerate (by decide) (F.typeCall_enumerate_1 _) (F.newCall_enumerate_1 _) (fun obj => F.args_object_init_2 obj _) F.entry_enumerate_new (enumB_new B) ⟨hG, ?_⟩
  have sz : (s.heap.push o).objs.size = s.heap.objs.size + 1 := Heap.size_push ..
  have at2 := Heap.get?_push_size (s.heap.push o) (o := { cls := .type "enumerate", data := .fields #[.none, .bool false, .ref s.heap.objs.size, rawInt 0, .none, .none] }) rfl
  rw [sz] at at2
  show _ ∧ _
  rw [sz]
  exact ⟨⟨_, at2, rfl⟩, h _ at2 (Heap.get?_push_of_some _ (Heap.get?_push_size _ B.free)) fun b u e => Heap.get?_push_of_some _ (Heap.get?_push_of_some _ e)⟩
end
/-- the tuple at a, each item in a new pair -/
def IteT (K : PySem.W.Frag) (a : Addr) : It where
  go := fun i H => ∃ (xs : List V) (x : V), SqT K H a xs ∧ xs[i]? = some x
  yld := fun i H v H' => ∃ T x, v = .ref T ∧ H T = none ∧ H' = upd H T (.tup [.int (i : Nat), x]) ∧ ∀ xs, SqT K H a xs → xs[i]? = some x
  stop := fun i H => ∃ xs : List V, SqT K H a xs ∧ xs.length = i
theorem turn_enumT {P : Program} {w : World} {K : PySem.W.Frag} {elts : List Expr} {kk : Nat} {tpos : Pos} (a e it : Addr) (ae : a ≠ e) (ai : a ≠ it) :
    Turn P w K (.Tuple elts kk tpos) (IteT K a) [e, it] e (fun i h => (∃ old, IsEnum h e it ((i : Nat) : Int) old) ∧ h.IsTupleIter it a i ∧ e ≠ it) where
  mem := by simp
  obj := fun i h st b hb => by
    obtain ⟨⟨old, he⟩, ⟨o, ho, hc, hd⟩, _⟩ := st
    have two : b = e ∨ b = it := by simpa using hb
    rcases two with rfl | rfl
    · exact ⟨_, he, fun v q => nomatch q⟩
    · exact ⟨o, ho, fun v q => by rw [hd] at q; cases q⟩
  keep := fun i h h' st k => by
    obtain ⟨⟨old, he⟩, hi, ne⟩ := st
    exact ⟨⟨old, k e (by simp) _ he⟩, hi.at fun o q => k it (by simp) o q, ne⟩
  item := by
    intro X hP hw hK hc i pins s σ H E I hf st hg
    subst hP hw hK
    obtain ⟨⟨old, he⟩, hit, ne⟩ := st
    obtain ⟨xs, x, hq, hx⟩ := hg
    obtain ⟨its, rv, p, hz⟩ := I.tuple hq
    obtain ⟨u, hu, ru⟩ := rv.get hx
    have el : e < s.heap.objs.size := Heap.lt_size he
    have il : it < s.heap.objs.size := by
      obtain ⟨_, q, _⟩ := hit
      exact Heap.lt_size q
    have hi : i < its.toArray.size := by
      have q := (List.getElem?_eq_some_iff.mp hu).1
      simpa using q
    have nef : e ∉ [it, a] := fun z => by
      have z2 : e = it ∨ e = a := by simpa using z
      exact z2.elim ne fun q => ae q.symm
    refine wpAny_pyNext_enum_itemC (D := PySem.Draws.tuple (A := X.A.in1) (I.ok.hd hc) it a ai its.toArray) he ⟨hit, show s.heap.IsTuple a its.toArray from p⟩ hi ne nef fun y h' tk hy ho hit' hT hsz hk => ?_
    have ey : u = y := Option.some.inj ((show its.toArray[i]? = some u by simpa using hu).symm.trans hy)
    subst ey
    refine ⟨_, rfl, wpAny_letOwnedTupleGo_enum (s := { s with heap := h', toks := tk + 1 }) ho fun h2 he2 sb => ?_⟩
    have hT2 : h2.get? s.heap.objs.size = some { cls := .type "tuple", data := .seq #[.int i tk, u] } := (sb.2 _ (Nat.ne_of_gt el)).trans hT
    have new : ObjOk X.prog X.w (upd H s.heap.objs.size (.tup [.int (i : Nat), x])) h2 s.heap.objs.size (.tup [.int (i : Nat), x]) :=
      ⟨by show 2 ≤ sizeLine; decide, [.int i tk, u], .cons ⟨_, rfl⟩ (.cons ru .nil), ⟨_, hT2, rfl, _, rfl⟩⟩
    have I1 : Inv X pins σ (upd H s.heap.objs.size (.tup [.int (i : Nat), x])) { s with heap := h2, toks := tk + 1 } :=
      I.turnedNew (ch := [e, it]) (fun b ob hb q => (sb.2 b (fun z => hb (by simp [z]))).trans (hk b ob (fun z => hb (by simp [z])) (fun z => hb (by simp [z])) q)) hf (Nat.le_refl _) new
    refine ⟨.ref s.heap.objs.size, _, I1, rfl, ⟨_, x, rfl, I.hok.fresh (Nat.le_refl _), rfl, fun ys hy => by rw [I.tuple_inj hy hq]; exact hx⟩, ⟨⟨u, ?_⟩, hit'.1.at fun o q => (sb.2 it (Ne.symm ne)).trans q, ne⟩, fun b hb => ?_⟩
    · have e1 : ((i + 1 : Nat) : Int) = (i : Int) + 1 := by omega
      rw [e1]
      exact he2
    · have two : b = e ∨ b = it := by simpa using hb
      have lt : b < s.heap.objs.size := by
        rcases two with z | z <;> rw [z] <;> assumption
      rw [upd_ne (Nat.ne_of_lt lt)]
      exact (hf b hb).1
  done := by
    intro X hP hw hK hc i pins s σ H E I hf st hg
    subst hP hw hK
    obtain ⟨⟨old, he⟩, hit, ne⟩ := st
    obtain ⟨xs, hq, hx⟩ := hg
    obtain ⟨its, rv, p, hz⟩ := I.tuple hq
    obtain ⟨f0, f1, f2, f3, f4, f5⟩ := hf it (by simp)
    have hl : its.toArray.size = i := by
      rw [List.size_toArray, ← rv.length, hx]
    refine wpAny_pyNext_enum_endD (D := PySem.Draws.tuple (A := X.A.in1) (I.ok.hd hc) it a ai its.toArray) he ⟨by rw [hl]; exact hit, show s.heap.IsTuple a its.toArray from p⟩ fun h' hx => ⟨rfl, I.turned (t' := s.toks) (fun b o hb q => hx b o hb q) f0 f1 f3 f4 f5⟩
  self := fun A i s Q E st h => wpAny_pyIter_enum st.1.choose_spec h
def iEnumT (K : PySem.W.Frag) (ta : TA) : TI := fun σ H R => ta σ H fun vs H1 => ∃ a xs, vs = [.ref a] ∧ SqT K H1 a xs ∧ R (IteT K a) H1
theorem pi_enumT {X : Cx} {e : Expr} {ta : TA} {p pos tpos : Pos} {elts : List Expr} {kk : Nat} (hg : Gl X "enumerate") (hm : X.mg "enumerate" = none) (ha : PA X [e] ta) (hs : starEach [e] X.env = [(false, eval e X.env)] := by rfl) :
    PI X (.Tuple elts kk tpos) (.Call (.Name "enumerate" p) [e] [] pos) (iEnumT X.K ta) := by
  refine ⟨fun pins s σ H R I h => Call_ (ld_blt I hg hm boot_enumerate (PyProof.Rows.callWith_type1 (thn (ha.run pos pins s σ H _ I h) fun us s1 q1 => ?_) hs rfl))⟩
  obtain ⟨vs, H1, I1, r1, a, xs, ex, hq, q⟩ := q1
  subst ex
  cases r1 with
  | cons r rr =>
    cases rr
    cases r
    obtain ⟨its, rv, p', hz⟩ := I1.tuple hq
    have al : a < s1.heap.objs.size := p'.lt
    refine call_enumB (PySem.begins_tuple a its.toArray) (show s1.heap.IsTuple a its.toArray from p') fun h' he hit hk => wpAny_pyIter_enum he ?_
    refine ⟨s1.heap.objs.size + 1, [s1.heap.objs.size + 1, s1.heap.objs.size], _, _, H1, rfl, I1.kept (t' := s1.toks) hk,
      turn_enumT a (s1.heap.objs.size + 1) s1.heap.objs.size (Nat.ne_of_lt (Nat.lt_succ_of_lt al)) (Nat.ne_of_lt al), ⟨⟨.none, he⟩, ⟨_, hit, rfl, rfl⟩, Nat.succ_ne_self _⟩, fun b hb => ?_, q⟩
    have two : b = s1.heap.objs.size + 1 ∨ b = s1.heap.objs.size := by simpa using hb
    have le : s1.heap.objs.size ≤ b := by
      rcases two with z | z <;> rw [z]
      · exact Nat.le_add_right _ _
      · exact Nat.le_refl _
    exact I1.fpOk le (I1.hok.fresh le)
theorem walk_enumT {K : PySem.W.Frag} {a : Addr} {xs : List V} : Walk (IteT K a) xs.length (fun H => SqT K H a xs) (YPair (fun i => some (.int (i : Nat))) (fun i => xs[i]?)) := by
  refine ⟨fun i _ hi q => ⟨xs, xs[i], q, by simp [hi]⟩, fun _ q => ⟨xs, q, rfl⟩, fun i H v H' _ q y => ?_⟩
  obtain ⟨T, x, h1, h2, h3, h4⟩ := y
  exact ⟨T, .int (i : Nat), x, h1, h2, h3, rfl, h4 xs q⟩
end K9R
end

section
set_option Elab.async false
set_option linter.all false
set_option maxRecDepth 100000
set_option maxHeartbeats 4000000
/-! texts by their codes; text * int; list(text); a, b = text; sorted of pairs (int, text) -/
namespace K9R
open PySem PySem.Spec PyProof.Rows L2
abbrev T := K9.T
/-- the text of these codes -/
def S (l : T) : Str := ⟨l.toArray⟩
theorem S_len (l : T) : (S l).length = l.length := by
  show l.toArray.size = l.length
  simp
theorem S_list (l : T) : (S l).cps.toList = l := by
  show l.toArray.toList = l
  simp
theorem S_inj {a b : T} (h : S a = S b) : a = b := by
  rw [← S_list a, h, S_list]
theorem S_of (z : Str) : S z.cps.toList = z := by
  show (⟨z.cps.toList.toArray⟩ : Str) = z
  rw [Array.toArray_toList]
theorem S_nil : S [] = Str.empty := rfl
theorem S_cat (a b : T) : S a ++ S b = S (a ++ b) := by
  show (⟨a.toArray ++ b.toArray⟩ : Str) = ⟨(a ++ b).toArray⟩
  simp
abbrev vS (l : T) : V := .str (S l)
theorem S_mul (l : T) (n : Nat) : Txt.mul (S l) (n : Int) = S (List.replicate n l).flatten := by
  unfold Txt.mul
  by_cases h1 : n = 0
  · subst h1
    rfl
  · rw [if_neg (by omega)]
    by_cases h2 : n = 1
    · subst h2
      rw [if_pos (by simp)]
      simp
    · by_cases h3 : l.length = 0
      · have e : l = [] := List.length_eq_zero_iff.mp h3
        subst e
        rw [if_pos (by rw [S_len]; simp)]
        simp
      · rw [if_neg (by rw [S_len]; simp only [Bool.or_eq_true, beq_iff_eq]; omega)]
        show (⟨(List.replicate n l.toArray).foldl (· ++ ·) #[]⟩ : Str) = ⟨((List.replicate n l).flatten).toArray⟩
        have key : ∀ (m : Nat) (acc : T), (List.replicate m l.toArray).foldl (· ++ ·) acc.toArray = (acc ++ (List.replicate m l).flatten).toArray := fun m => by
          induction m with
          | zero => intro acc; simp
          | succ m ih =>
            intro acc
            rw [List.replicate_succ, List.foldl_cons, List.append_toArray, ih, List.replicate_succ, List.flatten_cons, List.append_assoc]
        have q := key n []
        rw [List.nil_append] at q
        exact congrArg Str.mk q
section
variable {X : Cx}
/-- text * n -/
theorem op_mulS : OpR X (binaryOp .Mult) (fun x y H Q => ∃ (l : T) (n : Nat), x = vS l ∧ y = .int (n : Int) ∧ l.length ≤ 1000 ∧ n ≤ 1000 ∧ Q (vS (List.replicate n l).flatten) H) := by
  intro pins s σ H x y v u Q I rx ry h
  obtain ⟨l, n, rfl, rfl, h1, h2, q⟩ := h
  obtain ⟨t, rfl⟩ := rx
  obtain ⟨t2, rfl⟩ := ry
  refine SB.mul ⟨?_, fun hn _ => ?_, fun _ _ => ?_⟩ fun t' k => ⟨vS (List.replicate n l).flatten, H, I.tok k, ⟨t', by rw [S_mul]⟩, q⟩
  · simp
    omega
  · rw [S_len]
    have h3 : (1000 : Int) ≤ (2 ^ 63 - 1) / (n : Int) := by
      refine (Int.le_ediv_iff_mul_le (by omega)).mpr ?_
      have : (1000 : Int) * (n : Int) ≤ 1000 * 1000 := by omega
      omega
    omega
  · rw [S_len]
    have h3 : l.length * n ≤ 1000 * 1000 := Nat.mul_le_mul h1 h2
    show decide (l.length * (n : Int).toNat > sizeLine) = false
    rw [Int.toNat_natCast, sizeLine_eq]
    exact decide_eq_false (by omega)
theorem vals_signs : ∀ {l : T} {us : List Value}, us.length = l.length → (∀ (j : Nat) (v : Value), us[j]? = some v → ∃ c t, l[j]? = some c ∧ v = .str ⟨#[c]⟩ t) → Vals (l.map fun c => vS [c]) us
  | [], [], _, _ => .nil
  | [], _ :: _, h, _ => by simp at h
  | _ :: _, [], h, _ => by simp at h
  | c :: l, u :: us, h, g => by
    obtain ⟨c', t, e1, e2⟩ := g 0 u rfl
    have e1' : c = c' := Option.some.inj e1
    subst e1'
    subst e2
    exact .cons ⟨t, rfl⟩ (vals_signs (by simpa using h) fun j v e => by
      obtain ⟨c2, t2, a, b⟩ := g (j + 1) v (by simpa using e)
      exact ⟨c2, t2, by simpa using a, b⟩)
/-- list(text) -/
theorem call_listS (hc : X.calm = true) : CallR X (.type "list") (fun xs H Q => ∃ l : T, xs = [vS l] ∧ l.length ≤ 1000 ∧ ∀ p, H p = none → Q (.ref p) (upd H p (.lst (l.map fun c => vS [c])))) := by
  intro pins s σ H xs us Q I r q
  obtain ⟨l, rfl, hl, q⟩ := q
  obtain ⟨u, rfl, t, rfl⟩ := vals1 r
  have hz : (S l).cps.size ≤ sizeLine := by
    show l.toArray.size ≤ sizeLine
    rw [sizeLine_eq]
    simp
    omega
  refine call_list_str (I.ok.hd hc) (S l) t (fun h' tk acc c hk hD hacc => ?_) hz
  have hv : Vals (l.map fun c => vS [c]) acc.toList := by
    refine vals_signs (by rw [Array.length_toList, hacc.1]; show l.toArray.size = _; simp) fun j v e => ?_
    obtain ⟨c, t2, e1, e2⟩ := hacc.2 j v (by rw [← Array.getElem?_toList]; exact e)
    exact ⟨c, t2, by simpa [S] using e1, e2⟩
  refine ⟨.ref s.heap.objs.size, _, I.laid (t' := tk) hk (Nat.le_refl _) ?_, rfl, q _ (I.hok.fresh (Nat.le_refl _))⟩
  refine ⟨by rw [List.length_map, sizeLine_eq]; omega, acc.toList, c, hv, ?_⟩
  rw [Array.toArray_toList]
  exact hD
end
/-! ### a, b = text -/
section
variable {prog : Program} {w : World} {A : Around} {E : Value → Shared → Prop}
theorem draw_signs {it : Addr} {x : Str} {t : Tok} : ∀ (n i : Nat) (s : Shared) (Q : List Value → Shared → Prop), s.heap.IsStrIter it "str_ascii_iterator" x t i → i + n ≤ x.cps.size →
    (∀ h' tk us, h'.IsStrIter it "str_ascii_iterator" x t (i + n) → Heap.SameBut it s.heap h' → Vals (((x.cps.toList.drop i).take n).map fun c => vS [c]) us → Q us { s with heap := h', toks := tk }) →
    wpAny (model prog w) A (draw (.ref it) n) Q E s
  | 0, i, s, Q, hit, _, hQ => by
    show wpAny _ _ (pure []) Q E s
    exact wpAny_pure (hQ s.heap s.toks [] hit (Heap.SameBut.refl ..) (by simp; exact .nil))
  | n + 1, i, s, Q, hit, hle, hQ => by
    have hlt : i < x.cps.size := by omega
    show wpAny _ _ (pyNext (.ref it) >>= _) Q E s
    refine wpAny_bind (wpAny_pyNext_ascii_item hit (c := x.cps[i]) (by simp [hlt]) fun h1 hit1 hs1 => ?_)
    refine wpAny_bind (wpAny_holding (draw_signs n (i + 1) _ _ hit1 (by omega) fun h2 tk us hit2 hs2 hv => wpAny_pure ?_))
    have hd : x.cps.toList.drop i = x.cps[i] :: x.cps.toList.drop (i + 1) := by simp [List.drop_eq_getElem_cons, hlt]
    refine hQ h2 tk _ (by rw [show i + (n + 1) = i + 1 + n by omega]; exact hit2) (hs1.trans hs2) ?_
    rw [hd, List.take_succ_cons, List.map_cons]
    exact .cons ⟨_, rfl⟩ hv
theorem unpack_signs {s : Shared} {l : T} {t : Tok} {Q : List Value → Shared → Prop} (hh : A.handled = none) (ha : l.all (· < 128) = true)
    (hQ : ∀ h' tk us, (∀ b o, s.heap.get? b = some o → h'.get? b = some o) → Vals (l.map fun c => vS [c]) us → Q us { s with heap := h', toks := tk }) : wpAny (model prog w) A (unpackItems (.str (S l) t) l.length none) Q E s := by
  have hsz : (S l).cps.size = l.length := by
    show l.toArray.size = _
    simp
  unfold unpackItems
  refine wpAny_bind ?_
  unfold notIterableAtAll
  refine wpAny_bind (wpAny_specialOf (typeIs_str s (S l) t) F.slot_str_iter.lookup ?_)
  refine wpAny_pure ?_
  simp only [Bool.false_eq_true, if_false]
  refine wpAny_bind (wpAny_holding (wpAny_pyIter_ascii (by simpa [S] using ha) ?_))
  refine wpAny_bind (wpAny_holding (draw_signs l.length 0 _ _ ⟨_, Heap.get?_push_size _ rfl, rfl, rfl⟩ (by rw [hsz]; omega) fun h1 tk us hit1 hs1 hv => ?_))
  rw [S_list, List.drop_zero, List.take_length] at hv
  have hul : us.length = l.length := by
    rw [← hv.length, List.length_map]
  rw [hul, if_neg (Nat.lt_irrefl _)]
  refine wpAny_bind (wpAny_holding (wpAny_pyNext_ascii_end hh hit1 (by simp [hsz]) fun h2 he2 => ?_))
  simp only [Option.isSome_none, Bool.false_eq_true, if_false]
  refine wpAny_pure (hQ h2 _ us (fun b o e => ?_) hv)
  have hb : b ≠ s.heap.objs.size := Nat.ne_of_lt (Heap.lt_size e)
  exact he2 b o hb (hs1.extBut b o hb (Heap.get?_push_of_some _ e))
end
def gTxt (n : Nat) (t : TGs) : TG := fun v σ H Q => ∃ l : T, v = vS l ∧ l.length = n ∧ l.all (· < 128) = true ∧ t (l.map fun c => vS [c]) σ H Q
theorem pg_txt {X : Cx} {es : List Expr} {k : Nat} {t : TGs} {n : Nat} {pos : Pos} (hc : X.calm = true) (h : PGs X es t)
    (hn : (assignEach es X.env).length = n := by rfl) (hst : (assignEach es X.env).findIdx? (·.1) = none := by rfl) : PG X (.Tuple es k pos) (gTxt n t) := by
  refine ⟨fun pins s σ H v u Q I r hw => ?_⟩
  obtain ⟨l, rfl, hl, ha, hw⟩ := hw
  obtain ⟨t1, rfl⟩ := r
  rw [PyProof.Rows.assign_Tuple]
  refine wpAny_bind (wpAny_standAt ?_)
  unfold unpack
  rw [hn, hst, ← hl]
  refine wpAny_bind (wpAny_holding (unpack_signs (I.ok.hd hc) ha fun h' tk us hk hv => ?_))
  exact h.run pins _ σ H _ us Q (I.kept (t' := tk) hk) hv hw
end K9R
end

section
set_option Elab.async false
set_option linter.all false
set_option maxRecDepth 100000
set_option maxHeartbeats 4000000
/-! sorted by the key (len(text), text) -/
namespace K9R
open PySem PySem.Spec PyProof.Rows L2
/-! ### the lambda's text and its call -/
def lamArgs (nm : Str) (p : Pos) : Arguments := { posonlyargs := [], args := [{ arg := nm, annotation := none, pos := p : Arg }], vararg := none, kwonlyargs := [], kw_defaults := [], kwarg := none, defaults := [] }
def lamBody (nm : Str) (k : Nat) (p1 p2 p3 p4 p5 : Pos) : Expr := .Tuple [.Call (.Name "len" p1) [.Name nm p2] [] p3, .Name nm p4] k p5
def lamScope (nm : Str) : Scope := { kind := .function, names := [(nm, .local), ("len", .globalImplicit)], isGenerator := false, isCoroutine := false, more := [] }
def keyD (x : T) : PyData := .tuple [.int x.length, .str (S x)]
theorem lam_key {P : Program} {w : World} {A : Around} {s : Shared} {f c' : Addr} {nm q : Str} {k : Nat} {p0 p1 p2 p3 p4 p5 : Pos} {pm ctv : Value} {mg mb : Str → Option Value} {x : T} {t : Tok}
    (of : s.heap.get? f = some (PySem.W.kla_obj "<lambda>" q (lamArgs nm p0) (lamBody nm k p1 p2 p3 p4 p5) (lamScope nm) [] pm c' ctv))
    (hco : ∃ (oc : Obj) (vs : Array Value) (t : Tok), s.heap.get? c' = some oc ∧ oc.data = .fields vs ∧ vs[1]? = some (.str q t)) (hroom : A.depth < recursionLimit)
    (hG : s.heap.Ns mainGlobals mg) (hmg : mg "len" = none) (hB : s.heap.Ns builtinsNs mb) (hmb : mb "len" = some (.builtin "len")) (hlim : s.heap.NoLimit) (hx : x.length ≤ 1000)
    (hbind : bindArgs (PySem.W.kla_fn "<lambda>" q (lamArgs nm p0) (lamBody nm k p1 p2 p3 p4 p5) (lamScope nm) [] pm (.ref c') ctv) ⟨[.str (S x) t], []⟩ = pure [(nm, .str (S x) t)])
    (hn1 : (nm == ("__debug__" : Str)) = false) (hn2 : (lamScope nm).names.lookup nm = some .local) (hn3 : (lamScope nm).names.lookup ("len" : Str) = some .globalImplicit) :
    wpAny (model P w) A (call (.ref f) [.str (S x) t]) (PySem.W.KeyPure (keyD x) s) (fun _ _ => False) s := by
  obtain ⟨oc, vs, t1, hoc, hdc, hvc⟩ := hco
  refine wpAny_call (PySem.W.kla_callFunE hroom of rfl rfl rfl rfl ⟨c', oc, vs, t1, rfl, hoc, hdc, hvc⟩ ?_)
  rw [hbind]
  refine wpAny_pure (wpAny_newFunctionEnv (fun y hy => ?_) (fun y hy => ?_) (fun h1 hns hsb => ⟨hlim.fresh _ hsb, ?_⟩) rfl)
  · have two : y = (nm, NameKind.local) ∨ y = (("len" : Str), NameKind.globalImplicit) := by simpa [lamScope] using hy
    rcases two with e | e <;> (rw [e]; exact fun z => nomatch z)
  · have e : y = (nm, .str (S x) t) := by simpa using hy
    rw [e]
    exact hn2
  have kp : ∀ b o, s.heap.get? b = some o → h1.get? b = some o := fun b o e => hsb.extBut b o (Nat.ne_of_lt (Heap.lt_size e)) (Heap.get?_push_of_some _ e)
  refine PySem.W.kla_codeExpr ?_
  have hv : (fun y => ([(nm, Value.str (S x) t)] : List (Str × Value)).reverse.lookup y) nm = some (.str (S x) t) := by simp
  refine wpAny_Tuple_spliced ?_
  refine Calls.spliced_cons (wpAny_Call_Name_kw (Calls.Name_function_global rfl hn3 (Calls.loadGlobal_builtin (hG.keeps kp) hmg (hB.keeps kp) hmb ?_)))
  refine PyProof.Rows.callWith_builtin1 ?_ rfl rfl
  refine Calls.spliced_cons (wpAny_Name (wpAny_loadName_local rfl hn2 hns hv ?_) hn1)
  refine Calls.spliced_nil ?_
  refine len_str (by rw [S_len]; omega) ?_
  refine Calls.spliced_cons (wpAny_Name (wpAny_loadName_local rfl hn2 hns hv ?_) hn1)
  refine Calls.spliced_nil ⟨by show 2 ≤ sizeLine; decide, ?_⟩
  refine ⟨_, _, rfl, fun b o e => Heap.get?_push_of_some _ (kp b o e), .tuple (Heap.get?_push_size _ rfl) rfl rfl ?_⟩
  show ReadsAll _ [Value.int _ _, Value.str (S x) t] [.int x.length, .str (S x)] ([] ++ ([] ++ []))
  refine .cons ?_ (.cons (.str _ _) .nil)
  rw [S_len]
  exact .int _ _
/-! ### the order -/
theorem keyD_lt (a b : T) : PySem.W.dataLt (keyD a) (keyD b) = K9.tlt a b := by
  unfold keyD
  rw [PySem.W.dataLt_pair (by simp [PySem.W.alike]) (by simp [PySem.W.alike]), PySem.W.dataLt_int, PySem.W.dataLt_str, S_list, S_list]
  have q1 : PyData.eqv (.int (a.length : Int)) (.int b.length) = decide (a.length = b.length) := by
    show ((a.length : Int) == (b.length : Int)) = _
    by_cases e : a.length = b.length
    · rw [decide_eq_true e, e]
      simp
    · rw [decide_eq_false e]
      simp
      omega
  have q2 : PyData.eqv (.str (S a)) (.str (S b)) = decide (a = b) := by
    show (S a == S b) = _
    by_cases e : a = b
    · rw [decide_eq_true e, e]
      simp
    · rw [decide_eq_false e]
      exact beq_eq_false_iff_ne.mpr fun z => e (S_inj z)
  rw [q1, q2]
  unfold K9.tlt
  by_cases e : a.length = b.length
  · rw [if_pos e, if_pos (decide_eq_true e)]
    by_cases e2 : a = b
    · subst e2
      rw [if_pos (decide_eq_true rfl)]
      exact (decide_eq_false (List.lt_irrefl a)).symm
    · rw [if_neg (by rw [decide_eq_false e2]; exact Bool.false_ne_true)]
  · rw [if_neg e, if_neg (by rw [decide_eq_false e]; exact Bool.false_ne_true)]
    by_cases l : a.length < b.length
    · rw [decide_eq_true l]
      exact decide_eq_true (by omega)
    · rw [decide_eq_false l]
      exact decide_eq_false (by omega)
theorem keyD_le {β : Type} (g : β → T) : PySem.W.dataLe false (fun b => keyD (g b)) = fun a b => K9.tle (g a) (g b) := by
  rw [PySem.W.dataLe_eq]
  funext a b
  show (!PySem.W.dataLt (keyD (g b)) (keyD (g a))) = K9.tle (g a) (g b)
  rw [keyD_lt]
  rfl
theorem up_merge {l : List T} (h : l.Nodup) : l.mergeSort K9.tle = K9.isort l := by
  have hp := List.mergeSort_perm l K9.tle
  have hs : (l.mergeSort K9.tle).Pairwise (fun a b => K9.tle a b = true) :=
    List.pairwise_mergeSort (le := K9.tle) (fun a b c h1 h2 => K9.tle_trans h1 h2) (fun a b => Bool.or_eq_true_iff.mpr (K9.tle_total a b)) l
  have hn : (l.mergeSort K9.tle).Nodup := hp.nodup_iff.mpr h
  refine K9.isort_of h ?_ fun x => hp.mem_iff
  have hb := List.pairwise_and_iff.mpr ⟨hs, hn⟩
  refine hb.imp fun {a b} q => ?_
  rcases K9.tle_cases q.1 with e | e
  · exact absurd e q.2
  · exact e
/-! ### sorted(xs, key=..) by the key: a list, a dict -/
section
variable {prog : Program} {w : World} {A : Around} {E : Value → Shared → Prop} {s : Shared}
abbrev IsT (u : Value) (x : T) : Prop := ∃ t, u = Value.str (S x) t
theorem alike_keys (xs : List T) : PySem.W.AllAlike (xs.map keyD) := PySem.W.AllAlike.of fun _ _ => by simp [keyD, PySem.W.alike, PySem.W.alikeAll]
theorem depth_key (x : T) : (keyD x).depth = 1 := by simp [keyD, PyData.depth, PyData.depthAll]
theorem each_vals : ∀ {us : List Value} {xs : List T}, PySem.W.EachIs IsT us xs → Vals (xs.map vS) us
  | _, _, .nil => .nil
  | _, _, .cons h t => .cons h (each_vals t)
theorem vals_each : ∀ {us : List Value} {xs : List T}, Vals (xs.map vS) us → PySem.W.EachIs IsT us xs
  | us, [], h => by
    cases h
    exact .nil
  | us, x :: xs, h => by
    cases h with
    | cons r t => exact .cons r (vals_each t)
/-- the sort itself: the items stand in us, a new list of them is sorted -/
theorem sortK_tail {f : Addr} {us : List Value} {xs : List T} {Q : Value → Shared → Prop} (e : PySem.W.EachIs IsT us xs) (hn : xs.Nodup) (hL : xs.length ≤ sizeLine) (hu : A.units + 2 < cLine)
    (turn : ∀ (v : Value) (x : T), IsT v x → x ∈ xs → ∀ (h : Heap) (tk : Nat), (∀ b o, s.heap.get? b = some o → h.get? b = some o) → wpAny (model prog w) A.in1 (call (.ref f) [v]) (PySem.W.KeyPure (keyD x) { s with heap := h, toks := tk }) (fun _ _ => False) { s with heap := h, toks := tk })
    (h : ∀ p out c h' tk, s.heap.objs.size ≤ p → (∀ b o, s.heap.get? b = some o → h'.get? b = some o) → h'.get? p = some (seqObj "list" (List.toArray out) c) → PySem.W.EachIs IsT out (K9.isort xs) → Q (.ref p) { s with heap := h', toks := tk }) :
    wpAny (model prog w) A (do let l ← newList us; let _ ← holding [l] (call (.builtin "list.sort") [l] [(Str.ofString "key", .ref f)]); ret l) (fun fin s' => ∃ v, fin = .done (.ret v) ∧ Q v s') E s := by
  refine wpAny_bind (wpAny_newList ?_ (by rw [e.length]; exact hL))
  have ho : (s.heap.push (seqObj "list" us.toArray 0)).get? s.heap.objs.size = some (seqObj "list" us.toArray 0) := Heap.get?_push_size _ rfl
  show wpAny _ _ _ _ _ { s with heap := s.heap.push (seqObj "list" us.toArray 0) }
  have up : ∀ {g : Heap}, PySem.W.KeepsBut s.heap.objs.size (s.heap.push (seqObj "list" us.toArray 0)) g → ∀ b o, s.heap.get? b = some o → g.get? b = some o := fun {g} kp b o q =>
    kp b o (Nat.ne_of_lt (Heap.lt_size q)) (Heap.get?_push_of_some _ q)
  refine wpAny_bind (wpAny_holding (PyProof.Rows.wpAny_call_entry_kw PyProof.Rows.slot_list_sort ⟨_, ho, rfl⟩ PyProof.Rows.entry_list_sort ?body (PyProof.Rows.ksk_l1 _ _)))
  case body =>
    rw [PyProof.Rows.ksk_t1]
    refine PySem.W.keyH_tree (kz := xs.map keyD) (s := { s with heap := s.heap.push (seqObj "list" us.toArray 0) }) ho (by rw [List.length_map]; exact e.length.symm) (by rw [e.length]; exact hL) (alike_keys xs) (PySem.W.Sortable.tuples fun _ => ⟨_, _, rfl⟩)
      (fun d hd => ?_) (PySem.W.keyH_turns (s := { s with heap := s.heap.push (seqObj "list" us.toArray 0) }) e fun v x hR hx g tk kp => turn v x hR hx g tk (up kp)) fun h' tk out c kp hD ko => ⟨.none, rfl, ?_⟩
    · obtain ⟨x, _, rfl⟩ := List.mem_map.mp hd
      rw [depth_key]
      show A.units + 1 + 1 < cLine
      exact hu
    · refine wpAny_pure ⟨_, rfl, ?_⟩
      have q := PySem.W.keyedOut_each keyD ko e
      have e1 : PySem.W.dataLe false keyD = K9.tle := keyD_le (β := T) id
      rw [e1, up_merge hn] at q
      exact h _ out c h' tk (Nat.le_refl _) (up kp) hD q
end
/-! ### the rule -/
def kvT (xs : List T) : List (Key × V) := xs.map fun x => (Sum.inr (S x), V.bl true)
def tSortLam (Tb : List (Addr × Str)) (K : PySem.W.Frag) (te : TE) : TE := fun σ H Q => te σ H fun v H1 => ∃ (a : Addr) (xs : List T), v = .ref a ∧ xs.Nodup ∧ xs.length ≤ 1000000 ∧ (∀ x ∈ xs, x.length ≤ 1000) ∧ LamX.Tabs Tb H1 ∧
  (SqL K H1 a (xs.map vS) ∨ H1 a = some (.dK (kvT xs))) ∧ ∀ H2 p, LamX.ExtN H1 H2 → LamX.Tabs Tb H2 → H2 p = none → Q (.ref p) (upd H2 p (.lst ((K9.isort xs).map vS)))
theorem extN_lst {K : PySem.W.Frag} {H H' : Hp} {a : Addr} {xs : List V} (e : LamX.ExtN H H') (h : SqL K H a xs) : SqL K H' a xs := by
  rcases h with (h | ⟨o, h⟩) | h
  · exact .inl (.inl (e _ _ h fun _ z => nomatch z))
  · exact .inl (.inr ⟨o, e _ _ h fun _ z => nomatch z⟩)
  · exact .inr h
theorem each_keysT {prog : Program} {w : World} : ∀ {xs : List T} {vs : List (Key × Value)} {us : List Value}, KV (kvT xs) vs → us.length = xs.length →
    (∀ (j : Nat) (v : Value), us[j]? = some v → ∃ k x, vs[j]? = some (k, x) ∧ (mixKind prog w).is k v = true) → PySem.W.EachIs IsT us xs
  | [], _, [], _, _, _ => .nil
  | [], _, _ :: _, _, h, _ => by simp at h
  | _ :: _, _, [], _, h, _ => by simp at h
  | x :: xs, vs, u :: us, r, h, g => by
    cases r with
    | @cons p q l1 l2 r1 rr =>
      obtain ⟨k, y, e1, e2⟩ := g 0 u rfl
      have e3 : q = (k, y) := Option.some.inj e1
      subst e3
      have e4 : Sum.inr (S x) = k := r1.1
      subst e4
      obtain ⟨t, ev⟩ := Value.isStrOf_shape (x := S x) (v := u) e2
      exact .cons ⟨t, ev⟩ (each_keysT rr (by simpa using h) fun j v e => by
        obtain ⟨k2, x2, a, b⟩ := g (j + 1) v (by simpa using e)
        exact ⟨k2, x2, by simpa using a, b⟩)
theorem pe_sortLam {X : Cx} {Tb : List (Addr × Str)} {c P : Addr} {nm : Str} {e : Expr} {te : TE} {k : Nat} {p p0 p1 p2 p3 p4 p5 lp kp pos : Pos} (he : PE X e te) (hc : X.calm = true) (hr : Room 1 X.A) (hg : Gl X "sorted") (hm : X.mg "sorted" = none) (hml : X.mg "len" = none)
    (TB : LamX.TabB X.base X.mg c P) (hcode : X.env.code = .ref c) (hmT : (P, X.env.qual ++ "<lambda>") ∈ Tb) (hu : ∀ q ∈ Tb, q.1 = P → q.2 = X.env.qual ++ "<lambda>")
    (hbind : ∀ (q : Str) (x : Str) (t : Tok) (pm cv ctv : Value), bindArgs (PySem.W.kla_fn "<lambda>" q (lamArgs nm p0) (lamBody nm k p1 p2 p3 p4 p5) (lamScope nm) [] pm cv ctv) ⟨[.str x t], []⟩ = pure [(nm, .str x t)])
    (hn1 : (nm == ("__debug__" : Str)) = false := by decide) (hn2 : (lamScope nm).names.lookup nm = some .local := by decide) (hn3 : (lamScope nm).names.lookup ("len" : Str) = some .globalImplicit := by decide)
    (hst : backTo pos (starEach [e] X.env) = (false, eval e X.env) :: backTo pos (starEach [] X.env) := by rfl) (hpl : (backTo pos (starEach [e] X.env)).any (·.1) = false := by rfl) :
    PE X (.Call (.Name "sorted" p) [e] [⟨some "key", .Lambda (lamArgs nm p0) (lamBody nm k p1 p2 p3 p4 p5) (lamScope nm) lp, kp⟩] pos) (tSortLam Tb X.K te) := by
  refine ⟨fun pins s σ H Q I h => ?_⟩
  refine wpAny_Call_Name_kw (ld_blt I hg hm (by decide +kernel : bootBuiltins "sorted" = some (.builtin "sorted")) ?_)
  refine PyProof.Rows.callWith_kw ?_ hst hpl rfl rfl
  rw [hst]
  refine Calls.spliced_cons (thn (he.run pins s σ H _ I h) fun u s1 ⟨v, H1, I1, r1, q1⟩ => Calls.spliced_nil ?_)
  obtain ⟨a, xs, rfl, hn, hL, hl, hT, hA, q⟩ := q1
  cases r1
  refine PyProof.Rows.kws_cons (LamX.lam_make2 I1 TB hcode hmT hu hT rfl (fun y hy z => ?_) fun f c' pm ctv H2 s2 I2 eN T2 hf hfn hfr hco => PyProof.Rows.kws_nil ?_)
  · have two : y = (nm, NameKind.local) ∨ y = (("len" : Str), NameKind.globalImplicit) := by simpa [lamScope] using hy
    rcases two with e | e <;> (rw [e] at z; exact nomatch z)
  have ecl : cloFrom X.env.cells (lamScope nm).names [] = [] := rfl
  rw [ecl] at hf
  show wpAny _ _ (call (.builtin "sorted") [.ref a] [(Str.ofString "key", .ref f)]) _ _ s2
  have hz : (1000000 : Nat) ≤ sizeLine := by decide
  obtain ⟨mb, hB, hmb⟩ := I2.mod.blt
  have turn : ∀ (g : Heap) (tk0 : Nat), (∀ b o, s2.heap.get? b = some o → g.get? b = some o) → ∀ (v : Value) (x : T), IsT v x → x ∈ xs → ∀ (h : Heap) (tk : Nat), (∀ b o, g.get? b = some o → h.get? b = some o) →
      wpAny (model X.prog X.w) X.A.in1.in1 (call (.ref f) [v]) (PySem.W.KeyPure (keyD x) { s2 with heap := h, toks := tk }) (fun _ _ => False) { s2 with heap := h, toks := tk } := by
    intro g tk0 kg v x hv hx h tk kp
    obtain ⟨t, rfl⟩ := hv
    have kk : ∀ b o, s2.heap.get? b = some o → h.get? b = some o := fun b o e => kp b o (kg b o e)
    obtain ⟨⟨oc, vs, t1, hoc, hdc, hvc⟩, _, _⟩ := I2.hok c' _ hco
    refine lam_key (s := { s2 with heap := h, toks := tk }) (mg := X.mg) (mb := mb) (kk _ _ hf) ⟨oc, vs, t1, kk _ _ hoc, hdc, hvc⟩ hr.depth ((I2.mod.glob.keeps I2.bk).keeps kk) hml ((hB.keeps I2.bk).keeps kk) ((hmb "len" (by decide)).trans PySem.boot_len) (I2.nolimit.keeps kk) (hl x hx) (hbind _ _ _ _ _ _) hn1 hn2 hn3
  have fin : ∀ (g : Heap) (tk0 : Nat), (∀ b o, s2.heap.get? b = some o → g.get? b = some o) → ∀ (p : Addr) (out : List Value) (c : Nat) (h' : Heap) (tk : Nat), g.objs.size ≤ p → (∀ b o, g.get? b = some o → h'.get? b = some o) → h'.get? p = some (seqObj "list" (List.toArray out) c) → PySem.W.EachIs IsT out (K9.isort xs) →
      EP X pins σ Q (.ref p) { s2 with heap := h', toks := tk } := by
    intro g tk0 kg p out c h' tk hp kp ho eo
    have Ig : Inv X pins σ H2 { s2 with heap := g, toks := tk0 } := I2.kept kg
    have hlen : ((K9.isort xs).map vS).length ≤ sizeLine := by
      rw [List.length_map, K9.isort_len]
      omega
    exact ⟨.ref p, _, Ig.laid (t' := tk) (o := .lst ((K9.isort xs).map vS)) kp hp ⟨hlen, out, c, each_vals eo, ho⟩, rfl, q H2 p eN T2 (Ig.hok.fresh hp)⟩
  have hun : X.A.in1.units + 2 < cLine := by
    have q := hr.un
    show X.A.units + 1 + 2 < cLine
    omega
  refine PyProof.Rows.call_function_entry_kw PyProof.Rows.kind_sorted PyProof.Rows.plain_sorted PyProof.Rows.entry_sorted (PyProof.Rows.ksk_s1 _ _) ?_
  unfold Builtin.«sorted»
  refine wpAny_bind (m := checkCount "sorted" 1 1 _) (wpAny_pure ?_)
  rcases hA with hA | hA
  · obtain ⟨its, rv, pl, hzl⟩ := I2.list (extN_lst eN hA)
    have ei := vals_each rv
    refine wpAny_bind (PyProof.Rows.collect_list pl.isList ?_ (by rw [ei.length]; omega))
    have kg : ∀ b o, s2.heap.get? b = some o → ((s2.heap.push (seqObj "list" #[] 0)).update s2.heap.objs.size (Obj.mapSeq (· ++ its.toArray))).get? b = some o := fun b o e => by
      have lt := Heap.lt_size e
      rw [Heap.get?_update_ne _ _ _ _ (Nat.ne_of_lt lt), Heap.get?_push_ne _ _ _ (Nat.ne_of_lt lt)]
      exact e
    exact sortK_tail ei hn (by omega) hun (turn _ s2.toks kg) fun p out c h' tk hp kp ho eo => fin _ s2.toks kg p out c h' tk hp kp ho eo
  · obtain ⟨z, lo, vs, rel, dd⟩ := dk_rd I2.hok (.inl (eN _ _ hA fun _ z => nomatch z))
    obtain ⟨ep, hat⟩ := dd.dictAt
    have hlen : vs.length = xs.length := by
      rw [← rel.length]
      unfold kvT
      rw [List.length_map]
    refine wpAny_bind (PySem.W.kdu_collect (A := X.A.in1) (PySem.W.kdl_dict (knd := mixKind X.prog X.w) (kvs := vs) (ep := ep) lo) (I2.ok.hd hc) hat (by omega) fun h' tk acc hk hacc => ?_)
    have ei : PySem.W.EachIs IsT acc.toList xs := each_keysT rel (by rw [Array.length_toList, hacc.1, hlen]) fun j v e => hacc.2 j v (by rw [← Array.getElem?_toList]; exact e)
    exact sortK_tail (s := { s2 with heap := h', toks := tk }) ei hn (by omega) hun (turn h' tk hk) fun p out c h2 tk2 hp kp ho eo => fin h' tk hk p out c h2 tk2 hp kp ho eo
end K9R
end

section
set_option Elab.async false
set_option linter.all false
set_option maxRecDepth 100000
set_option maxHeartbeats 4000000
/-! sorted of pairs (len(text), text) -/
namespace K9R
open PySem PySem.Spec PyProof.Rows L2
def PairAt (H : Hp) (r : V) (x : T) : Prop := ∃ t, r = .ref t ∧ H t = some (.tup [.int (x.length : Nat), vS x])
def rSortedLT (K : PySem.W.Frag) : List V → Hp → VK → Prop := fun vs H Q => ∃ (a : Addr) (rs : List V) (xs : List T), vs = [V.ref a] ∧ SqL K H a rs ∧ Paired (PairAt H) rs xs ∧ xs.Nodup ∧ xs.length ≤ 1000 ∧
  ∀ (rs' : List V) (p : Addr), Paired (PairAt H) rs' (K9.isort xs) → H p = none → Q (.ref p) (upd H p (.lst rs'))
theorem pairs_each {X : Cx} {pins : List (Addr × Obj)} {σ : L2.St} {H : Hp} {s : Shared} (I : Inv X pins σ H s) : ∀ {rs : List V} {us : List Value} {xs : List T}, Vals rs us → Paired (PairAt H) rs xs →
    PySem.W.EachIs (fun (u : Value) (b : V × T) => RelV b.1 u ∧ PairAt H b.1 b.2) us (rs.zip xs)
  | _, _, _, .nil, .nil => .nil
  | _, _, _, .cons r t, .cons q t2 => .cons ⟨r, q⟩ (pairs_each I t t2)
theorem each_pairs {H : Hp} : ∀ {us : List Value} {bs : List (V × T)}, PySem.W.EachIs (fun (u : Value) (b : V × T) => RelV b.1 u ∧ PairAt H b.1 b.2) us bs → Vals (bs.map (·.1)) us ∧ Paired (PairAt H) (bs.map (·.1)) (bs.map (·.2))
  | _, _, .nil => ⟨.nil, .nil⟩
  | _, _, .cons h t => ⟨.cons h.1 (each_pairs t).1, .cons h.2 (each_pairs t).2⟩
theorem zip_snd : ∀ {rs : List V} {xs : List T} {R : V → T → Prop}, Paired R rs xs → (rs.zip xs).map (·.2) = xs
  | _, _, _, .nil => rfl
  | _, _, _, .cons _ t => by
    rw [List.zip_cons_cons, List.map_cons, zip_snd t]
theorem cr_sortedLT {X : Cx} (hu : X.A.units + 64 < cLine) : CallR X (.builtin "sorted") (rSortedLT X.K) := by
  intro pins s σ H vs us Q I r h
  obtain ⟨a, rs, xs, rfl, hs, hp, hn, hL, q⟩ := h
  obtain ⟨its, rv, hl, hz⟩ := I.list hs
  rw [Vals.ref1 r]
  have e := pairs_each I rv hp
  have ez := zip_snd hp
  have elen : (rs.zip xs).length = xs.length := by rw [← List.length_map (f := (·.2)), ez]
  refine PySem.W.sorted_data (enc := fun b : V × T => keyD b.2) hl.isList e (e.mono fun u b q => ?_) (PySem.W.AllAlike.of fun _ _ => by simp [keyD, PySem.W.alike, PySem.W.alikeAll]) (PySem.W.Sortable.tuples fun _ => ⟨_, _, rfl⟩) (by rw [elen, sizeLine_eq]; omega) (fun b _ => ?_) fun out hlen eo => ?_
  · obtain ⟨r1, t, e1, e2⟩ := q
    obtain ⟨v, x⟩ := b
    simp only at e1 e2 r1
    subst e1
    cases r1
    obtain ⟨_, it2, rv2, o, h1, h2, n, h3⟩ := I.hok t _ e2
    cases rv2 with
    | cons q1 q2 =>
      cases q2 with
      | cons q2 q3 =>
        cases q3
        obtain ⟨t1, rfl⟩ := q1
        obtain ⟨t2, rfl⟩ := q2
        exact ⟨[] ++ ([] ++ []), .tuple h1 h2 h3 (.cons (.int _ _) (.cons (.str _ _) .nil))⟩
  · rw [depth_key]
    show X.A.units + 2 + 1 < cLine
    omega
  · have e1 : PySem.W.dataLe false (fun b : V × T => keyD b.2) = fun b c : V × T => K9.tle b.2 c.2 := keyD_le (β := V × T) (fun b => b.2)
    rw [e1] at eo
    obtain ⟨ov, op⟩ := each_pairs eo
    have em : ((rs.zip xs).mergeSort fun b c : V × T => K9.tle b.2 c.2).map (·.2) = K9.isort xs := by
      rw [PySem.W.sort_maps (s := K9.tle) (fun b : V × T => b.2) (fun _ _ _ _ => rfl), ez, up_merge hn]
    rw [em] at op
    obtain ⟨ep, he'⟩ := PyProof.Rows.sortedAll_at s.heap its (List.toArray out)
    have hlen2 : (((rs.zip xs).mergeSort fun b c : V × T => K9.tle b.2 c.2).map (·.1)).length ≤ sizeLine := by
      rw [List.length_map, List.length_mergeSort, elen, sizeLine_eq]
      omega
    exact ⟨.ref _, _, I.laid (t' := s.toks) (o := .lst (((rs.zip xs).mergeSort fun b c : V × T => K9.tle b.2 c.2).map (·.1))) (fun _ _ => PyProof.Rows.sortedAll_old) (Nat.le_succ _) ⟨hlen2, out, ep, ov, he'⟩, rfl, q _ _ op (I.hok.fresh (Nat.le_succ _))⟩
end K9R
end

section
set_option Elab.async false
set_option linter.all false
set_option maxRecDepth 100000
set_option maxHeartbeats 4000000
/-! the text's defs by places, what is kept, what stands where -/
namespace K9P
open PySem PySem.Spec PyProof.Rows L2 K9R
def topS (i : Nat) : Stmt := PySem.Challenge.pw_struckpieces_k09_whole_rests_known_by_ha.main.body.getD i (.Pass ⟨0, 0, 0, 0⟩)
abbrev sIsLog : Stmt := topS 7
abbrev sIsPiece : Stmt := topS 8
abbrev sBook : Stmt := inClass (topS 9) 0
abbrev sStrikes : Stmt := topS 11
abbrev sStruck : Stmt := topS 12
abbrev sAllLeft : Stmt := topS 14
abbrev sEnds : Stmt := topS 15
abbrev sMeeting : Stmt := topS 17
abbrev sMeetings : Stmt := topS 18
abbrev sOneRest : Stmt := topS 19
abbrev sHand : Stmt := topS 21
abbrev sDraw : Stmt := topS 22
abbrev sAny : Stmt := topS 23
abbrev sIs : Stmt := topS 24
abbrev sMixed : Stmt := topS 25
abbrev sShortest : Stmt := topS 26
abbrev sPowers : Stmt := topS 27
abbrev sOverlaps : Stmt := topS 28
abbrev sRounds : Stmt := topS 29
abbrev sLaw : Stmt := topS 30
/-! ### what is kept -/
section
variable (Tb : List (Addr × Str))
/-- all but what B names and the tables stands; the tables stay tables -/
structure Kp (B : Addr → Prop) (H H' : Hp) : Prop where
  get : ∀ b o, H b = some o → ¬ B b → (∀ ps, o ≠ .tbl ps) → H' b = some o
  tab : LamX.Tabs Tb H → LamX.Tabs Tb H'
abbrev K0 (H H' : Hp) : Prop := Kp Tb (fun _ => False) H H'
abbrev K1 (a : Addr) (H H' : Hp) : Prop := Kp Tb (fun b => b = a) H H'
end
def Soft : HO → Prop
  | .tbl _ => False
  | .ext _ => False
  | _ => True
section
variable {Tb : List (Addr × Str)} {B B' : Addr → Prop} {H H1 H2 : Hp} {a p : Addr} {o o' : HO} {K : PySem.W.Frag}
theorem Kp.refl : Kp Tb B H H := ⟨fun _ _ h _ _ => h, id⟩
theorem Kp.trans (x : Kp Tb B H H1) (y : Kp Tb B H1 H2) : Kp Tb B H H2 := ⟨fun b o h n z => y.get b o (x.get b o h n z) n z, fun t => y.tab (x.tab t)⟩
theorem Kp.mono (x : Kp Tb B H H1) (h : ∀ b, B b → B' b) : Kp Tb B' H H1 := ⟨fun b o e n z => x.get b o e (fun q => n (h b q)) z, x.tab⟩
theorem Kp.up (x : K0 Tb H H1) : Kp Tb B H H1 := x.mono fun _ z => z.elim
theorem Kp.ofN (e : LamX.ExtN H H1) (t : LamX.Tabs Tb H1) : Kp Tb B H H1 := ⟨fun b o h _ n => e b o h n, fun _ => t⟩
theorem Kp.new (h : H p = none) : Kp Tb B H (upd H p o) := ⟨fun b x e _ _ => by rw [upd_ne (ne_of_none e h)]; exact e, fun t => t.ext fun b x e => by rw [upd_ne (ne_of_none e h)]; exact e⟩
theorem tabs_set (h : H p = some o) (s : Soft o) (t : LamX.Tabs Tb H) : LamX.Tabs Tb (upd H p o') := fun q hq => by
  obtain ⟨ps, e1, e2, e3⟩ := t q hq
  have n1 : q.1 ≠ p := fun z => by
    rw [z, h] at e1
    cases e1
    exact s
  refine ⟨ps, by rw [upd_ne n1]; exact e1, e2, fun pos cv hc => ?_⟩
  obtain ⟨c, r1, r2⟩ := e3 pos cv hc
  have n2 : c ≠ p := fun z => by
    rw [z, h] at r2
    unfold LamX.CodeO at r2
    cases r2
    exact s
  exact ⟨c, r1, by rw [upd_ne n2]; exact r2⟩
theorem Kp.set (x : Kp Tb B H H1) (h0 : H p = none ∨ B p) (h : H1 p = some o) (s : Soft o) : Kp Tb B H (upd H1 p o') := ⟨fun b u e n z => by
    have hb : b ≠ p := fun q => by
      rw [q] at e n
      rcases h0 with r | r
      · rw [r] at e
        cases e
      · exact n r
    rw [upd_ne hb]
    exact x.get b u e n z, fun t => tabs_set h s (x.tab t)⟩
/-- put back what stood -/
theorem Kp.back (x : Kp Tb (fun b => B b ∨ b = p) H H1) (h0 : H p = some o') (h : H1 p = some o) (s : Soft o) : Kp Tb B H (upd H1 p o') := ⟨fun b u e n z => by
    by_cases hb : b = p
    · subst hb
      rw [upd_same, ← e, h0]
    · rw [upd_ne hb]
      exact x.get b u e (fun q => q.elim n hb) z, fun t => tabs_set h s (x.tab t)⟩
theorem Kp.fresh (x : K0 Tb H H1) (h : H1 p = none) : H p = none ∨ ∃ ps, H p = some (.tbl ps) := by
  cases q : H p with
  | none => exact .inl rfl
  | some o =>
    by_cases z : ∃ ps, o = .tbl ps
    · obtain ⟨ps, rfl⟩ := z
      exact .inr ⟨ps, rfl⟩
    · have := x.get p o q (fun z => z) fun ps e => z ⟨ps, e⟩
      rw [h] at this
      cases this
theorem Kp.lst {xs : List V} (x : Kp Tb B H H1) (h : H a = some (.lst xs)) (n : ¬ B a) : H1 a = some (.lst xs) := x.get _ _ h n fun _ z => nomatch z
theorem Kp.tup {xs : List V} (x : Kp Tb B H H1) (h : H a = some (.tup xs)) (n : ¬ B a) : H1 a = some (.tup xs) := x.get _ _ h n fun _ z => nomatch z
theorem Kp.dic {xs : List (Key × V)} (x : Kp Tb B H H1) (h : H a = some (.dK xs)) (n : ¬ B a) : H1 a = some (.dK xs) := x.get _ _ h n fun _ z => nomatch z
theorem Kp.ins {C dx : Addr} {fs : List (Str × V)} (x : Kp Tb B H H1) (h : H a = some (.ins C dx fs)) (n : ¬ B a) : H1 a = some (.ins C dx fs) := x.get _ _ h n fun _ z => nomatch z
theorem Kp.sqL {xs : List V} (x : Kp Tb B H H1) (h : SqL K H a xs) (n : ¬ B a) : SqL K H1 a xs := by
  rcases h with (h | ⟨o, h⟩) | h
  · exact .inl (.inl (x.lst h n))
  · exact .inl (.inr ⟨o, x.get _ _ h n fun _ z => nomatch z⟩)
  · exact .inr h
theorem Kp.sqT {xs : List V} (x : Kp Tb B H H1) (h : SqT K H a xs) (n : ¬ B a) : SqT K H1 a xs := by
  rcases h with (h | ⟨o, h⟩) | h
  · exact .inl (.inl (x.tup h n))
  · exact .inl (.inr ⟨o, x.get _ _ h n fun _ z => nomatch z⟩)
  · exact .inr h
end
/-! ### what stands where -/
def isLet (c : Nat) : Bool := decide (97 ≤ c) && decide (c ≤ 104)
def OkP (p : T) : Prop := 1 ≤ p.length ∧ p.length ≤ 8 ∧ ∀ c ∈ p, isLet c = true
def OkB (ps : List T) : Prop := 1 ≤ ps.length ∧ ps.length ≤ 12 ∧ ps.Nodup ∧ ∀ p ∈ ps, OkP p
def BookAt (K : PySem.W.Frag) (C : Addr) (H : Hp) (b : Addr) (ps : List T) : Prop := ∃ dx t, H b = some (.ins C dx [("pieces", .ref t)]) ∧ SqT K H t (ps.map vS)
theorem BookAt.keep {Tb : List (Addr × Str)} {K : PySem.W.Frag} {C b : Addr} {H H1 : Hp} {ps : List T} (x : K0 Tb H H1) (h : BookAt K C H b ps) : BookAt K C H1 b ps := by
  obtain ⟨dx, t, h1, h2⟩ := h
  exact ⟨dx, t, x.ins h1 id, x.sqT h2 id⟩
def StAt (H : Hp) (r : V) (s : Nat × Nat) : Prop := ∃ t, r = .ref t ∧ H t = some (.tup [.int (s.1 : Nat), .int (s.2 : Nat)])
def ResAt (H : Hp) (v : V) : Option (T × T × T) → Prop
  | none => v = .non
  | some (a, b, c) => ∃ t, v = .ref t ∧ H t = some (.tup [vS a, vS b, vS c])
/-- a def that makes a lambda: its code object is told -/
structure FunC (K : PySem.W.Frag) (x qual : Str) (st : Stmt) (f : Addr) (fd : FuncData) (c : Addr) : Prop where
  ex : ∃ (oc : Value) (od : Option Addr) (kV doc pm : Value) (an : Option Addr) (ct : Value) (osl : Array (Option Value)),
    fd = PySem.W.fnOf x qual (defArgs st) (defBody st) (defScope st) .none kV doc pm an (.ref c) ct ∧ K.lookup f = some ⟨oc, od, .func fd, osl⟩ ∧ PySem.W.codeIn K (.ref c) qual = true
  kp : PySem.W.keepIn K (.ref f) = true
theorem FunC.fun {K : PySem.W.Frag} {x qual : Str} {st : Stmt} {f : Addr} {fd : FuncData} {c : Addr} (F : FunC K x qual st f fd c) : Fun K x qual st f fd := by
  obtain ⟨oc, od, kV, doc, pm, an, ct, osl, h⟩ := F.ex
  exact ⟨⟨oc, od, kV, doc, pm, an, _, ct, osl, h⟩, F.kp⟩
theorem FunC.ok {P : Program} {w : World} {K : PySem.W.Frag} {mg : Str → Option Value} {base : Heap} {x qual : Str} {st : Stmt} {f c : Addr} {fd : FuncData} {N ps : List Str} {k : Nat} {sp : Sp} (F : FunC K x qual st f fd c) (S : FnScope N ps (defScope st)) (len : ∀ vs H Q E, sp vs H Q E → vs.length = ps.length)
    (hbody : ∀ (A : Around) (outer : List Env) (s : Shared) (H : Hp) (vs : List V) (Q : VK) (E : XK), Room k (A.deeper (envOfC qual (defScope st) s.heap.objs.size f (.ref c))) → sp vs H Q E →
      ∃ t, PSs (cxOf CX0 P w K mg base N qual (defScope st) f (.ref c) A outer s H E).nox (defBody st) t ∧ t { nx := fun _ H' => Q .non H', rt := Q } (start N vs) H) : FnOk P w K mg base CX0 (k + 1) f fd ps sp := by
  obtain ⟨oc, od, kV, doc, pm, an, ct, osl, rfl, lk, hcd⟩ := F.ex
  refine fn_of lk hcd S len fun A outer s H vs Q E hr hsp => ?_
  obtain ⟨t, h, q⟩ := hbody A outer s H vs Q E hr hsp
  exact ⟨t, h.nox, q⟩
/-- the built-ins' names are free -/
structure Bl (mg : Str → Option Value) : Prop where
  isi : mg "isinstance" = none
  str : mg "str" = none
  all : mg "all" = none
  len : mg "len" = none
  tuple : mg "tuple" = none
  enum : mg "enumerate" = none
  range : mg "range" = none
  sorted : mg "sorted" = none
  int : mg "int" = none
  abs : mg "abs" = none
  list : mg "list" = none
  zip : mg "zip" = none
  bool : mg "bool" = none
theorem paired_mono {α β : Type} {F G : α → β → Prop} {l : List α} {m : List β} (h : Paired F l m) (f : ∀ a b, F a b → G a b) : Paired G l m := Paired.mapP h f
theorem paired_snoc {α β : Type} {F : α → β → Prop} {x : α} {y : β} (hxy : F x y) : ∀ {l : List α} {m : List β}, Paired F l m → Paired F (l ++ [x]) (m ++ [y])
  | _, _, .nil => .cons hxy .nil
  | _, _, .cons h t => .cons h (paired_snoc hxy t)
theorem paired_app {α β : Type} {F : α → β → Prop} {l2 : List α} {m2 : List β} (h2 : Paired F l2 m2) : ∀ {l : List α} {m : List β}, Paired F l m → Paired F (l ++ l2) (m ++ m2)
  | _, _, .nil => h2
  | _, _, .cons h t => .cons h (paired_app h2 t)
end K9P
end

section
set_option Elab.async false
set_option linter.all false
set_option maxRecDepth 100000
set_option maxHeartbeats 4000000
/-! is_log, is_piece, Book.__init__ -/
namespace K9P
open PySem PySem.Spec PyProof.Rows L2 K9R
abbrev letT : T := [97, 98, 99, 100, 101, 102, 103, 104]
theorem isLet_mem {c : Nat} (h : isLet c = true) : c ∈ letT := by
  unfold isLet at h
  have h1 := Bool.and_eq_true_iff.mp h
  have a := of_decide_eq_true h1.1
  have b := of_decide_eq_true h1.2
  have e : c = 97 ∨ c = 98 ∨ c = 99 ∨ c = 100 ∨ c = 101 ∨ c = 102 ∨ c = 103 ∨ c = 104 := by omega
  rcases e with e | e | e | e | e | e | e | e <;> (rw [e]; decide)
theorem map_at {α : Type} {g : α → V} {l : List α} {i : Nat} {b : V} (h : (l.map g)[i]? = some b) : ∃ p, l[i]? = some p ∧ b = g p := by
  rw [List.getElem?_map] at h
  cases e : l[i]? with
  | none =>
    rw [e] at h
    cases h
  | some p =>
    rw [e] at h
    exact ⟨p, rfl, (Option.some.inj h).symm⟩
theorem yp_map {ps : List T} {i : Nat} {H H' : Hp} {v : V} (y : YPair (fun i => some (.int (i : Nat))) (fun i => (ps.map vS)[i]?) i H v H') : ∃ t p, v = .ref t ∧ H t = none ∧ H' = upd H t (.tup [.int (i : Nat), vS p]) ∧ ps[i]? = some p := by
  obtain ⟨t, a, b, e1, e2, e3, ea, eb⟩ := y
  obtain ⟨p, ep, rfl⟩ := map_at eb
  have ea2 : V.int (i : Nat) = a := Option.some.inj ea
  subst ea2
  exact ⟨t, p, e1, e2, e3, ep⟩
abbrev nIsLog : List Str := ["thing", "sign"]
theorem scIsLog : FnScope nIsLog ["thing"] (defScope sIsLog) := ⟨rfl, rfl, rfl, by decide +kernel, rfl, by decide +kernel, by decide +kernel⟩
abbrev nIsPiece : List Str := ["thing"]
theorem scIsPiece : FnScope nIsPiece ["thing"] (defScope sIsPiece) := ⟨rfl, rfl, rfl, by decide +kernel, rfl, by decide +kernel, by decide +kernel⟩
section
variable {P : Program} {w : World} {K : PySem.W.Frag} {mg : Str → Option Value} {base : Heap} {Tb : List (Addr × Str)}
def spIsLog (Tb : List (Addr × Str)) : Sp := fun vs H Q _ => ∃ l : T, vs = [vS l] ∧ l.length ≤ 1000 ∧ (∀ c ∈ l, isLet c = true) ∧ ∀ H', K0 Tb H H' → Q (.bl true) H'
theorem ok_isLog {f : Addr} {fd : FuncData} (F : Fun K "is_log" "is_log" sIsLog f fd) (B : Bl mg) (gLet : ∃ t, mg "LETTERS" = some (.str (S letT) t)) : FnOk P w K mg base CX0 1 f fd ["thing"] (spIsLog Tb) := by
  refine F.ok scIsLog (fun vs H Q E h => ?_) (fun cdv A outer s H vs Q E hr h => ?_)
  · obtain ⟨l, rfl, _⟩ := h
    rfl
  obtain ⟨l, rfl, hl, ha, q⟩ := h
  obtain ⟨t, gL⟩ := gLet
  refine ⟨_, pss_one (ps_ret (pe_and (pe_callB call_isi (by rfl) B.isi (by decide +kernel) (pa_cons (pv 0) (pa_cons (pe_bltn (v := .ty "str") (by rfl) B.str (by decide +kernel) rfl) pa_nil)))
    (pe_one (pe_callB (cr_all rfl) (by rfl) B.all (by decide +kernel) (pa_cons
      (pe_lc (own := [("sign", 1)]) (g := gName 1) (tt := tYes) rfl scIsLog.nd (pi_str (pv 0)) (blkOk_by (N := nIsLog) (sc := defScope sIsLog) (by decide +kernel))
        (fun _ _ _ _ _ => pg_name (i := 1) scIsLog.nd rfl (Or.inl rfl)) (fun _ _ _ _ _ => pts_nil)
        (fun _ _ _ _ _ => pe_cmpR op_in_sign (pv 1) (pe_glob (v := vS letT) (by rfl) gL ⟨_, rfl⟩) (by rfl))) pa_nil))))), ?_⟩
  refine ⟨_, rfl, _, _, _, _, true, rfl, .ty "str", .base (.str _), kit_ty (by decide +kernel), true, rfl, iteT ?_⟩
  refine ⟨_, rfl, S l, rfl, fun D nD => ?_⟩
  refine lc_it walk_str (fun i H' => H' = upd H D (.lst (List.replicate i (.bl true)))) rfl (fun _ _ _ _ => trivial) (fun i x H1 H2 hi e y => ?_) (fun H1 e => ?_)
  · subst e
    obtain ⟨rfl, c, hc, rfl⟩ := y
    have hm : c ∈ l := by
      have h2 : l[i]? = some c := by simpa [S] using hc
      exact List.mem_of_getElem? h2
    have hin : decide (c ∈ (S letT).cps.toList) = true := by
      rw [S_list]
      exact decide_eq_true (isLet_mem (ha c hm))
    refine ⟨rfl, _, rfl, c, S letT, rfl, rfl, _, upd_same, ?_, ?_⟩
    · rw [List.length_replicate]
      have h2 : i < l.length := by simpa [S] using hi
      rw [sizeLine_eq]
      omega
    · rw [hin, upd_upd, ← List.replicate_succ']
  · subst e
    refine ⟨D, List.replicate (S l).cps.size true, rfl, SqL.of (by rw [upd_same, List.map_replicate]), ?_⟩
    have e : (List.replicate (S l).cps.size true).all id = true := List.all_eq_true.mpr fun b hb => by
      rw [(List.mem_replicate.mp hb).2]
      rfl
    rw [e]
    exact q _ (Kp.new nD)
def spIsPiece (Tb : List (Addr × Str)) : Sp := fun vs H Q _ => ∃ l : T, vs = [vS l] ∧ OkP l ∧ ∀ H', K0 Tb H H' → Q (.bl true) H'
theorem ok_isPiece {f fL : Addr} {fd fdL : FuncData} (F : Fun K "is_piece" "is_piece" sIsPiece f fd) (FL : Fun K "is_log" "is_log" sIsLog fL fdL) (bL : Binds K fdL ["thing"] []) (gL : mg "is_log" = some (.ref fL)) (B : Bl mg) (gLet : ∃ t, mg "LETTERS" = some (.str (S letT) t))
    (gM : ∃ t, mg "MOST_LONG" = some (.int 8 t)) : FnOk P w K mg base CX0 2 f fd ["thing"] (spIsPiece Tb) := by
  have GL : FnOk P w K mg base CX0 1 fL fdL ["thing"] (spIsLog Tb) := ok_isLog FL B gLet
  refine F.ok scIsPiece (fun vs H Q E h => ?_) (fun cdv A outer s H vs Q E hr h => ?_)
  · obtain ⟨l, rfl, _⟩ := h
    rfl
  obtain ⟨l, rfl, ⟨h1, h8, ha⟩, q⟩ := h
  obtain ⟨t, gM⟩ := gM
  refine ⟨_, pss_one (ps_ret (pe_and (pe_call GL hr (by rfl) gL FL.kp bL .nil pass0 (pa_cons (pv 0) pa_nil))
    (pe_one (pe_chain op_le op_le pe_int (pe_callB call_len_str (by rfl) B.len PySem.boot_len (pa_cons (pv 0) pa_nil)) (pe_glob (v := .int 8) (by rfl) gM ⟨_, rfl⟩))))), ?_⟩
  refine ⟨_, rfl, l, rfl, by omega, ha, fun H' k => ⟨true, rfl, iteT ?_⟩⟩
  refine ⟨_, rfl, S l, rfl, by rw [S_len, sizeLine_eq]; omega, 1, _, rfl, rfl, _, rfl, ?_⟩
  have e1 : decide ((1 : Int) ≤ ((S l).length : Int)) = true := decide_eq_true (by rw [S_len]; omega)
  rw [e1]
  refine iteT ⟨_, 8, rfl, rfl, ?_⟩
  have e2 : decide (((S l).length : Int) ≤ 8) = true := decide_eq_true (by rw [S_len]; omega)
  show Q (.bl (decide (((S l).length : Int) ≤ 8))) H'
  rw [e2]
  exact q H' k
abbrev nBook : List Str := ["self", "pieces", "number", "piece"]
theorem scBook : FnScope nBook ["self", "pieces"] (defScope sBook) := ⟨rfl, rfl, rfl, by decide +kernel, rfl, by decide +kernel, by decide +kernel⟩
theorem notIn_take {ps : List T} (hn : ps.Nodup) {i : Nat} {p : T} (h : ps[i]? = some p) : inV (vS p) ((ps.map vS).take i) = false := by
  unfold inV
  rw [List.any_eq_false]
  intro y hy
  rw [← List.map_take] at hy
  obtain ⟨z, hz, rfl⟩ := List.mem_map.mp hy
  show ¬ (S z == S p) = true
  intro e
  have e2 : z = p := S_inj (beq_iff_eq.mp e)
  subst e2
  obtain ⟨j, hj⟩ := List.getElem?_of_mem hz
  have hj2 : j < i := by
    have q := (List.getElem?_eq_some_iff.mp hj).1
    rw [List.length_take] at q
    omega
  rw [List.getElem?_take_of_lt hj2] at hj
  exact absurd (nd_ix hn hj h) (by omega)
def spBook (K : PySem.W.Frag) (Tb : List (Addr × Str)) (C : Addr) : Sp := fun vs H Q _ => ∃ (x t dx : Addr) (ps : List T), vs = [.ref x, .ref t] ∧ H x = some (.ins C dx []) ∧ SqT K H t (ps.map vS) ∧ OkB ps ∧
  ∀ H', H' x = some (.ins C dx [("pieces", .ref t)]) → K1 Tb x H H' → Q .non H'
theorem ok_book {f fP C : Addr} {fd fdP : FuncData} (F : Fun K "__init__" "Book.__init__" sBook f fd) (B : Bl mg) (GP : FnOk P w K mg base CX0 2 fP fdP ["thing"] (spIsPiece Tb)) (kpP : PySem.W.keepIn K (.ref fP) = true) (bP : Binds K fdP ["thing"] []) (gP : mg "is_piece" = some (.ref fP))
    (gM : ∃ t, mg "MOST_PIECES" = some (.int 12 t)) (cl : Cls K C) (na : NoAttr K C "pieces") : FnOk P w K mg base CX0 3 f fd ["self", "pieces"] (spBook K Tb C) := by
  refine F.ok scBook (fun vs H Q E h => ?_) (fun cdv A outer s H vs Q E hr h => ?_)
  · obtain ⟨x, t, dx, ps, rfl, _⟩ := h
    rfl
  obtain ⟨x, t, dx, ps, rfl, hx, hT, ⟨h1, h12, hn, hp⟩, q⟩ := h
  obtain ⟨tk, gM⟩ := gM
  refine ⟨_, pss_cons (ps_if (PW.pt (pw_or (pt_not (pt_val (pe_callB call_isi (by rfl) B.isi (by decide +kernel) (pa_cons (pv 1) (pa_cons (pe_bltn (v := .ty "tuple") (by rfl) B.tuple (by decide +kernel) rfl) pa_nil)))))
      (pw_or1 (pt_not (pt_chain op_le op_le pe_int (pe_callB call_len_seq (by rfl) B.len PySem.boot_len (pa_cons (pv 1) pa_nil)) (pe_glob (v := .int 12) (by rfl) gM ⟨_, rfl⟩)))))) pss_never pss_nil)
    (pss_cons (ps_for PassesOwn.never rfl (pi_enumT (by rfl) B.enum (pa_cons (pv 1) pa_nil)) (pg_tup rfl (pgs_cons (pg_name (i := 2) scBook.nd rfl (.inl rfl)) (pgs_cons (pg_name (i := 3) scBook.nd rfl (.inl rfl)) pgs_nil)))
      (pss_one (ps_if (PW.pt (pw_or (pt_not (pt_val (pe_call GP hr (by rfl) gP kpP bP .nil pass0 (pa_cons (pv 3) pa_nil)))) (pw_or1 (pt_cmpR op_in_seq (pv 3) (pe_slice sl_tup (pv 1) po_none (po_some (pv 2))) (by rfl))))) pss_never pss_nil)))
    (pss_one (ps_fld (pv 0) (pv 1) rfl))), ?_⟩
  -- the first test
  have ty : TyX K H (.ref t) (.type "tuple") := by
    rcases hT with (hT | ⟨o, hT⟩) | ⟨o, its, n, lk, c, _⟩
    · exact .base (.tup hT)
    · exact .fTuple hT
    · exact .kTuple lk c
  refine ⟨_, rfl, _, _, .type "tuple", .type "tuple", true, rfl, .ty "tuple", ty, kit_ty (by decide +kernel), true, rfl, iteF ?_⟩
  have lp : (ps.map vS).length = ps.length := List.length_map _
  refine ⟨_, rfl, t, ps.map vS, rfl, .inr hT, 1, _, rfl, rfl, _, rfl, ?_⟩
  have e1 : decide ((1 : Int) ≤ ((ps.map vS).length : Int)) = true := decide_eq_true (by rw [lp]; omega)
  rw [e1]
  refine iteT ⟨_, 12, rfl, rfl, ?_⟩
  have e2 : decide (((ps.map vS).length : Int) ≤ 12) = true := decide_eq_true (by rw [lp]; omega)
  refine ⟨_, rfl, ?_⟩
  show if (!decide (((ps.map vS).length : Int) ≤ 12)) = true then _ else _
  rw [e2]
  refine iteF ?_
  -- the loop
  refine ⟨_, rfl, t, ps.map vS, rfl, hT, for_it (walk_enumT (xs := ps.map vS)) (fun i σ H' => ∃ v2 v3, σ = [some (.ref x), some (.ref t), v2, v3] ∧ K0 Tb H H') ⟨none, none, rfl, .refl⟩ (fun i σ H1 _ hP => ?_) (fun i y σ H1 H2 hi hP hY => ?_) (fun σ H1 hP => ?_)⟩
  · obtain ⟨_, _, _, k⟩ := hP
    exact k.sqT hT id
  · obtain ⟨v2, v3, rfl, k⟩ := hP
    obtain ⟨T1, p, rfl, nT, rfl, ep⟩ := yp_map hY
    have k1 : K0 Tb H (upd H1 T1 (.tup [.int (i : Nat), vS p])) := k.trans (.new nT)
    refine ⟨T1, _, rfl, .inl (.inl upd_same), rfl, _, _, rfl, _, _, rfl, rfl, ?_⟩
    refine ⟨_, rfl, p, rfl, hp p (List.mem_of_getElem? ep), fun H3 k3 => ⟨true, rfl, iteF ?_⟩⟩
    have k4 := k1.trans k3
    have hi' : i < ps.length := by rw [lp] at hi; exact hi
    refine ⟨_, rfl, _, rfl, _, rfl, _, rfl, t, ps.map vS, rfl, k4.sqT hT id, fun z => ?_, fun p1 np1 => ?_⟩
    · have z2 := z.2
      rw [HT.sIx_nat, lp] at z2
      omega
    · have ec : cutV (ps.map vS) none (some ((i : Nat) : Int)) = (ps.map vS).take i := by
        unfold cutV
        rw [HT.sIx_none, HT.sIx_nat, lp, List.drop_zero, Nat.sub_zero, Nat.min_eq_left (by omega)]
      rw [ec]
      refine ⟨p1, _, rfl, .inr (.inl (.inl upd_same)), rfl, ?_, ?_⟩
      · refine List.all_eq_true.mpr fun y hy => ?_
        rw [← List.map_take] at hy
        obtain ⟨z, _, rfl⟩ := List.mem_map.mp hy
        rfl
      · show ∃ k, V.bl (inV (vS p) ((ps.map vS).take i)) = .bl k ∧ _
        rw [notIn_take hn ep]
        exact ⟨false, rfl, iteF ⟨_, _, rfl, k4.trans (.new np1)⟩⟩
  · obtain ⟨v2, v3, rfl, k⟩ := hP
    refine ⟨_, rfl, _, rfl, x, C, dx, [], rfl, k.ins hx id, cl, na, by decide, ?_⟩
    refine q _ upd_same ?_
    exact (k.up).set (.inr rfl) (k.ins hx id) trivial
end
end K9P
end

section
set_option Elab.async false
set_option linter.all false
set_option maxRecDepth 100000
set_option maxHeartbeats 4000000
/-! raw_strikes, raw_struck -/
namespace K9P
open PySem PySem.Spec PyProof.Rows L2 K9R
/-! ### texts -/
theorem pre_iff (p q : T) : p.isPrefixOf q = decide (q.take p.length = p) := by
  by_cases h : q.take p.length = p
  · rw [decide_eq_true h, List.isPrefixOf_iff_prefix]
    exact ⟨q.drop p.length, by conv => lhs; lhs; rw [← h]
                               rw [List.take_append_drop]⟩
  · rw [decide_eq_false h]
    cases e : p.isPrefixOf q with
    | false => rfl
    | true =>
      obtain ⟨t, rfl⟩ := List.isPrefixOf_iff_prefix.mp e
      exact absurd (by simp) h
theorem sub_at (l p : T) (i : Nat) : Builtin.Str.subAt (S l) (S p) i = decide ((l.drop i).take p.length = p) := by
  unfold Builtin.Str.subAt
  rw [S_len]
  show (l.toArray.extract i (i + p.length) == p.toArray) = _
  have e : l.toArray.extract i (i + p.length) = ((l.drop i).take p.length).toArray := by
    rw [List.extract_toArray]
    simp [List.extract_eq_take_drop]
  rw [e]
  by_cases h : (l.drop i).take p.length = p
  · rw [decide_eq_true h, h]
    simp
  · rw [decide_eq_false h]
    exact beq_eq_false_iff_ne.mpr fun z => h (List.toArray_inj z)
theorem starts3 {l p : T} {i : Nat} (hi : i ≤ l.length) : Txt.startswith3 (S l) (S p) (i : Int) = p.isPrefixOf (l.drop i) := by
  unfold Txt.startswith3
  have e : fromIndex (S l).length (i : Int) = i := by
    unfold fromIndex
    rw [if_neg (by omega)]
    omega
  rw [e, S_len, S_len, sub_at, pre_iff]
  by_cases h : (l.drop i).take p.length = p
  · rw [decide_eq_true h, Bool.and_true]
    have q := congrArg List.length h
    rw [List.length_take, List.length_drop] at q
    exact decide_eq_true (by omega)
  · rw [decide_eq_false h, Bool.and_false]
theorem starts2 (l p : T) : Txt.startswith (S l) (S p) = p.isPrefixOf l := by
  unfold Txt.startswith
  rw [S_len, S_len, sub_at, pre_iff, List.drop_zero]
  by_cases h : l.take p.length = p
  · rw [decide_eq_true h, Bool.and_true]
    have q := congrArg List.length h
    rw [List.length_take] at q
    exact decide_eq_true (by omega)
  · rw [decide_eq_false h, Bool.and_false]
theorem cutS_S (l : T) (lo hi : Option Int) : cutS (S l) lo hi = S ((l.drop (HT.sIx l.length 0 lo)).take (HT.sIx l.length l.length hi - HT.sIx l.length 0 lo)) := by
  unfold cutS
  rw [S_list, S_len]
  rfl
theorem cutS_to (l : T) (i : Nat) : cutS (S l) none (some (i : Int)) = S (l.take i) := by
  rw [cutS_S, HT.sIx_none, HT.sIx_nat, List.drop_zero, Nat.sub_zero]
  congr 1
  by_cases h : i ≤ l.length
  · rw [Nat.min_eq_left h]
  · rw [Nat.min_eq_right (by omega), List.take_length, List.take_of_length_le (by omega)]
theorem cutS_from (l : T) (i : Nat) : cutS (S l) (some (i : Int)) none = S (l.drop i) := by
  rw [cutS_S, HT.sIx_none, HT.sIx_nat]
  congr 1
  by_cases h : i ≤ l.length
  · rw [Nat.min_eq_left h]
    exact List.take_of_length_le (by rw [List.length_drop]; exact Nat.le_refl _)
  · rw [Nat.min_eq_right (by omega), List.drop_length, List.drop_of_length_le (by omega)]
    simp
theorem cutS_mid (l : T) (i j : Nat) : cutS (S l) (some (i : Int)) (some (j : Int)) = S ((l.drop i).take (j - i)) := by
  rw [cutS_S, HT.sIx_nat, HT.sIx_nat]
  congr 1
  by_cases h : i ≤ l.length
  · rw [Nat.min_eq_left h]
    by_cases h2 : j ≤ l.length
    · rw [Nat.min_eq_left h2]
    · rw [Nat.min_eq_right (by omega), List.take_of_length_le (by rw [List.length_drop]; omega), List.take_of_length_le (by rw [List.length_drop]; omega)]
  · rw [Nat.min_eq_right (show l.length ≤ i by omega), List.drop_length, List.drop_of_length_le (by omega)]
    simp
/-! ### tuples stay -/
def Tups (H H' : Hp) : Prop := ∀ t xs, H t = some (.tup xs) → H' t = some (.tup xs)
section
variable {Tb : List (Addr × Str)} {H H1 H2 : Hp} {p : Addr} {o : HO} {xs : List V}
theorem Tups.refl : Tups H H := fun _ _ h => h
theorem Tups.trans (a : Tups H H1) (b : Tups H1 H2) : Tups H H2 := fun t xs h => b t xs (a t xs h)
theorem Tups.new (h : H p = none) : Tups H (upd H p o) := fun t xs e => by
  rw [upd_ne (ne_of_none e h)]
  exact e
theorem Tups.lst (h : H p = some (.lst xs)) : Tups H (upd H p o) := fun t ys e => by
  rw [upd_ne (ne_of e h (by intro z; cases z))]
  exact e
theorem Tups.dic {kvs : List (Key × V)} (h : H p = some (.dK kvs)) : Tups H (upd H p o) := fun t ys e => by
  rw [upd_ne (ne_of e h (by intro z; cases z))]
  exact e
theorem Tups.of (k : K0 Tb H H1) : Tups H H1 := fun t xs e => k.tup e id
theorem StAt.keep {r : V} {s : Nat × Nat} (k : Tups H H1) (h : StAt H r s) : StAt H1 r s := by
  obtain ⟨t, e, ht⟩ := h
  exact ⟨t, e, k t _ ht⟩
end
theorem zip_take {ps : List T} {j : Nat} {p : T} (h : ps[j]? = some p) : ps.zipIdx.take (j + 1) = ps.zipIdx.take j ++ [(p, j)] := by
  rw [List.take_add_one, List.getElem?_zipIdx, h]
  simp
/-! ### raw_strikes -/
abbrev nStrikes : List Str := ["book", "log", "found", "place", "number", "piece"]
theorem scStrikes : FnScope nStrikes ["book", "log"] (defScope sStrikes) := ⟨rfl, rfl, rfl, by decide +kernel, rfl, by decide +kernel, by decide +kernel⟩
abbrev nStruck : List Str := ["book", "log", "strike"]
theorem scStruck : FnScope nStruck ["book", "log", "strike"] (defScope sStruck) := ⟨rfl, rfl, rfl, by decide +kernel, rfl, by decide +kernel, by decide +kernel⟩
def hitsTo (ps : List T) (l : T) (i j : Nat) : List (Nat × Nat) := ((ps.zipIdx.take j).filter fun q => q.1.isPrefixOf (l.drop i)).map fun q => (i, q.2)
theorem hitsTo_all (ps : List T) (l : T) (i : Nat) : hitsTo ps l i ps.length = K9.hits ps l i := by
  unfold hitsTo K9.hits
  rw [List.take_of_length_le (by rw [List.length_zipIdx]; exact Nat.le_refl _)]
theorem hitsTo_yes {ps : List T} {l p : T} {i j : Nat} (h : ps[j]? = some p) (hp : p.isPrefixOf (l.drop i) = true) : hitsTo ps l i (j + 1) = hitsTo ps l i j ++ [(i, j)] := by
  unfold hitsTo
  rw [zip_take h, List.filter_append, List.map_append]
  simp [hp]
theorem hitsTo_no {ps : List T} {l p : T} {i j : Nat} (h : ps[j]? = some p) (hp : p.isPrefixOf (l.drop i) = false) : hitsTo ps l i (j + 1) = hitsTo ps l i j := by
  unfold hitsTo
  rw [zip_take h, List.filter_append, List.map_append]
  simp [hp]
theorem hitsTo_len (ps : List T) (l : T) (i j : Nat) : (hitsTo ps l i j).length ≤ ps.length := by
  unfold hitsTo
  rw [List.length_map]
  refine Nat.le_trans (List.length_filter_le _ _) ?_
  rw [List.length_take, List.length_zipIdx]
  exact Nat.min_le_right _ _
theorem hits_len (ps : List T) (l : T) (i : Nat) : (K9.hits ps l i).length ≤ ps.length := by
  rw [← hitsTo_all]
  exact hitsTo_len ps l i _
theorem flat_len {α : Type} {g : Nat → List α} {m : Nat} (h : ∀ i, (g i).length ≤ m) : ∀ n : Nat, ((List.range n).flatMap g).length ≤ n * m
  | 0 => by simp
  | n + 1 => by
    have a := flat_len h n
    have b := h n
    have e : List.flatMap g [n] = g n := by simp
    rw [List.range_succ, List.flatMap_append, List.length_append, Nat.succ_mul, e]
    omega
theorem paired_len {α β : Type} {F : α → β → Prop} {l : List α} {m : List β} (h : Paired F l m) : l.length = m.length := Paired.length h
section
variable {P : Program} {w : World} {K : PySem.W.Frag} {mg : Str → Option Value} {base : Heap} {Tb : List (Addr × Str)} {C : Addr}
/-- what is known of the class Book -/
structure BkC (K : PySem.W.Frag) (C : Addr) : Prop where
  cl : Cls K C
  na : NoAttr K C "pieces"
def spStrikes (K : PySem.W.Frag) (Tb : List (Addr × Str)) (C : Addr) : Sp := fun vs H Q _ => ∃ (b : Addr) (ps : List T) (l : T), vs = [.ref b, vS l] ∧ BookAt K C H b ps ∧ ps.length ≤ 12 ∧ l.length ≤ 1000 ∧
  ∀ H' p rs, K0 Tb H H' → H p = none → H' p = some (.lst rs) → Paired (StAt H') rs (K9.strikes ps l) → Q (.ref p) H'
theorem ok_strikes {f : Addr} {fd : FuncData} (F : Fun K "raw_strikes" "raw_strikes" sStrikes f fd) (B : Bl mg) (bk : BkC K C) : FnOk P w K mg base CX0 1 f fd ["book", "log"] (spStrikes K Tb C) := by
  refine F.ok scStrikes (fun vs H Q E h => ?_) (fun cdv A outer s H vs Q E hr h => ?_)
  · obtain ⟨b, ps, l, rfl, _⟩ := h
    rfl
  obtain ⟨b, ps, l, rfl, hb, h12, hl, q⟩ := h
  have nd := scStrikes.nd
  refine ⟨_, pss_cons (ps_set (i := 2) nd rfl (.inl rfl) (pe_lst pa_nil))
    (pss_cons (ps_for PassesOwn.never rfl (pi_range1 (by rfl) B.range (pa_cons (pe_callB call_len_str (by rfl) B.len PySem.boot_len (pa_cons (pv 1) pa_nil)) pa_nil)) (pg_name (i := 3) nd rfl (.inr rfl))
      (pss_one (ps_expr (pe_bm PySem.F.plainAttrs_list PySem.F.slot_list_extend PySem.F.type_list_extend mt_extend (pv 2) (pa_cons
        (pe_lc (own := [("number", 4), ("piece", 5)]) (g := gTup K 2 (gCons (gName 4) (gCons (gName 5) gNil)))
          (tt := tB (tBM K "str" (fun x xs H Q => ∃ (a b : Str) (i : Int), x = .str a ∧ xs = [.str b, .int i] ∧ Q (.bl (Txt.startswith3 a b i)) H) (tVar 1) (tCons (tVar 5) (tCons (tVar 3) tNil)))) rfl nd (pi_enumT (by rfl) B.enum (pa_cons (pe_fld (pv 0) rfl) pa_nil)) (blkOk_by (N := nStrikes) (sc := defScope sStrikes) (by decide +kernel))
          (fun _ _ _ _ _ => pg_tup (n := 2) rfl (pgs_cons (pg_name (i := 4) nd rfl (.inl rfl)) (pgs_cons (pg_name (i := 5) nd rfl (.inl rfl)) pgs_nil)))
          (fun _ _ _ _ _ => pts_one (pt_val (pe_bm PySem.F.plainAttrs_str PySem.F.slot_str_startswith PySem.F.type_str_startswith mt_startswith3 (pv 1) (pa_cons (pv 5) (pa_cons (pv 3) pa_nil)))))
          (fun _ _ _ _ _ => pe_tup (pa_cons (pv 3) (pa_cons (pv 4) pa_nil)))) pa_nil)))))
    (pss_one (ps_ret (pv 2)))), ?_⟩
  refine ⟨Nat.zero_le _, fun fo nf => ?_⟩
  refine ⟨_, rfl, S l, rfl, by rw [S_len, sizeLine_eq]; omega, _, rfl, by omega, by rw [S_len]; omega, ?_⟩
  refine for_range (n := (((S l).length : Int)).toNat) (fun i σ H' => ∃ v3 rs, σ = [some (.ref b), some (vS l), some (.ref fo), v3, none, none] ∧ K0 Tb H H' ∧ H' fo = some (.lst rs) ∧ Paired (StAt H') rs ((List.range i).flatMap (K9.hits ps l)))
    ⟨none, [], rfl, .new nf, upd_same, .nil⟩ (fun i σ H1 hi hP => ?_) (fun σ H1 hP => ?_)
  · obtain ⟨v3, rs, rfl, k, hf, hp⟩ := hP
    rw [Int.zero_add]
    have hil : i < l.length := by
      rw [S_len] at hi
      omega
    obtain ⟨dx, t, hb1, hT⟩ := hb.keep k
    refine ⟨_, rfl, .inl ⟨rfl, _, SqL.of hf⟩, _, rfl, b, C, dx, _, _, rfl, hb1, bk.cl, bk.na, rfl, t, ps.map vS, rfl, hT, fun D nD => ?_⟩
    have nDf : fo ≠ D := ne_of_none hf nD
    refine lc_it (walk_enumT (xs := ps.map vS)) (fun j H' => ∃ acc, H' D = some (.lst acc) ∧ K0 Tb H1 H' ∧ Tups H1 H' ∧ Paired (StAt H') acc (hitsTo ps l i j)) ⟨[], upd_same, .new nD, .new nD, .nil⟩ (fun j H' _ hP => ?_) (fun j x H2 H3 hj hP hY => ?_) (fun H2 hP => ?_)
    · obtain ⟨_, _, k2, _⟩ := hP
      exact k2.sqT hT id
    · obtain ⟨acc, hD, k2, tu, hpp⟩ := hP
      obtain ⟨T1, p, rfl, nT, rfl, ep⟩ := yp_map hY
      have nTD : D ≠ T1 := ne_of_none hD nT
      refine ⟨T1, _, rfl, .inl (.inl upd_same), rfl, _, _, rfl, _, _, rfl, rfl, rfl, ?_⟩
      refine ⟨_, rfl, rfl, _, rfl, _, rfl, S l, S p, (i : Nat), rfl, rfl, _, rfl, ?_⟩
      rw [starts3 (by omega)]
      have k3 : K0 Tb H1 (upd H2 T1 (.tup [.int (j : Nat), vS p])) := k2.trans (.new nT)
      have tu3 : Tups H2 (upd H2 T1 (.tup [.int (j : Nat), vS p])) := .new nT
      have hD3 : (upd H2 T1 (.tup [.int (j : Nat), vS p])) D = some (.lst acc) := by
        rw [upd_ne nTD]
        exact hD
      cases hpre : p.isPrefixOf (l.drop i) with
      | false => exact iteF ⟨acc, hD3, k3, tu.trans tu3, by rw [hitsTo_no ep hpre]; exact paired_mono hpp fun a c => StAt.keep tu3⟩
      | true =>
        refine iteT ⟨_, rfl, _, rfl, by show 2 ≤ sizeLine; decide, fun T2 nT2 => ?_⟩
        have tu4 : Tups (upd H2 T1 (.tup [.int (j : Nat), vS p])) (upd (upd H2 T1 (.tup [.int (j : Nat), vS p])) T2 (.tup [.int (i : Nat), .int (j : Nat)])) := .new nT2
        have k4 := k3.trans (.new (o := .tup [.int (i : Nat), .int (j : Nat)]) nT2)
        have nT2D : D ≠ T2 := ne_of_none hD3 nT2
        have hD4 : (upd (upd H2 T1 (.tup [.int (j : Nat), vS p])) T2 (.tup [.int (i : Nat), .int (j : Nat)])) D = some (.lst acc) := by
          rw [upd_ne nT2D]
          exact hD3
        have tu5 : Tups _ (upd _ D (.lst (acc ++ [.ref T2]))) := .lst hD4
        refine ⟨acc, hD4, ?_, acc ++ [.ref T2], upd_same, k4.set (.inl nD) hD4 trivial, (tu.trans tu3).trans (tu4.trans tu5), ?_⟩
        · rw [paired_len hpp]
          have q1 := hitsTo_len ps l i j
          rw [sizeLine_eq]
          omega
        · rw [hitsTo_yes ep hpre]
          exact paired_snoc ⟨T2, rfl, tu5 _ _ upd_same⟩ (paired_mono hpp fun a c h => StAt.keep (tu3.trans (tu4.trans tu5)) h)
    · obtain ⟨acc, hD, k2, tu, hpp⟩ := hP
      have hf2 := k2.lst hf id
      rw [List.length_map, hitsTo_all] at hpp
      refine ⟨fo, D, rs, acc, rfl, rfl, hf2, hD, ?_, ?_⟩
      · rw [paired_len hp, paired_len hpp]
        have a := flat_len (g := K9.hits ps l) (m := 12) (fun i => Nat.le_trans (hits_len ps l i) h12) i
        have c := hits_len ps l i
        rw [sizeLine_eq]
        omega
      · have tu6 : Tups H2 (upd H2 fo (.lst (rs ++ acc))) := .lst hf2
        refine ⟨_, rs ++ acc, rfl, (k.trans k2).set (.inl nf) hf2 trivial, upd_same, ?_⟩
        rw [List.range_succ, List.flatMap_append]
        refine paired_app ?_ (paired_mono hp fun a c h => StAt.keep (tu.trans tu6) h)
        have e : List.flatMap (K9.hits ps l) [i] = K9.hits ps l i := by simp
        rw [e]
        exact paired_mono hpp fun a c h => StAt.keep tu6 h
  · obtain ⟨v3, rs, rfl, k, hf, hp⟩ := hP
    refine ⟨_, rfl, q H1 fo rs k nf hf ?_⟩
    have e : (((S l).length : Int)).toNat = l.length := by
      rw [S_len]
      omega
    rw [e] at hp
    exact hp
end
end K9P
end

section
set_option Elab.async false
set_option linter.all false
set_option maxRecDepth 100000
set_option maxHeartbeats 4000000
/-! raw_struck, all_left -/
namespace K9P
open PySem PySem.Spec PyProof.Rows L2 K9R
section
variable {P : Program} {w : World} {K : PySem.W.Frag} {mg : Str → Option Value} {base : Heap} {Tb : List (Addr × Str)} {C : Addr}
def spStruck (K : PySem.W.Frag) (C : Addr) : Sp := fun vs H Q _ => ∃ (b t : Addr) (ps : List T) (l p : T) (s : Nat × Nat), vs = [.ref b, vS l, .ref t] ∧ BookAt K C H b ps ∧ l.length ≤ 1000 ∧ H t = some (.tup [.int (s.1 : Nat), .int (s.2 : Nat)]) ∧
  s.1 < l.length ∧ ps[s.2]? = some p ∧ p.length ≤ 8 ∧ Q (vS (K9.cut ps l s)) H
theorem ok_struck {f : Addr} {fd : FuncData} (F : Fun K "raw_struck" "raw_struck" sStruck f fd) (B : Bl mg) (bk : BkC K C) : FnOk P w K mg base CX0 1 f fd ["book", "log", "strike"] (spStruck K C) := by
  refine F.ok scStruck (fun vs H Q E h => ?_) (fun cdv A outer s H vs Q E hr h => ?_)
  · obtain ⟨b, t, ps, l, p, s, rfl, _⟩ := h
    rfl
  obtain ⟨b, t, ps, l, p, s, rfl, ⟨dx, tp, hb, hT⟩, hl, ht, hs, hp, h8, q⟩ := h
  refine ⟨_, pss_one (ps_ret (pe_op op_add_str (pe_slice sl_str (pv 1) po_none (po_some (pe_ix ix_tup (pv 2) pe_int (fun _ _ => rfl))))
    (pe_slice sl_str (pv 1) (po_some (pe_op op_add (pe_ix ix_tup (pv 2) pe_int (fun _ _ => rfl))
      (pe_callB call_len_str (by rfl) B.len PySem.boot_len (pa_cons (pe_ix ix_tup (pe_fld (pv 0) rfl) (pe_ix ix_tup (pv 2) pe_int (fun _ _ => rfl)) (fun _ _ => rfl)) pa_nil)))) po_none))), ?_⟩
  have hsz : (1000 : Nat) ≤ sizeLine := by decide
  have hgs : ps.getD s.2 [] = p := by
    rw [List.getD_eq_getElem?_getD, hp]
    rfl
  have hcl : (K9.cut ps l s).length ≤ l.length := (K9.cut_sub ps l s).length_le
  refine ⟨_, rfl, _, rfl, t, _, _, _, rfl, rfl, SqT.of ht, atI_nat (j := 0) rfl, _, rfl, S l, rfl, by rw [S_len]; omega, ?_⟩
  rw [cutS_to]
  refine ⟨_, rfl, _, rfl, t, _, _, _, rfl, rfl, SqT.of ht, atI_nat (j := 0) rfl, ?_⟩
  refine ⟨_, rfl, b, C, dx, _, _, rfl, hb, bk.cl, bk.na, rfl, _, rfl, t, _, _, _, rfl, rfl, SqT.of ht, atI_nat (j := 1) rfl, tp, ps.map vS, _, vS p, rfl, rfl, hT, ?_, ?_⟩
  · exact atI_nat (j := s.2) (by rw [List.getElem?_map, hp]; rfl)
  refine ⟨S p, rfl, by rw [S_len]; omega, _, _, rfl, rfl, _, rfl, S l, rfl, by rw [S_len]; omega, ?_⟩
  have e : ((s.1 : Nat) : Int) + ((S p).length : Int) = ((s.1 + p.length : Nat) : Int) := by
    rw [S_len]
    omega
  rw [e, cutS_from]
  refine ⟨_, _, rfl, rfl, ?_, ?_⟩
  · rw [S_len, S_len, List.length_take, List.length_drop]
    omega
  · rw [S_cat]
    unfold K9.cut at q
    rw [hgs] at q
    exact q
/-! ### all_left -/
theorem valT_in {f : List T} {x : T} (h : x ∈ f) : valV (kvT f) (Sum.inr (S x)) = some (.bl true) := by
  induction f with
  | nil => cases h
  | cons y r ih =>
    by_cases e : y = x
    · subst e
      exact valV_pos (p := (Sum.inr (S y), V.bl true)) rfl
    · have e2 : ¬ (Sum.inr (S y) : Key) = Sum.inr (S x) := fun z => e (S_inj (Sum.inr.inj z))
      show valV ((Sum.inr (S y), V.bl true) :: kvT r) (Sum.inr (S x)) = _
      rw [valV_neg (p := (Sum.inr (S y), V.bl true)) e2]
      exact ih ((List.mem_cons.mp h).resolve_left fun z => e z.symm)
theorem valT_out {f : List T} {x : T} (h : x ∉ f) : valV (kvT f) (Sum.inr (S x)) = none := by
  induction f with
  | nil => rfl
  | cons y r ih =>
    have e2 : ¬ (Sum.inr (S y) : Key) = Sum.inr (S x) := fun z => h (by rw [S_inj (Sum.inr.inj z)]; exact List.mem_cons_self ..)
    show valV ((Sum.inr (S y), V.bl true) :: kvT r) (Sum.inr (S x)) = _
    rw [valV_neg (p := (Sum.inr (S y), V.bl true)) e2]
    exact ih fun z => h (List.mem_cons_of_mem _ z)
theorem putT_new {f : List T} {x : T} (h : x ∉ f) : putK (kvT f) (Sum.inr (S x)) (.bl true) = kvT (f ++ [x]) := by
  rw [putK_new _ (valT_out h)]
  unfold kvT
  rw [List.map_append]
  rfl
theorem kvT_len (f : List T) : (kvT f).length = f.length := List.length_map _
abbrev nAllLeft : List Str := ["book", "log", "most", "found", "waiting", "here", "strike", "later"]
theorem scAllLeft : FnScope nAllLeft ["book", "log", "most"] (defScope sAllLeft) := ⟨rfl, rfl, rfl, by decide +kernel, rfl, by decide +kernel, by decide +kernel⟩
/-- between two turns: f found, w waiting -/
structure LInv (ps : List T) (l : T) (f w : List T) : Prop where
  nd : f.Nodup
  log : l ∈ f
  reach : ∀ x ∈ f, K9.Reach ps l x
  sub : ∀ x ∈ w, x ∈ f
  len : w.length ≤ f.length
  done : ∀ x ∈ f, x ∈ w ∨ ∀ y ∈ K9.kids ps x, y ∈ f
/-- within a turn: the strikes of here, i of them gone through -/
structure IInv (ps : List T) (l here : T) (i : Nat) (f w : List T) : Prop where
  nd : f.Nodup
  log : l ∈ f
  me : here ∈ f
  reach : ∀ x ∈ f, K9.Reach ps l x
  sub : ∀ x ∈ w, x ∈ f
  len : w.length ≤ f.length
  done : ∀ x ∈ f, x = here ∨ x ∈ w ∨ ∀ y ∈ K9.kids ps x, y ∈ f
  mine : ∀ s ∈ (K9.strikes ps here).take i, K9.cut ps here s ∈ f
theorem LInv.start (ps : List T) (l : T) : LInv ps l [l] [l] where
  nd := by simp
  log := by simp
  reach := fun x hx => by
    rw [List.mem_singleton.mp hx]
    exact .self
  sub := fun x hx => hx
  len := Nat.le_refl _
  done := fun x hx => .inl hx
theorem LInv.turn {ps : List T} {l here : T} {f w : List T} (h : LInv ps l f (w ++ [here])) : IInv ps l here 0 f w where
  nd := h.nd
  log := h.log
  me := h.sub here (by simp)
  reach := h.reach
  sub := fun x hx => h.sub x (List.mem_append_left _ hx)
  len := by
    have q := h.len
    rw [List.length_append] at q
    simp at q
    omega
  done := fun x hx => by
    rcases h.done x hx with q | q
    · rcases List.mem_append.mp q with q | q
      · exact .inr (.inl q)
      · exact .inl (List.mem_singleton.mp q)
    · exact .inr (.inr q)
  mine := fun s hs => by simp at hs
theorem IInv.old {ps : List T} {l here : T} {i : Nat} {f w : List T} {s : Nat × Nat} (h : IInv ps l here i f w) (hs : (K9.strikes ps here)[i]? = some s) (hx : K9.cut ps here s ∈ f) : IInv ps l here (i + 1) f w :=
  ⟨h.nd, h.log, h.me, h.reach, h.sub, h.len, h.done, fun s' hs' => by
    rw [List.take_add_one, hs] at hs'
    rcases List.mem_append.mp hs' with q | q
    · exact h.mine s' q
    · have e : s' = s := by simpa using q
      rw [e]
      exact hx⟩
theorem IInv.new {ps : List T} {l here : T} {i : Nat} {f w : List T} {s : Nat × Nat} (h : IInv ps l here i f w) (hs : (K9.strikes ps here)[i]? = some s) (hx : K9.cut ps here s ∉ f) :
    IInv ps l here (i + 1) (f ++ [K9.cut ps here s]) (w ++ [K9.cut ps here s]) where
  nd := by
    have q := K9.nodup_put (x := K9.cut ps here s) h.nd
    unfold K9.put at q
    rwa [if_neg hx] at q
  log := List.mem_append_left _ h.log
  me := List.mem_append_left _ h.me
  reach := fun x hm => by
    rcases List.mem_append.mp hm with q | q
    · exact h.reach x q
    · rw [List.mem_singleton.mp q]
      exact .step (h.reach here h.me) (List.mem_map.mpr ⟨s, List.mem_of_getElem? hs, rfl⟩)
  sub := fun x hm => by
    rcases List.mem_append.mp hm with q | q
    · exact List.mem_append_left _ (h.sub x q)
    · exact List.mem_append_right _ q
  len := by
    have q := h.len
    rw [List.length_append, List.length_append]
    omega
  done := fun x hm => by
    rcases List.mem_append.mp hm with q | q
    · rcases h.done x q with z | z | z
      · exact .inl z
      · exact .inr (.inl (List.mem_append_left _ z))
      · exact .inr (.inr fun y hy => List.mem_append_left _ (z y hy))
    · exact .inr (.inl (List.mem_append_right _ q))
  mine := fun s' hs' => by
    rw [List.take_add_one, hs] at hs'
    rcases List.mem_append.mp hs' with q | q
    · exact List.mem_append_left _ (h.mine s' q)
    · have e : s' = s := by simpa using q
      rw [e]
      exact List.mem_append_right _ (List.mem_singleton.mpr rfl)
theorem IInv.end {ps : List T} {l here : T} {f w : List T} (h : IInv ps l here (K9.strikes ps here).length f w) : LInv ps l f w :=
  ⟨h.nd, h.log, h.reach, h.sub, h.len, fun x hx => by
    rcases h.done x hx with q | q | q
    · subst q
      refine .inr fun y hy => ?_
      obtain ⟨s, hs, rfl⟩ := List.mem_map.mp hy
      exact h.mine s (by rw [List.take_length]; exact hs)
    · exact .inl q
    · exact .inr q⟩
theorem LInv.all {ps : List T} {l : T} {f : List T} (h : LInv ps l f []) : K9.AllLeft ps l f :=
  .of h.nd h.log (fun x hx y hy => (h.done x hx).elim (fun z => by cases z) fun z => z y hy) h.reach
theorem paired_at {α β : Type} {F : α → β → Prop} : ∀ {l : List α} {m : List β} {i : Nat} {x : α}, Paired F l m → l[i]? = some x → ∃ y, m[i]? = some y ∧ F x y
  | _, _, _, _, .nil, h => by simp at h
  | _, _, 0, _, .cons r _, h => ⟨_, rfl, (Option.some.inj h) ▸ r⟩
  | _, _, i + 1, _, .cons _ t, h => paired_at (i := i) t h
def spAllLeft (K : PySem.W.Frag) (Tb : List (Addr × Str)) (C : Addr) : Sp := fun vs H Q _ => ∃ (b : Addr) (ps : List T) (l : T), vs = [.ref b, vS l, .non] ∧ BookAt K C H b ps ∧ ps.length ≤ 12 ∧ (∀ p ∈ ps, p.length ≤ 8) ∧ l.length ≤ 16 ∧
  ∀ H' d f, K0 Tb H H' → H d = none → H' d = some (.dK (kvT f)) → f.length ≤ 65536 → K9.AllLeft ps l f → Q (.ref d) H'
theorem ok_allLeft {f fS fK : Addr} {fd fdS fdK : FuncData} (F : Fun K "all_left" "all_left" sAllLeft f fd) (B : Bl mg) (bk : BkC K C) (FS : Fun K "raw_strikes" "raw_strikes" sStrikes fS fdS) (bS : Binds K fdS ["book", "log"] []) (gS : mg "raw_strikes" = some (.ref fS))
    (FK : Fun K "raw_struck" "raw_struck" sStruck fK fdK) (bK : Binds K fdK ["book", "log", "strike"] []) (gK : mg "raw_struck" = some (.ref fK)) : FnOk P w K mg base CX0 2 f fd ["book", "log", "most"] (spAllLeft K Tb C) := by
  have GS : FnOk P w K mg base CX0 1 fS fdS ["book", "log"] (spStrikes K Tb C) := ok_strikes FS B bk
  have GK : FnOk P w K mg base CX0 1 fK fdK ["book", "log", "strike"] (spStruck K C) := ok_struck FK B bk
  refine F.ok scAllLeft (fun vs H Q E h => ?_) (fun cdv A outer s H vs Q E hr h => ?_)
  · obtain ⟨b, ps, l, rfl, _⟩ := h
    rfl
  obtain ⟨b, ps, l, rfl, hb, h12, h8, hl, q⟩ := h
  have nd := scAllLeft.nd
  have hu := hu_of hr
  refine ⟨_, pss_cons (ps_set (i := 3) nd rfl (.inl rfl) (pe_disp (pps_cons (pv 1) pe_bl pps_nil) (by rfl) (by rfl) (fun z => by cases z) (by decide)))
    (pss_cons (ps_set (i := 4) nd rfl (.inl rfl) (pe_lst (pa_cons (pv 1) pa_nil)))
    (pss_cons (ps_while PassesOwn.never (pt_cmpR op_gt (pe_callB call_len_seq (by rfl) B.len PySem.boot_len (pa_cons (pv 4) pa_nil)) pe_int (nomark _))
      (pss_cons (ps_set (i := 5) nd rfl (.inl rfl) (pe_bm0 PySem.F.plainAttrs_list PySem.F.slot_list_pop PySem.F.type_list_pop mt_pop (pv 4)))
      (pss_cons (ps_for PassesOwn.never rfl (pi_list (pe_call GS hr (by rfl) gS FS.kp bS .nil pass0 (pa_cons (pv 0) (pa_cons (pv 5) pa_nil)))) (pg_name (i := 6) nd rfl (.inl rfl))
        (pss_cons (ps_set (i := 7) nd rfl (.inl rfl) (pe_call GK hr (by rfl) gK FK.kp bK .nil pass0 (pa_cons (pv 0) (pa_cons (pv 5) (pa_cons (pv 6) pa_nil)))))
        (pss_one (ps_if (pt_cmp (pc_dnotin hu (pv 7) (pv 3)))
          (pss_cons (ps_dput hu (pv 3) (pv 7) pe_bl rfl) (pss_one (ps_expr (pe_bm PySem.F.plainAttrs_list PySem.F.slot_list_append PySem.F.type_list_append mt_append (pv 4) (pa_cons (pv 7) pa_nil))))) pss_nil))))
      (pss_one (ps_if (PW.pt (pw_and (pt_cmp (pc_notN (pv 2))) (pw_and1 (pt_cmpR op_gt (pe_callB call_lenD (by rfl) B.len PySem.boot_len (pa_cons (pv 3) pa_nil)) (pv 2) (nomark _))))) pss_never pss_nil)))))
    (pss_one (ps_ret (pv 3))))), ?_⟩
  -- found = {log: True}
  refine fun d ndd => ⟨_, rfl, upd_same, [(Sum.inr (S l), .bl true)], rfl, by show 1 ≤ 15; decide, ?_⟩
  rw [upd_upd]
  -- waiting = [log]
  refine ⟨_, rfl, by show 1 ≤ sizeLine; decide, fun wt nw => ?_⟩
  have nwd : d ≠ wt := ne_of_none upd_same nw
  have nw0 : H wt = none := by
    rw [upd_ne nwd.symm] at nw
    exact nw
  have k0 : K0 Tb H (upd H d (.dK (kvT [l]))) := .new ndd
  have k1 : K0 Tb H (upd (upd H d (.dK (kvT [l]))) wt (.lst ([l].map vS))) := k0.trans (.new nw)
  refine ⟨fun m σ H' => ∃ v5 v6 v7 f w, σ = [some (.ref b), some (vS l), some .non, some (.ref d), some (.ref wt), v5, v6, v7] ∧ K0 Tb H H' ∧ H' d = some (.dK (kvT f)) ∧ H' wt = some (.lst (w.map vS)) ∧ LInv ps l f w ∧ m + 2 * f.length = 2 * 2 ^ l.length + w.length,
    ⟨2 * 2 ^ l.length + 1 - 2, none, none, none, [l], [l], rfl, k1, ?_, upd_same, .start ps l, ?_⟩, fun m σ H1 hW => ?_⟩
  · rw [upd_ne nwd]
    exact upd_same
  · have hp : 0 < 2 ^ l.length := Nat.pow_pos (by decide)
    simp
    omega
  obtain ⟨v5, v6, v7, f, w, rfl, k, hd, hw, L, hm⟩ := hW
  have fB := K9.reach_le L.nd L.reach
  have B16 : 2 ^ l.length ≤ 65536 := Nat.le_trans (Nat.pow_le_pow_right (by decide) hl) (by decide)
  refine ⟨_, rfl, wt, _, rfl, .inl (SqL.of hw), _, 0, rfl, rfl, _, rfl, ?_⟩
  rw [List.length_map]
  by_cases hwl : w = []
  · -- the end
    subst hwl
    refine iteF ⟨_, rfl, q H1 d f k ndd hd (Nat.le_trans fB B16) L.all⟩
  -- a turn
  obtain ⟨here, w0, rfl⟩ : ∃ here w0, w = w0 ++ [here] := ⟨w.getLast hwl, w.dropLast, (List.dropLast_concat_getLast hwl).symm⟩
  have hpos : decide ((0 : Int) < ((w0 ++ [here]).length : Nat)) = true := decide_eq_true (by rw [List.length_append]; simp)
  show if decide ((0 : Int) < ((w0 ++ [here]).length : Nat)) = true then _ else _
  rw [hpos]
  refine iteT ⟨fun σ' H' => ∃ m', m' < m ∧ ∃ v5 v6 v7 f w, σ' = [some (.ref b), some (vS l), some .non, some (.ref d), some (.ref wt), v5, v6, v7] ∧ K0 Tb H H' ∧ H' d = some (.dK (kvT f)) ∧ H' wt = some (.lst (w.map vS)) ∧ LInv ps l f w ∧ m' + 2 * f.length = 2 * 2 ^ l.length + w.length, fun σ' H' h => h, ?_⟩
  have J0 := L.turn
  -- here = waiting.pop()
  refine ⟨_, rfl, .inl ⟨rfl, _, SqL.of hw⟩, wt, _, vS here, rfl, rfl, hw, ?_, ?_⟩
  · rw [List.map_append, List.length_append, List.length_map]
    simp
  have hw2 : ((w0 ++ [here]).map vS).dropLast = w0.map vS := by
    rw [List.map_append]
    simp
  rw [hw2]
  have k2 : K0 Tb H (upd H1 wt (.lst (w0.map vS))) := k.set (.inl nw0) hw trivial
  have hd2 : (upd H1 wt (.lst (w0.map vS))) d = some (.dK (kvT f)) := by
    rw [upd_ne nwd]
    exact hd
  have hhl : here.length ≤ l.length := (L.reach here J0.me).sub.length_le
  refine ⟨_, rfl, _, rfl, b, ps, here, rfl, hb.keep k2, h12, by omega, fun H2 p rs k3 np hp hrs => ?_⟩
  have nwp : wt ≠ p := ne_of_none (o := .lst (w0.map vS)) upd_same np
  have hd3 := k3.dic hd2 id
  have hw3 : H2 wt = some (.lst (w0.map vS)) := k3.lst upd_same id
  refine ⟨p, rfl, ⟨rs, SqL.of hp⟩, ?_⟩
  have hm0 : 2 * f.length + m = 2 * 2 ^ l.length + w0.length + 1 := by
    rw [List.length_append] at hm
    simp at hm
    omega
  refine for_list (K := K) (a := p) (xs := rs) (fun i σ H' => ∃ v6 v7 f' w', σ = [some (.ref b), some (vS l), some .non, some (.ref d), some (.ref wt), some (vS here), v6, v7] ∧ K0 Tb H H' ∧ H' d = some (.dK (kvT f')) ∧ H' wt = some (.lst (w'.map vS)) ∧
      H' p = some (.lst rs) ∧ Paired (StAt H') rs (K9.strikes ps here) ∧ IInv ps l here i f' w' ∧ w'.length + f.length = w0.length + f'.length ∧ f.length ≤ f'.length)
    ⟨v6, v7, f, w0, rfl, k2.trans k3, hd3, hw3, hp, hrs, J0, rfl, Nat.le_refl _⟩ (fun i σ H' _ hP => ?_) (fun i x σ H3 hx hP => ?_) (fun σ H3 hP => ?_)
  · obtain ⟨_, _, _, _, _, _, _, _, hp', _⟩ := hP
    exact SqL.of hp'
  · obtain ⟨v6, v7, f', w', rfl, k4, hd4, hw4, hp4, hrs4, J, e1, e2⟩ := hP
    obtain ⟨st, hst, t, rfl, ht⟩ := paired_at hrs4 hx
    obtain ⟨i1, pc, hpc, hpre⟩ := K9.mem_strikes.mp (List.mem_of_getElem? hst)
    refine ⟨_, rfl, _, rfl, _, rfl, b, t, ps, here, pc, st, rfl, hb.keep k4, by omega, ht, i1, hpc, h8 pc (List.mem_of_getElem? hpc), ?_⟩
    refine ⟨_, rfl, _, rfl, d, _, rfl, DGet.k (k := Sum.inr (S (K9.cut ps here st))) hd4, _, rfl, ?_⟩
    have fB' := K9.reach_le J.nd J.reach
    by_cases hin : K9.cut ps here st ∈ f'
    · rw [valT_in hin]
      exact iteF ⟨_, _, f', w', rfl, k4, hd4, hw4, hp4, hrs4, J.old hst hin, e1, e2⟩
    · rw [valT_out hin]
      refine iteT ⟨_, rfl, _, rfl, d, _, rfl, DPut.k (k := Sum.inr (S (K9.cut ps here st))) hd4 ?_, ?_⟩
      · rw [kvT_len, sizeLine_eq]
        omega
      rw [putT_new hin]
      have hw5 : (upd H3 d (.dK (kvT (f' ++ [K9.cut ps here st])))) wt = some (.lst (w'.map vS)) := by
        rw [upd_ne nwd.symm]
        exact hw4
      refine ⟨_, rfl, .inl ⟨rfl, _, SqL.of hw5⟩, _, rfl, wt, _, _, rfl, rfl, hw5, ?_, ?_⟩
      · have q1 := J.len
        rw [List.length_map, sizeLine_eq]
        omega
      have npd : p ≠ d := ne_of hp4 hd4 (by intro z; cases z)
      have tu : Tups H3 (upd (upd H3 d (.dK (kvT (f' ++ [K9.cut ps here st])))) wt (.lst (w'.map vS ++ [vS (K9.cut ps here st)]))) := (Tups.dic hd4).trans (Tups.lst hw5)
      refine ⟨_, _, f' ++ [K9.cut ps here st], w' ++ [K9.cut ps here st], rfl, (k4.set (.inl ndd) hd4 trivial).set (.inl nw0) hw5 trivial, ?_, ?_, ?_, paired_mono hrs4 fun a c h => StAt.keep tu h, J.new hst hin, ?_, ?_⟩
      · rw [upd_ne nwd]
        exact upd_same
      · rw [List.map_append]
        exact upd_same
      · rw [upd_ne nwp.symm, upd_ne npd]
        exact hp4
      · rw [List.length_append, List.length_append]
        omega
      · rw [List.length_append]
        omega
  · obtain ⟨v6, v7, f', w', rfl, k4, hd4, hw4, hp4, hrs4, J, e1, e2⟩ := hP
    have fB' := K9.reach_le J.nd J.reach
    refine ⟨_, rfl, false, rfl, iteF (iteF ?_)⟩
    rw [paired_len hrs4] at J
    exact ⟨2 * 2 ^ l.length + w'.length - 2 * f'.length, by omega, _, _, _, f', w', rfl, k4, hd4, hw4, J.end, by omega⟩
end
end K9P
end

section
set_option Elab.async false
set_option linter.all false
set_option maxRecDepth 100000
set_option maxHeartbeats 4000000
/-! ends_among, meeting -/
namespace K9P
open PySem PySem.Spec PyProof.Rows L2 K9R
abbrev nEnds : List Str := ["book", "texts", "some", "text"]
theorem scEnds : FnScope nEnds ["book", "texts"] (defScope sEnds) := ⟨rfl, rfl, rfl, by decide +kernel, rfl, by decide +kernel, by decide +kernel⟩
abbrev lamQ (x : Str) : Str := (x ++ ".<locals>.") ++ "<lambda>"
theorem BookAt.lock {K : PySem.W.Frag} {C b d : Addr} {H : Hp} {ps : List T} {kvs : List (Key × V)} {o : HO} (hd : H d = some (.dK kvs)) (h : BookAt K C H b ps) : BookAt K C (upd H d o) b ps := by
  obtain ⟨dx, t, h1, h2⟩ := h
  refine ⟨dx, t, by rw [upd_ne (ne_of h1 hd (by intro z; cases z))]; exact h1, ?_⟩
  rcases h2 with (h2 | ⟨o2, h2⟩) | h2
  · exact .inl (.inl (by rw [upd_ne (ne_of h2 hd (by intro z; cases z))]; exact h2))
  · exact .inl (.inr ⟨o2, by rw [upd_ne (ne_of h2 hd (by intro z; cases z))]; exact h2⟩)
  · exact .inr h2
section
variable {P : Program} {w : World} {K : PySem.W.Frag} {mg : Str → Option Value} {base : Heap} {Tb : List (Addr × Str)} {C : Addr}
def spEnds (K : PySem.W.Frag) (Tb : List (Addr × Str)) (C : Addr) : Sp := fun vs H Q _ => ∃ (b d : Addr) (ps f : List T), vs = [.ref b, .ref d] ∧ BookAt K C H b ps ∧ ps.length ≤ 12 ∧ H d = some (.dK (kvT f)) ∧ f.Nodup ∧ f.length ≤ 65536 ∧ (∀ x ∈ f, x.length ≤ 1000) ∧ LamX.Tabs Tb H ∧
  ∀ H' p, K0 Tb H H' → H' p = some (.lst ((K9.isort (f.filter (K9.stuck ps))).map vS)) → Q (.ref p) H'
theorem ok_ends {f fS c Pt : Addr} {fd fdS : FuncData} (F : FunC K "ends_among" "ends_among" sEnds f fd c) (B : Bl mg) (bk : BkC K C) (FS : Fun K "raw_strikes" "raw_strikes" sStrikes fS fdS) (bS : Binds K fdS ["book", "log"] []) (gS : mg "raw_strikes" = some (.ref fS))
    (TB : LamX.TabB base mg c Pt) (hmT : (Pt, lamQ "ends_among") ∈ Tb) (hu : ∀ q ∈ Tb, q.1 = Pt → q.2 = lamQ "ends_among") : FnOk P w K mg base CX0 2 f fd ["book", "texts"] (spEnds K Tb C) := by
  have GS : FnOk P w K mg base CX0 1 fS fdS ["book", "log"] (spStrikes K Tb C) := ok_strikes FS B bk
  refine F.ok scEnds (fun vs H Q E h => ?_) (fun A outer s H vs Q E hr h => ?_)
  · obtain ⟨b, d, ps, f, rfl, _⟩ := h
    rfl
  obtain ⟨b, d, ps, f, rfl, hb, h12, hd, hn, hfl, hxl, hT, q⟩ := h
  have nd := scEnds.nd
  refine ⟨_, pss_cons (ps_lock (ps_setLc (i := 2) (own := [("text", 3)]) (g := gName 3)
      (tt := tTest (tOp rEq (tCB (fun xs H Q => ∃ p ys, xs = [.ref p] ∧ (SqL K H p ys ∨ SqT K H p ys) ∧ Q (.int ys.length) H) (tCons (tCall (spStrikes K Tb C) [] E0 (tCons (tVar 0) (tCons (tVar 3) tNil))) tNil)) (tC (.int 0))))
      rfl nd rfl rfl (sw_true rfl rfl rfl (by decide +kernel)) (pi_keys (pv 1)) (blkOk_by (N := nEnds) (sc := defScope sEnds) (by decide +kernel))
      (fun _ _ _ _ _ => pg_name (i := 3) nd rfl (.inl rfl))
      (fun _ _ _ _ _ => pts_one (pt_cmpR op_eq (pe_callB call_len_seq (by rfl) B.len PySem.boot_len (pa_cons (pe_call GS hr (by rfl) gS FS.kp bS .nil pass0 (pa_cons (pv 0) (pa_cons (pv 3) pa_nil))) pa_nil)) pe_int (nomark _)))
      (fun _ _ _ _ _ => pv 3)))
    (pss_one (ps_ret (pe_sortLam (nm := "text") (pv 2) rfl hr (by rfl) B.sorted B.len TB rfl hmT hu (fun _ _ _ _ _ _ => rfl)))), ?_⟩
  refine ⟨d, _, hd, trivial, fun od => ?_⟩
  have hbL : BookAt K C (upd H d (.frz od (.dK (kvT f)))) b ps := hb.lock hd
  refine ⟨_, rfl, d, od, rfl, .inl ⟨kvT f, upd_same, fun D nD => ?_⟩⟩
  have nDd : d ≠ D := ne_of_none upd_same nD
  have nD0 : H D = none := by
    rw [upd_ne nDd.symm] at nD
    exact nD
  refine lc_it (walk_keys (kvs := kvT f)) (fun i H' => K0 Tb (upd H d (.frz od (.dK (kvT f)))) H' ∧ H' d = some (.frz od (.dK (kvT f))) ∧ H' D = some (.lst (((f.take i).filter (K9.stuck ps)).map vS)))
    ⟨.new nD, by rw [upd_ne nDd]; exact upd_same, upd_same⟩ (fun i H' _ hP => hP.2.1) (fun i x H1 H2 hi hP hY => ?_) (fun H1 hP => ?_)
  · obtain ⟨k, hd1, hD⟩ := hP
    obtain ⟨rfl, kk, vv, hkv, rfl⟩ := hY
    have hx : ∃ x, f[i]? = some x ∧ kk = Sum.inr (S x) := by
      unfold kvT at hkv
      rw [List.getElem?_map] at hkv
      cases e : f[i]? with
      | none =>
        rw [e] at hkv
        cases hkv
      | some x =>
        rw [e] at hkv
        have q2 := Option.some.inj hkv
        exact ⟨x, rfl, (congrArg Prod.fst q2).symm⟩
    obtain ⟨x, ex, rfl⟩ := hx
    refine ⟨rfl, _, rfl, _, rfl, b, ps, x, rfl, hbL.keep k, h12, hxl x (List.mem_of_getElem? ex), fun H3 p rs k3 np hp hrs => ?_⟩
    refine ⟨p, rs, rfl, .inl (SqL.of hp), rfl, _, rfl, ?_⟩
    have hD3 := k3.lst hD id
    have hd3 : H3 d = some (.frz od (.dK (kvT f))) := k3.get _ _ hd1 id fun _ z => nomatch z
    have hlen := paired_len hrs
    have etk : f.take (i + 1) = f.take i ++ [x] := by
      rw [List.take_add_one, ex]
      rfl
    have hst : decide (V.int ((rs.length : Nat) : Int) = V.int 0) = K9.stuck ps x := by
      unfold K9.stuck
      rw [← hlen]
      by_cases z : rs.length = 0
      · rw [z]
        rfl
      · rw [decide_eq_false (fun e => z (by injection e with e; omega))]
        exact (beq_eq_false_iff_ne.mpr z).symm
    rw [hst]
    cases hs : K9.stuck ps x with
    | false =>
      refine iteF ⟨k.trans k3, hd3, ?_⟩
      rw [etk, List.filter_append]
      simp only [List.filter_cons, hs, Bool.false_eq_true, if_false, List.filter_nil, List.append_nil]
      exact hD3
    | true =>
      refine iteT ⟨_, rfl, _, hD3, ?_, (k.trans k3).set (.inl nD) hD3 trivial, ?_, ?_⟩
      · rw [List.length_map]
        have q1 := List.length_filter_le (K9.stuck ps) (f.take i)
        rw [List.length_take] at q1
        rw [sizeLine_eq]
        omega
      · rw [upd_ne nDd]
        exact hd3
      · rw [etk, List.filter_append, List.map_append]
        simp only [List.filter_cons, hs, if_true, List.filter_nil, List.map_cons, List.map_nil]
        exact upd_same
  · obtain ⟨k, hd1, hD⟩ := hP
    rw [kvT_len, List.take_length] at hD
    refine ⟨hd1, ?_⟩
    have kk : Kp Tb (fun z => False ∨ z = d) H H1 := (Kp.set (B := fun z => False ∨ z = d) .refl (.inr (.inr rfl)) hd trivial).trans k.up
    have kb : K0 Tb H (upd H1 d (.dK (kvT f))) := kk.back hd hd1 trivial
    have hD2 : (upd H1 d (.dK (kvT f))) D = some (.lst ((f.filter (K9.stuck ps)).map vS)) := by
      rw [upd_ne nDd.symm]
      exact hD
    refine ⟨_, rfl, D, f.filter (K9.stuck ps), rfl, hn.filter _, ?_, fun x hx => hxl x (List.mem_filter.mp hx).1, kb.tab hT, .inl (SqL.of hD2), fun H2 p eN T2 np => ?_⟩
    · have q1 := List.length_filter_le (K9.stuck ps) f
      omega
    · exact q _ p ((kb.trans (.ofN eN T2)).trans (.new np)) upd_same
end
end K9P
end

section
set_option Elab.async false
set_option linter.all false
set_option maxRecDepth 100000
set_option maxHeartbeats 4000000
/-! meeting, meetings -/
namespace K9P
open PySem PySem.Spec PyProof.Rows L2 K9R
abbrev nMeeting : List Str := ["one", "other", "place", "common"]
theorem scMeeting : FnScope nMeeting ["one", "other", "place"] (defScope sMeeting) := ⟨rfl, rfl, rfl, by decide +kernel, rfl, by decide +kernel, by decide +kernel⟩
abbrev nMeetings : List Str := ["book", "found", "number", "one", "other_number", "other", "place", "log"]
theorem scMeetings : FnScope nMeetings ["book"] (defScope sMeetings) := ⟨rfl, rfl, rfl, by decide +kernel, rfl, by decide +kernel, by decide +kernel⟩
def optV : Option T → V
  | some l => vS l
  | none => .non
theorem putT (f : List T) (x : T) : putK (kvT f) (Sum.inr (S x)) (.bl true) = kvT (K9.put f x) := by
  unfold K9.put
  by_cases h : x ∈ f
  · rw [if_pos h]
    unfold putK
    rw [valV_any, valT_in h]
    rw [if_pos (show (some (V.bl true)).isSome = true from rfl)]
    unfold kvT
    rw [List.map_map]
    refine List.map_congr_left fun y _ => ?_
    show (if (Sum.inr (S y) : Key) = Sum.inr (S x) then ((Sum.inr (S y) : Key), V.bl true) else (Sum.inr (S y), V.bl true)) = _
    split <;> rfl
  · rw [if_neg h, putT_new h]
theorem put_len (f : List T) (x : T) : (K9.put f x).length ≤ f.length + 1 := by
  unfold K9.put
  split
  · omega
  · rw [List.length_append]
    exact Nat.le_refl _
section
variable {P : Program} {w : World} {K : PySem.W.Frag} {mg : Str → Option Value} {base : Heap} {Tb : List (Addr × Str)} {C : Addr}
def spMeeting : Sp := fun vs H Q _ => ∃ (one other : T) (p : Nat), vs = [vS one, vS other, .int (p : Nat)] ∧ one.length ≤ 1000 ∧ other.length ≤ 1000 ∧ p ≤ 1000 ∧ Q (optV (K9.meet one other p)) H
theorem ok_meeting {f : Addr} {fd : FuncData} (F : Fun K "meeting" "meeting" sMeeting f fd) (B : Bl mg) : FnOk P w K mg base CX0 1 f fd ["one", "other", "place"] spMeeting := by
  refine F.ok scMeeting (fun vs H Q E h => ?_) (fun cdv A outer s H vs Q E hr h => ?_)
  · obtain ⟨one, other, p, rfl, _⟩ := h
    rfl
  obtain ⟨one, other, p, rfl, h1, h2, h3, q⟩ := h
  have nd := scMeeting.nd
  have hsz : (2000 : Nat) ≤ sizeLine := by decide
  refine ⟨_, pss_cons (ps_set (i := 3) nd rfl (.inl rfl) (pe_slice sl_str (pv 0) (po_some (pv 2)) (po_some (pe_op op_add (pv 2) (pe_callB call_len_str (by rfl) B.len PySem.boot_len (pa_cons (pv 1) pa_nil))))))
    (pss_one (ps_ret (pe_ifExp (pt_val (pe_bm PySem.F.plainAttrs_str PySem.F.slot_str_startswith PySem.F.type_str_startswith mt_startswith (pv 1) (pa_cons (pv 3) pa_nil)))
      (pe_op op_add_str (pv 0) (pe_slice sl_str (pv 1) (po_some (pe_callB call_len_str (by rfl) B.len PySem.boot_len (pa_cons (pv 3) pa_nil))) po_none)) pe_non))), ?_⟩
  refine ⟨_, rfl, _, rfl, (p : Nat), rfl, _, rfl, _, rfl, S other, rfl, by rw [S_len]; omega, _, _, rfl, rfl, _, rfl, S one, rfl, by rw [S_len]; omega, ?_⟩
  have e : ((p : Nat) : Int) + ((S other).length : Int) = ((p + other.length : Nat) : Int) := by
    rw [S_len]
    omega
  rw [e, cutS_mid, Nat.add_sub_cancel_left]
  refine ⟨_, rfl, rfl, _, rfl, S other, _, rfl, rfl, _, rfl, ?_⟩
  rw [starts2]
  unfold K9.meet at q
  cases hc : ((one.drop p).take other.length).isPrefixOf other with
  | false =>
    rw [if_neg (by rw [hc]; exact Bool.false_ne_true)] at q
    exact iteF q
  | true =>
    rw [if_pos hc] at q
    have hcl : ((one.drop p).take other.length).length ≤ other.length := by
      rw [List.length_take]
      exact Nat.min_le_left _ _
    refine iteT ⟨_, rfl, _, rfl, _, rfl, S ((one.drop p).take other.length), rfl, by rw [S_len]; omega, _, rfl, S other, rfl, by rw [S_len]; omega, ?_⟩
    rw [S_len, cutS_from]
    refine ⟨_, _, rfl, rfl, ?_, ?_⟩
    · rw [S_len, S_len, List.length_drop]
      omega
    · rw [S_cat]
      exact q
/-! ### meetings -/
theorem fold_snoc {α β : Type} (g : α → β → α) (l : List β) (x : β) (a : α) : (l ++ [x]).foldl g a = g (l.foldl g a) x := by
  rw [List.foldl_append]
  rfl
def spMeetings (K : PySem.W.Frag) (Tb : List (Addr × Str)) (C : Addr) : Sp := fun vs H Q _ => ∃ (b : Addr) (ps : List T), vs = [.ref b] ∧ BookAt K C H b ps ∧ ps.length ≤ 12 ∧ (∀ p ∈ ps, p.length ≤ 8) ∧ LamX.Tabs Tb H ∧
  ∀ H' p, K0 Tb H H' → H' p = some (.lst ((K9.meetings ps).map vS)) → Q (.ref p) H'
theorem ok_meetings {f fM c Pt : Addr} {fd fdM : FuncData} (F : FunC K "meetings" "meetings" sMeetings f fd c) (B : Bl mg) (bk : BkC K C) (FM : Fun K "meeting" "meeting" sMeeting fM fdM) (bM : Binds K fdM ["one", "other", "place"] []) (gM : mg "meeting" = some (.ref fM))
    (TB : LamX.TabB base mg c Pt) (hmT : (Pt, lamQ "meetings") ∈ Tb) (huT : ∀ q ∈ Tb, q.1 = Pt → q.2 = lamQ "meetings") : FnOk P w K mg base CX0 2 f fd ["book"] (spMeetings K Tb C) := by
  have GM : FnOk P w K mg base CX0 1 fM fdM ["one", "other", "place"] spMeeting := ok_meeting FM B
  refine F.ok scMeetings (fun vs H Q E h => ?_) (fun A outer s H vs Q E hr h => ?_)
  · obtain ⟨b, ps, rfl, _⟩ := h
    rfl
  obtain ⟨b, ps, rfl, hb, h12, h8, hT, q⟩ := h
  have nd := scMeetings.nd
  have hu := hu_of hr
  refine ⟨_, pss_cons (ps_set (i := 1) nd rfl (.inl rfl) pe_dnewK)
    (pss_cons (ps_for PassesOwn.never rfl (pi_enumT (by rfl) B.enum (pa_cons (pe_fld (pv 0) rfl) pa_nil)) (pg_tup (n := 2) rfl (pgs_cons (pg_name (i := 2) nd rfl (.inl rfl)) (pgs_cons (pg_name (i := 3) nd rfl (.inl rfl)) pgs_nil)))
      (pss_one (ps_for PassesOwn.never rfl (pi_enumT (by rfl) B.enum (pa_cons (pe_fld (pv 0) rfl) pa_nil)) (pg_tup (n := 2) rfl (pgs_cons (pg_name (i := 4) nd rfl (.inl rfl)) (pgs_cons (pg_name (i := 5) nd rfl (.inl rfl)) pgs_nil)))
        (pss_one (ps_for PassesOwn.never rfl (pi_range1 (by rfl) B.range (pa_cons (pe_callB call_len_str (by rfl) B.len PySem.boot_len (pa_cons (pv 3) pa_nil)) pa_nil)) (pg_name (i := 6) nd rfl (.inl rfl))
          (pss_cons (ps_set (i := 7) nd rfl (.inl rfl) (pe_call GM hr (by rfl) gM FM.kp bM .nil pass0 (pa_cons (pv 3) (pa_cons (pv 5) (pa_cons (pv 6) pa_nil)))))
          (pss_one (ps_if (PW.pt (pw_and (pt_cmp (pc_notN (pv 7))) (pw_and1 (pt_cmpR (op_neD hr.units) (pe_tup (pa_cons (pv 2) (pa_cons pe_int pa_nil))) (pe_tup (pa_cons (pv 4) (pa_cons (pv 6) pa_nil))) (nomark _)))))
            (pss_one (ps_dput hu (pv 1) (pv 7) pe_bl rfl)) pss_nil))))))))
    (pss_one (ps_ret (pe_sortLam (nm := "log") (pv 1) rfl (hr.mono (by decide)) (by rfl) B.sorted B.len TB rfl hmT huT (fun _ _ _ _ _ _ => rfl))))), ?_⟩
  refine fun d nd0 => ?_
  have lp : (ps.map vS).length = ps.length := List.length_map _
  obtain ⟨dx, t, hb1, hTp⟩ := hb
  have k0 : K0 Tb H (upd H d (.dK [])) := .new nd0
  refine ⟨_, rfl, b, C, dx, _, _, rfl, k0.ins hb1 id, bk.cl, bk.na, rfl, t, ps.map vS, rfl, k0.sqT hTp id, ?_⟩
  refine for_it (walk_enumT (xs := ps.map vS)) (fun i σ H' => ∃ v2 v3 v4 v5 v6 v7 f, σ = [some (.ref b), some (.ref d), v2, v3, v4, v5, v6, v7] ∧ K0 Tb H H' ∧ H' d = some (.dK (kvT f)) ∧ f = (ps.zipIdx.take i).foldl (K9.stepI ps) [] ∧ f.length ≤ i * 96)
    ⟨none, none, none, none, none, none, [], rfl, k0, upd_same, rfl, by simp⟩ (fun i σ H1 _ hP => ?_) (fun i x σ H1 H2 hi hP hY => ?_) (fun σ H1 hP => ?_)
  · obtain ⟨_, _, _, _, _, _, _, _, k, _⟩ := hP
    exact k.sqT hTp id
  · obtain ⟨v2, v3, v4, v5, v6, v7, f, rfl, k, hd, ef, hfl⟩ := hP
    obtain ⟨T1, one, rfl, nT, rfl, e1⟩ := yp_map hY
    have k1 := k.trans (.new (o := .tup [.int (i : Nat), vS one]) nT)
    have hd1 : (upd H1 T1 (.tup [.int (i : Nat), vS one])) d = some (.dK (kvT f)) := by
      rw [upd_ne (ne_of_none hd nT)]
      exact hd
    have h1l : one.length ≤ 8 := h8 one (List.mem_of_getElem? e1)
    refine ⟨T1, _, rfl, .inl (.inl upd_same), rfl, _, _, rfl, _, _, rfl, rfl, ?_⟩
    refine ⟨_, rfl, b, C, dx, _, _, rfl, k1.ins hb1 id, bk.cl, bk.na, rfl, t, ps.map vS, rfl, k1.sqT hTp id, ?_⟩
    refine for_it (walk_enumT (xs := ps.map vS)) (fun j σ H' => ∃ v4 v5 v6 v7 g, σ = [some (.ref b), some (.ref d), some (.int (i : Nat)), some (vS one), v4, v5, v6, v7] ∧ K0 Tb H H' ∧ H' d = some (.dK (kvT g)) ∧ g = (ps.zipIdx.take j).foldl (K9.stepO i one) f ∧ g.length ≤ i * 96 + j * 8)
      ⟨_, _, _, _, f, rfl, k1, hd1, rfl, by simpa using hfl⟩ (fun j σ H2 _ hP => ?_) (fun j x σ H2 H3 hj hP hY => ?_) (fun σ H2 hP => ?_)
    · obtain ⟨_, _, _, _, _, _, k, _⟩ := hP
      exact k.sqT hTp id
    · obtain ⟨v4, v5, v6, v7, g, rfl, k2, hd2, eg, hgl⟩ := hP
      obtain ⟨T2, other, rfl, nT2, rfl, e2⟩ := yp_map hY
      have k3 := k2.trans (.new (o := .tup [.int (j : Nat), vS other]) nT2)
      have hd3 : (upd H2 T2 (.tup [.int (j : Nat), vS other])) d = some (.dK (kvT g)) := by
        rw [upd_ne (ne_of_none hd2 nT2)]
        exact hd2
      have h2l : other.length ≤ 8 := h8 other (List.mem_of_getElem? e2)
      refine ⟨T2, _, rfl, .inl (.inl upd_same), rfl, _, _, rfl, _, _, rfl, rfl, ?_⟩
      refine ⟨_, rfl, S one, rfl, by rw [S_len, sizeLine_eq]; omega, _, rfl, by omega, by rw [S_len]; omega, ?_⟩
      refine for_range (n := (((S one).length : Int)).toNat) (fun p σ H' => ∃ v6 v7 u, σ = [some (.ref b), some (.ref d), some (.int (i : Nat)), some (vS one), some (.int (j : Nat)), some (vS other), v6, v7] ∧ K0 Tb H H' ∧ H' d = some (.dK (kvT u)) ∧
          u = (List.range p).foldl (K9.stepP i j one other) g ∧ u.length ≤ i * 96 + j * 8 + p)
        ⟨_, _, g, rfl, k3, hd3, rfl, hgl⟩ (fun p σ H4 hp hP => ?_) (fun σ H4 hP => ?_)
      · obtain ⟨v6, v7, u, rfl, k4, hd4, eu, hul⟩ := hP
        rw [Int.zero_add]
        have hp8 : p < 8 := by
          rw [S_len] at hp
          omega
        refine ⟨_, rfl, _, rfl, _, rfl, one, other, p, rfl, by omega, by omega, by omega, ?_⟩
        have es : (List.range (p + 1)).foldl (K9.stepP i j one other) g = K9.stepP i j one other u p := by
          rw [List.range_succ, fold_snoc, eu]
        have hi12 : i < 12 := by
          rw [lp] at hi
          omega
        have hj12 : j < 12 := by
          rw [lp] at hj
          omega
        cases hm : K9.meet one other p with
        | none =>
          refine ⟨_, rfl, false, rfl, iteF (iteF ⟨_, _, u, rfl, k4, hd4, ?_, by omega⟩)⟩
          rw [es]
          unfold K9.stepP
          rw [hm]
        | some l =>
          refine ⟨_, rfl, true, rfl, iteT ?_⟩
          refine ⟨_, rfl, by show 2 ≤ sizeLine; decide, fun A1 nA1 => ⟨_, rfl, _, rfl, by show 2 ≤ sizeLine; decide, fun A2 nA2 => ?_⟩⟩
          have n12 : A1 ≠ A2 := ne_of_none upd_same nA2
          have k5 := (k4.trans (.new (o := .tup [.int (i : Nat), .int 0]) nA1)).trans (.new (o := .tup [.int (j : Nat), .int (p : Nat)]) nA2)
          have hd5 : (upd (upd H4 A1 (.tup [.int (i : Nat), .int 0])) A2 (.tup [.int (j : Nat), .int (p : Nat)])) d = some (.dK (kvT u)) := by
            have z1 : d ≠ A1 := ne_of_none hd4 nA1
            rw [upd_ne (ne_of_none (o := .dK (kvT u)) (by rw [upd_ne z1]; exact hd4) nA2), upd_ne z1]
            exact hd4
          refine ⟨.tuple [.int (i : Nat), .int 0], .tuple [.int (j : Nat), .int (p : Nat)], .tup (SqT.of (by rw [upd_ne n12]; exact upd_same)) (.cons (.int _) (.cons (.int _) .nil)), .tup (SqT.of upd_same) (.cons (.int _) (.cons (.int _) .nil)), rfl, rfl, ?_⟩
          have ev : PyData.eqv (.tuple [.int (i : Nat), .int 0]) (.tuple [.int (j : Nat), .int (p : Nat)]) = decide (i = j ∧ p = 0) := by
            simp only [PyData.eqv, PyData.eqvAll, Bool.and_true]
            by_cases z : i = j ∧ p = 0
            · rw [decide_eq_true z, z.1, z.2]
              simp
            · rw [decide_eq_false z]
              simp
              omega
          show ∃ k, V.bl (!PyData.eqv (.tuple [.int (i : Nat), .int 0]) (.tuple [.int (j : Nat), .int (p : Nat)])) = .bl k ∧ _
          rw [ev]
          by_cases z : i = j ∧ p = 0
          · rw [decide_eq_true z]
            refine ⟨false, rfl, iteF ⟨_, _, u, rfl, k5, hd5, ?_, by omega⟩⟩
            rw [es]
            unfold K9.stepP
            rw [hm]
            exact (if_pos z).symm
          · rw [decide_eq_false z]
            refine ⟨true, rfl, iteT ⟨_, rfl, _, rfl, d, _, rfl, DPut.k (k := Sum.inr (S l)) hd5 ?_, ?_⟩⟩
            · rw [kvT_len, sizeLine_eq]
              omega
            · rw [putT]
              refine ⟨_, _, K9.put u l, rfl, k5.set (.inl nd0) hd5 trivial, upd_same, ?_, ?_⟩
              · rw [es]
                unfold K9.stepP
                rw [hm]
                exact (if_neg z).symm
              · have q1 := put_len u l
                omega
      · obtain ⟨v6, v7, u, rfl, k4, hd4, eu, hul⟩ := hP
        have e3 : (((S one).length : Int)).toNat = one.length := by
          rw [S_len]
          omega
        rw [e3] at eu hul
        refine ⟨_, _, _, _, u, rfl, k4, hd4, ?_, by omega⟩
        rw [zip_take e2, fold_snoc, ← eg]
        exact eu
    · obtain ⟨v4, v5, v6, v7, g, rfl, k2, hd2, eg, hgl⟩ := hP
      rw [lp] at eg hgl
      refine ⟨_, _, _, _, _, _, g, rfl, k2, hd2, ?_, by omega⟩
      rw [zip_take e1, fold_snoc, ← ef, eg, List.take_of_length_le (by rw [List.length_zipIdx]; exact Nat.le_refl _)]
      rfl
  · obtain ⟨v2, v3, v4, v5, v6, v7, f, rfl, k, hd, ef, hfl⟩ := hP
    rw [lp, List.take_of_length_le (by rw [List.length_zipIdx]; exact Nat.le_refl _)] at ef
    have ef2 : f = K9.meetF ps := ef
    subst ef2
    refine ⟨_, rfl, d, K9.meetF ps, rfl, K9.nodup_meetF ps, by omega, fun x hx => ?_, k.tab hT, .inr hd, fun H2 p eN T2 np => ?_⟩
    · obtain ⟨one, other, p, h1, h2, h3, h4⟩ := K9.mem_meetF hx
      have a := K9.meet_len h4
      have b1 := h8 one h1
      have b2 := h8 other h2
      omega
    · exact q _ p ((k.trans (.ofN eN T2)).trans (.new np)) upd_same
end
end K9P
end

section
set_option Elab.async false
set_option linter.all false
set_option maxRecDepth 100000
set_option maxHeartbeats 4000000
/-! one_rest -/
namespace K9P
open PySem PySem.Spec PyProof.Rows L2 K9R
abbrev nOneRest : List Str := ["book", "log", "some"]
theorem scOneRest : FnScope nOneRest ["book"] (defScope sOneRest) := ⟨rfl, rfl, rfl, by decide +kernel, rfl, by decide +kernel, by decide +kernel⟩
section
variable {P : Program} {w : World} {K : PySem.W.Frag} {mg : Str → Option Value} {base : Heap} {Tb : List (Addr × Str)} {C : Addr}
def spOneRest (K : PySem.W.Frag) (Tb : List (Addr × Str)) (C : Addr) : Sp := fun vs H Q _ => ∃ (b : Addr) (ps : List T), vs = [.ref b] ∧ BookAt K C H b ps ∧ ps.length ≤ 12 ∧ (∀ p ∈ ps, p.length ≤ 8) ∧ LamX.Tabs Tb H ∧
  ∀ H' v r, K0 Tb H H' → K9.OneRest ps (K9.meetings ps) r → ResAt H' v r → Q v H'
theorem ok_oneRest {f fM fE fA : Addr} {fd fdM fdE fdA : FuncData} (F : Fun K "one_rest" "one_rest" sOneRest f fd) (B : Bl mg)
    (GM : FnOk P w K mg base CX0 2 fM fdM ["book"] (spMeetings K Tb C)) (kM : PySem.W.keepIn K (.ref fM) = true) (bM : Binds K fdM ["book"] []) (gM : mg "meetings" = some (.ref fM))
    (GE : FnOk P w K mg base CX0 2 fE fdE ["book", "texts"] (spEnds K Tb C)) (kE : PySem.W.keepIn K (.ref fE) = true) (bE : Binds K fdE ["book", "texts"] []) (gE : mg "ends_among" = some (.ref fE))
    (GA : FnOk P w K mg base CX0 2 fA fdA ["book", "log", "most"] (spAllLeft K Tb C)) (kA : PySem.W.keepIn K (.ref fA) = true) (bA : Binds K fdA ["book", "log", "most"] []) (gA : mg "all_left" = some (.ref fA)) :
    FnOk P w K mg base CX0 3 f fd ["book"] (spOneRest K Tb C) := by
  refine F.ok scOneRest (fun vs H Q E h => ?_) (fun cdv A outer s H vs Q E hr h => ?_)
  · obtain ⟨b, ps, rfl, _⟩ := h
    rfl
  obtain ⟨b, ps, rfl, hb, h12, h8, hT, q⟩ := h
  have nd := scOneRest.nd
  refine ⟨_, pss_cons (ps_for PassesOwn.never rfl (pi_list (pe_call GM hr (by rfl) gM kM bM .nil pass0 (pa_cons (pv 0) pa_nil))) (pg_name (i := 1) nd rfl (.inl rfl))
      (pss_cons (ps_set (i := 2) nd rfl (.inl rfl) (pe_call GE hr (by rfl) gE kE bE .nil pass0 (pa_cons (pv 0) (pa_cons (pe_call GA hr (by rfl) gA kA bA .nil pass0 (pa_cons (pv 0) (pa_cons (pv 1) (pa_cons pe_non pa_nil)))) pa_nil))))
      (pss_one (ps_if (pt_cmpR op_gt (pe_callB call_len_seq (by rfl) B.len PySem.boot_len (pa_cons (pv 2) pa_nil)) pe_int (nomark _))
        (pss_one (ps_ret (pe_tup (pa_cons (pv 1) (pa_cons (pe_ix ix_list (pv 2) pe_int (fun _ _ => rfl)) (pa_cons (pe_ix ix_list (pv 2) pe_int (fun _ _ => rfl)) pa_nil)))))) pss_nil))))
    (pss_one (ps_ret pe_non)), ?_⟩
  refine ⟨_, rfl, b, ps, rfl, hb, h12, h8, hT, fun H1 p k1 hp => ?_⟩
  refine ⟨p, rfl, ⟨_, SqL.of hp⟩, ?_⟩
  have lm : ((K9.meetings ps).map vS).length = (K9.meetings ps).length := List.length_map _
  refine for_list (K := K) (a := p) (xs := (K9.meetings ps).map vS) (fun i σ H' => ∃ v1 v2, σ = [some (.ref b), v1, v2] ∧ K0 Tb H H' ∧ H' p = some (.lst ((K9.meetings ps).map vS)) ∧ ∀ r, K9.OneRest ps ((K9.meetings ps).drop i) r → K9.OneRest ps (K9.meetings ps) r)
    ⟨none, none, rfl, k1, hp, fun r h => h⟩ (fun i σ H' _ hP => ?_) (fun i x σ H2 hx hP => ?_) (fun σ H2 hP => ?_)
  · obtain ⟨_, _, _, _, hp', _⟩ := hP
    exact SqL.of hp'
  · obtain ⟨v1, v2, rfl, k2, hp2, ho⟩ := hP
    obtain ⟨l, el, rfl⟩ := map_at hx
    have hl16 : l.length ≤ 16 := by
      have hm : l ∈ K9.meetF ps := (K9.mem_isort l _).mp (List.mem_of_getElem? el)
      obtain ⟨one, other, p, h1, h2, h3, h4⟩ := K9.mem_meetF hm
      have a := K9.meet_len h4
      have b1 := h8 one h1
      have b2 := h8 other h2
      omega
    have ed : (K9.meetings ps).drop i = l :: (K9.meetings ps).drop (i + 1) := by
      obtain ⟨hlt, e⟩ := List.getElem?_eq_some_iff.mp el
      rw [← e]
      exact List.drop_eq_getElem_cons hlt
    refine ⟨_, rfl, _, rfl, _, rfl, b, ps, l, rfl, hb.keep k2, h12, h8, hl16, fun H3 d f k3 nd3 hd hfl hA => ?_⟩
    have k23 := k2.trans k3
    refine ⟨b, d, ps, f, rfl, hb.keep k23, h12, hd, hA.1, hfl, fun x hx => ?_, k23.tab hT, fun H4 e k4 he => ?_⟩
    · have z := ((hA.2 x).mp hx).sub.length_le
      omega
    have k24 := k23.trans k4
    refine ⟨_, rfl, e, _, rfl, .inl (SqL.of he), _, 1, rfl, rfl, _, rfl, ?_⟩
    rw [List.length_map]
    cases ee : K9.isort (f.filter (K9.stuck ps)) with
    | nil =>
      refine iteF ⟨_, _, rfl, k24, (k3.trans k4).lst hp2 id, fun r h => ho r ?_⟩
      rw [ed]
      refine ⟨f, hA, ?_⟩
      rw [ee]
      exact h
    | cons x1 t1 =>
      cases t1 with
      | nil =>
        refine iteF ⟨_, _, rfl, k24, (k3.trans k4).lst hp2 id, fun r h => ho r ?_⟩
        rw [ed]
        refine ⟨f, hA, ?_⟩
        rw [ee]
        exact h
      | cons x2 t2 =>
        have ht : decide ((1 : Int) < ((x1 :: x2 :: t2).length : Nat)) = true := decide_eq_true (by simp; omega)
        show if decide ((1 : Int) < ((x1 :: x2 :: t2).length : Nat)) = true then _ else _
        rw [ht]
        rw [ee] at he
        refine iteT ⟨_, rfl, _, rfl, e, _, _, vS x1, rfl, rfl, SqL.of he, atI_nat (j := 0) rfl, _, rfl, e, _, _, vS x2, rfl, rfl, SqL.of he, atI_nat (j := 1) rfl, by show 3 ≤ sizeLine; decide, fun t nt => ?_⟩
        refine q _ _ (some (l, x1, x2)) (k24.trans (.new nt)) (ho _ ?_) ⟨t, rfl, upd_same⟩
        rw [ed]
        refine ⟨f, hA, ?_⟩
        rw [ee]
  · obtain ⟨v1, v2, rfl, k2, hp2, ho⟩ := hP
    refine q H2 .non none k2 (ho none ?_) rfl
    rw [lm, List.drop_length]
    rfl
end
end K9P
end

section
set_option Elab.async false
set_option linter.all false
set_option maxRecDepth 100000
set_option maxHeartbeats 4000000
/-! the law's hand: _law_hand, _law_draw, _law_any -/
namespace K9P
open PySem PySem.Spec PyProof.Rows L2 K9R
abbrev nHand : List Str := ["_law_script", "_law_cells", "_law_cell"]
theorem scHand : FnScope nHand ["_law_script"] (defScope sHand) := ⟨rfl, rfl, rfl, by decide +kernel, rfl, by decide +kernel, by decide +kernel⟩
abbrev nDraw : List Str := ["_law_hand_here", "_law_many", "_law_cell", "_law_digit", "_law_number"]
theorem scDraw : FnScope nDraw ["_law_hand_here", "_law_many"] (defScope sDraw) := ⟨rfl, rfl, rfl, by decide +kernel, rfl, by decide +kernel, by decide +kernel⟩
abbrev nAny : List Str := ["_law_hand_here", "_law_items"]
theorem scAny : FnScope nAny ["_law_hand_here", "_law_items"] (defScope sAny) := ⟨rfl, rfl, rfl, by decide +kernel, rfl, by decide +kernel, by decide +kernel⟩
abbrev handL (c : Addr) (i z n k : Int) : List V := [.ref c, .int i, .int z, .int n, .int k]
/-- the law's hand stands at h -/
def HandAt (H : Hp) (h c : Addr) : Prop := ∃ (cells : List Int) (i z n k : Int), H h = some (.lst (handL c i z n k)) ∧ H c = some (.lst (cells.map V.int)) ∧ 0 ≤ i ∧ cells.length ≤ 63
theorem hand_ne {H : Hp} {h c : Addr} {cells : List Int} {i z n k : Int} (e1 : H h = some (.lst (handL c i z n k))) (e2 : H c = some (.lst (cells.map V.int))) : c ≠ h := by
  refine ne_of e2 e1 fun q => ?_
  injection q with q
  cases cells with
  | nil => cases q
  | cons a r => cases q
theorem HandAt.keep {Tb : List (Addr × Str)} {H H1 : Hp} {h c : Addr} (k : K0 Tb H H1) (x : HandAt H h c) : HandAt H1 h c := by
  obtain ⟨cells, i, z, n, kk, e1, e2, r⟩ := x
  exact ⟨cells, i, z, n, kk, k.lst e1 id, k.lst e2 id, r⟩
theorem HandAt.upd {H : Hp} {h c p : Addr} {o : HO} (x : HandAt H h c) (h1 : h ≠ p) (h2 : c ≠ p) : HandAt (upd H p o) h c := by
  obtain ⟨cells, i, z, n, kk, e1, e2, r⟩ := x
  exact ⟨cells, i, z, n, kk, (upd_ne h1).trans e1, (upd_ne h2).trans e2, r⟩
theorem HandAt.ne {H : Hp} {h c p : Addr} (x : HandAt H h c) (n : H p = none) : h ≠ p ∧ c ≠ p := by
  obtain ⟨cells, i, z, n', kk, e1, e2, r⟩ := x
  exact ⟨ne_of_none e1 n, ne_of_none e2 n⟩
theorem HandAt.some {H : Hp} {h c : Addr} (x : HandAt H h c) : ∃ ys, H h = some (.lst ys) := by
  obtain ⟨cells, i, z, n', kk, e1, e2, r⟩ := x
  exact ⟨_, e1⟩
section
variable {P : Program} {w : World} {K : PySem.W.Frag} {mg : Str → Option Value} {base : Heap} {Tb : List (Addr × Str)} {C : Addr}
def spHand (K : PySem.W.Frag) (Tb : List (Addr × Str)) : Sp := fun vs H Q _ => ∃ (a : Addr) (ns : List Int), vs = [.ref a] ∧ SqL K H a (ns.map V.int) ∧ ∀ H' h c, K0 Tb H H' → HandAt H' h c → Q (.ref h) H'
theorem ok_hand {f : Addr} {fd : FuncData} (F : Fun K "_law_hand" "_law_hand" sHand f fd) (B : Bl mg) : FnOk P w K mg base CX0 1 f fd ["_law_script"] (spHand K Tb) := by
  refine F.ok scHand (fun vs H Q E h => ?_) (fun cdv A outer s H vs Q E hr h => ?_)
  · obtain ⟨a, ns, rfl, _⟩ := h
    rfl
  obtain ⟨a, ns, rfl, hS, q⟩ := h
  have nd := scHand.nd
  refine ⟨_, pss_cons (ps_setLc (i := 1) (own := [("_law_cell", 2)]) (g := gName 2) (tt := tYes) rfl nd rfl rfl (sw_true rfl rfl rfl (by decide +kernel)) (pi_list (pe_slice sl_list (pv 0) po_none (po_some pe_int))) (blkOk_by (N := nHand) (sc := defScope sHand) (by decide +kernel))
      (fun _ _ _ _ _ => pg_name (i := 2) nd rfl (.inl rfl)) (fun _ _ _ _ _ => pts_nil)
      (fun _ _ _ _ _ => pe_callB call_abs (by rfl) B.abs (by decide +kernel) (pa_cons (pe_callTy call_int1 (by rfl) B.int (by decide +kernel) (pa_cons (pv 2) pa_nil)) pa_nil)))
    (pss_one (ps_ret (pe_lst (pa_cons (pv 1) (pa_cons pe_int (pa_cons pe_int (pa_cons (pe_op op_add pe_int (pe_callB call_len_seq (by rfl) B.len PySem.boot_len (pa_cons (pv 1) pa_nil))) (pa_cons pe_int pa_nil)))))))), ?_⟩
  refine ⟨_, rfl, 63, rfl, a, ns.map V.int, rfl, hS, fun p np => ?_⟩
  have ec : cutV (ns.map V.int) none (some (63 : Int)) = (ns.take 63).map V.int := by
    unfold cutV
    rw [HT.sIx_none, show (63 : Int) = ((63 : Nat) : Int) from rfl, HT.sIx_nat, List.drop_zero, Nat.sub_zero, List.map_take]
    by_cases z : 63 ≤ (ns.map V.int).length
    · rw [Nat.min_eq_left z]
    · rw [Nat.min_eq_right (by omega), List.take_length, List.take_of_length_le (by omega)]
  have hp : (upd H p (.lst (cutV (ns.map V.int) none (some 63)))) p = some (.lst ((ns.take 63).map V.int)) := by
    rw [← ec]
    exact upd_same
  refine ⟨p, rfl, ⟨_, SqL.of hp⟩, fun D nD => ?_⟩
  have nDp : p ≠ D := ne_of_none hp nD
  have k0 : K0 Tb H (upd H p (.lst (cutV (ns.map V.int) none (some 63)))) := .new np
  have l63 : (ns.take 63).length ≤ 63 := by
    rw [List.length_take]
    exact Nat.min_le_left _ _
  have nD0 : H D = none := by
    rw [upd_ne nDp.symm] at nD
    exact nD
  refine lc_it (walk_list (K := K) (a := p) (xs := (ns.take 63).map V.int)) (fun i H' => ∃ cells : List Int, H' D = some (.lst (cells.map V.int)) ∧ cells.length = i ∧ K0 Tb (upd H p (.lst (cutV (ns.map V.int) none (some 63)))) H')
    ⟨[], upd_same, rfl, .new nD⟩ (fun i H' _ hP => ?_) (fun i x H1 H2 hi hP hY => ?_) (fun H1 hP => ?_)
  · obtain ⟨_, _, _, k⟩ := hP
    exact SqL.of (k.lst hp id)
  · obtain ⟨cells, hD, hl, k⟩ := hP
    obtain ⟨rfl, hx⟩ := hY
    obtain ⟨n, en, rfl⟩ := map_at hx
    rw [List.length_map] at hi
    refine ⟨rfl, _, rfl, .inl ⟨n, rfl, n, rfl, _, hD, ?_, cells ++ [if n < 0 then -n else n], ?_, ?_, k.set (.inl nD) hD trivial⟩⟩
    · rw [List.length_map, sizeLine_eq]
      omega
    · rw [List.map_append]
      exact upd_same
    · rw [List.length_append, hl]
      rfl
  · obtain ⟨cells, hD, hl, k⟩ := hP
    rw [List.length_map] at hl
    refine ⟨_, rfl, _, rfl, D, _, rfl, .inl (SqL.of hD), _, _, rfl, rfl, by show 5 ≤ sizeLine; decide, fun h nh => ?_⟩
    refine q _ h D ((k0.trans k).trans (.new nh)) ⟨cells, 0, 0, _, 0, upd_same, ?_, Int.le_refl 0, by omega⟩
    rw [upd_ne (ne_of_none hD nh)]
    exact hD
/-! ### _law_draw -/
def spDraw (Tb : List (Addr × Str)) : Sp := fun vs H Q _ => ∃ (h c : Addr) (m : Int), vs = [.ref h, .int m] ∧ HandAt H h c ∧ 0 < m ∧ m < 1073741824 ∧ ∀ H' d, K1 Tb h H H' → HandAt H' h c → 0 ≤ d → d < m → Q (.int d) H'
theorem ok_draw {f : Addr} {fd : FuncData} (F : Fun K "_law_draw" "_law_draw" sDraw f fd) (B : Bl mg) : FnOk P w K mg base CX0 1 f fd ["_law_hand_here", "_law_many"] (spDraw Tb) := by
  refine F.ok scDraw (fun vs H Q E h => ?_) (fun cdv A outer s H vs Q E hr h => ?_)
  · obtain ⟨h, c, m, rfl, _⟩ := h
    rfl
  obtain ⟨h, c, m, rfl, ⟨cells, i, z, n, k, hh, hc, hi, h63⟩, m0, m1, q⟩ := h
  have nd := scDraw.nd
  refine ⟨_, C8.pss_cut (ps_if (PW.pt (pw_and (pt_cmpR op_eq (pe_ix ix_list (pv 0) pe_int (fun _ _ => rfl)) pe_int (nomark _))
      (pw_and1 (pt_cmpR op_lt (pe_ix ix_list (pv 0) pe_int (fun _ _ => rfl)) (pe_callB call_len_seq (by rfl) B.len PySem.boot_len (pa_cons (pe_ix ix_list (pv 0) pe_int (fun _ _ => rfl)) pa_nil)) (nomark _)))))
      (pss_cons (ps_set (i := 2) nd rfl (.inl rfl) (pe_ix ix_list (pe_ix ix_list (pv 0) pe_int (fun _ _ => rfl)) (pe_ix ix_list (pv 0) pe_int (fun _ _ => rfl)) (fun _ _ => rfl)))
      (pss_cons (ps_asg (pe_op op_add (pe_ix ix_list (pv 0) pe_int (fun _ _ => rfl)) pe_int) (pg_sub (pv 0) pe_int set_list))
      (pss_cons (ps_asg (pe_op op_mod (pe_callTy call_int1 (by rfl) B.int (by decide +kernel) (pa_cons (pe_op op_add (pe_op op_add (pe_op op_mul (pe_ix ix_list (pv 0) pe_int (fun _ _ => rfl)) pe_int) (pv 2)) pe_int) pa_nil)) pe_int) (pg_sub (pv 0) pe_int set_list))
      (pss_one (ps_if (pt_cmpR op_ge (pv 2) (pe_op op_pow pe_int pe_int) (nomark _)) (pss_one (ps_asg (pv 2) (pg_sub (pv 0) pe_int set_list))) pss_nil))))) pss_nil)
    (pss_cons (ps_if (pt_cmpR op_gt (pe_ix ix_list (pv 0) pe_int (fun _ _ => rfl)) pe_int (nomark _))
      (pss_cons (ps_set (i := 3) nd rfl (.inl rfl) (pe_op op_mod (pe_callTy call_int1 (by rfl) B.int (by decide +kernel) (pa_cons (pe_ix ix_list (pv 0) pe_int (fun _ _ => rfl)) pa_nil)) (pv 1)))
      (pss_cons (ps_asg (pe_op op_fdiv (pe_ix ix_list (pv 0) pe_int (fun _ _ => rfl)) (pv 1)) (pg_sub (pv 0) pe_int set_list))
      (pss_one (ps_ret (pv 3))))) pss_nil)
    (pss_cons (ps_asg (pe_op op_add (pe_ix ix_list (pv 0) pe_int (fun _ _ => rfl)) pe_int) (pg_sub (pv 0) pe_int set_list))
    (pss_cons (ps_set (i := 4) nd rfl (.inl rfl) (pe_op op_mod (pe_callTy call_int1 (by rfl) B.int (by decide +kernel) (pa_cons (pe_op op_mul (pe_callTy call_int1 (by rfl) B.int (by decide +kernel) (pa_cons
        (pe_op op_add (pe_ix ix_list (pv 0) pe_int (fun _ _ => rfl)) (pe_op op_mul pe_int (pe_ix ix_list (pv 0) pe_int (fun _ _ => rfl)))) pa_nil)) pe_int) pa_nil)) pe_int))
    (pss_cons (ps_set (i := 4) nd rfl (.inl rfl) (pe_op op_mod (pe_callTy call_int1 (by rfl) B.int (by decide +kernel) (pa_cons (pe_op op_mul (pv 4) (pe_op op_add (pe_op op_fdiv (pv 4) pe_int) pe_int)) pa_nil)) pe_int))
    (pss_cons (ps_set (i := 4) nd rfl (.inl rfl) (pe_op op_mod (pe_callTy call_int1 (by rfl) B.int (by decide +kernel) (pa_cons (pe_op op_mul (pv 4) (pe_op op_add (pe_op op_fdiv (pv 4) pe_int) pe_int)) pa_nil)) pe_int))
    (pss_one (ps_ret (pe_op op_mod (pe_callTy call_int1 (by rfl) B.int (by decide +kernel) (pa_cons (pe_op op_fdiv (pv 4) pe_int) pa_nil)) (pv 1))))))))), ?_⟩
  refine ⟨fun σ H' => ∃ v2 i z n, σ = [some (.ref h), some (.int m), v2, none, none] ∧ K1 Tb h H H' ∧ H' h = some (.lst (handL c i z n k)) ∧ H' c = some (.lst (cells.map V.int)) ∧ 0 ≤ i, ?_, fun σ H1 hM => ?_⟩
  · -- the first test
    refine ⟨_, rfl, h, _, _, _, rfl, rfl, SqL.of hh, atI_nat (j := 2) rfl, rfl, _, rfl, ?_⟩
    have stay : ∃ v2 i z n, (start nDraw [V.ref h, V.int m]) = [some (.ref h), some (.int m), v2, none, none] ∧ K1 Tb h H H ∧ H h = some (.lst (handL c i z n k)) ∧ H c = some (.lst (cells.map V.int)) ∧ 0 ≤ i := ⟨none, i, z, n, rfl, .refl, hh, hc, hi⟩
    cases e0 : decide (V.int z = V.int 0) with
    | false => exact iteF (iteF stay)
    | true =>
      refine iteT ⟨_, rfl, h, _, _, _, rfl, rfl, SqL.of hh, atI_nat (j := 1) rfl, _, rfl, h, _, _, _, rfl, rfl, SqL.of hh, atI_nat (j := 0) rfl, c, _, rfl, .inl (SqL.of hc), _, _, rfl, rfl, _, rfl, ?_⟩
      rw [List.length_map]
      by_cases hlt : i < (cells.length : Nat)
      · show if decide (i < (cells.length : Nat)) = true then _ else _
        rw [decide_eq_true hlt]
        obtain ⟨j, rfl⟩ := Int.eq_ofNat_of_zero_le hi
        have hj : j < cells.length := by omega
        have hcj : (cells.map V.int)[j]? = some (.int cells[j]) := by
          rw [List.getElem?_map, List.getElem?_eq_getElem hj]
          rfl
        refine iteT ⟨_, rfl, h, _, _, _, rfl, rfl, SqL.of hh, atI_nat (j := 0) rfl, _, rfl, h, _, _, _, rfl, rfl, SqL.of hh, atI_nat (j := 1) rfl, c, _, _, _, rfl, rfl, SqL.of hc, atI_nat hcj, ?_⟩
        have hch : c ≠ h := hand_ne hh hc
        refine ⟨_, rfl, h, _, _, _, rfl, rfl, SqL.of hh, atI_nat (j := 1) rfl, _, _, rfl, rfl, _, rfl, h, _, _, 1, rfl, rfl, hh, rfl, ?_⟩
        have k1 : K1 Tb h H (upd H h (.lst (handL c ((j : Int) + 1) z n k))) := Kp.refl.set (.inr rfl) hh trivial
        have hh1 : (upd H h (.lst (handL c ((j : Int) + 1) z n k))) h = some (.lst (handL c ((j : Int) + 1) z n k)) := upd_same
        have hc1 : (upd H h (.lst (handL c ((j : Int) + 1) z n k))) c = some (.lst (cells.map V.int)) := (upd_ne hch).trans hc
        have hj1 : (0 : Int) ≤ (j : Int) + 1 := by omega
        refine ⟨_, rfl, h, _, _, _, rfl, rfl, SqL.of hh1, atI_nat (j := 3) rfl, _, _, rfl, rfl, .inr ⟨by decide, by decide⟩, _, rfl, _, _, rfl, rfl, _, _, rfl, rfl, .inl ⟨_, rfl, _, _, rfl, rfl, (by decide : (0 : Int) < 2147483629), _, rfl, h, _, _, 3, rfl, rfl, hh1, rfl, ?_⟩⟩
        have k2 : ∀ n2 : Int, K1 Tb h H (upd (upd H h (.lst (handL c ((j : Int) + 1) z n k))) h (.lst (handL c ((j : Int) + 1) z n2 k))) := fun n2 => k1.set (.inr rfl) hh1 trivial
        have hh2 : ∀ n2 : Int, (upd (upd H h (.lst (handL c ((j : Int) + 1) z n k))) h (.lst (handL c ((j : Int) + 1) z n2 k))) h = some (.lst (handL c ((j : Int) + 1) z n2 k)) := fun _ => upd_same
        have hc2 : ∀ n2 : Int, (upd (upd H h (.lst (handL c ((j : Int) + 1) z n k))) h (.lst (handL c ((j : Int) + 1) z n2 k))) c = some (.lst (cells.map V.int)) := fun _ => (upd_ne hch).trans hc1
        refine ⟨_, rfl, _, _, rfl, rfl, ⟨by decide, by decide, by decide⟩, _, _, rfl, rfl, _, rfl, ?_⟩
        cases decide ((10 : Int) ^ (18 : Int).toNat ≤ cells[j]) with
        | false => exact iteF ⟨_, _, _, _, rfl, k2 _, hh2 _, hc2 _, hj1⟩
        | true => exact iteT ⟨_, rfl, _, rfl, h, _, _, 2, rfl, rfl, hh2 _, rfl, _, _, _, _, rfl, (k2 _).set (.inr rfl) (hh2 _) trivial, upd_same, (upd_ne hch).trans (hc2 _), hj1⟩
      · show if decide (i < (cells.length : Nat)) = true then _ else _
        rw [decide_eq_false hlt]
        exact iteF stay
  · obtain ⟨v2, i, z, n, rfl, k1, hh1, hc1, hi1⟩ := hM
    have hch : c ≠ h := hand_ne hh1 hc1
    refine ⟨_, rfl, h, _, _, _, rfl, rfl, SqL.of hh1, atI_nat (j := 2) rfl, _, _, rfl, rfl, _, rfl, ?_⟩
    show if decide ((0 : Int) < z) = true then _ else _
    by_cases hz : (0 : Int) < z
    · rw [decide_eq_true hz]
      refine iteT ⟨_, rfl, h, _, _, _, rfl, rfl, SqL.of hh1, atI_nat (j := 2) rfl, .inl ⟨_, rfl, _, rfl, _, _, rfl, rfl, m0, ?_⟩⟩
      refine ⟨_, rfl, h, _, _, _, rfl, rfl, SqL.of hh1, atI_nat (j := 2) rfl, _, rfl, _, _, rfl, rfl, ⟨m0, m1⟩, _, rfl, h, _, _, 2, rfl, rfl, hh1, rfl, ?_⟩
      refine ⟨_, rfl, q _ _ (k1.set (.inr rfl) hh1 trivial) ⟨cells, i, _, n, k, upd_same, (upd_ne hch).trans hc1, hi1, h63⟩ (Int.emod_nonneg _ (by omega)) (Int.emod_lt_of_pos _ m0)⟩
    · rw [decide_eq_false hz]
      refine iteF ⟨_, rfl, h, _, _, _, rfl, rfl, SqL.of hh1, atI_nat (j := 4) rfl, _, _, rfl, rfl, _, rfl, h, _, _, 4, rfl, rfl, hh1, rfl, ?_⟩
      have k2 : K1 Tb h H (upd H1 h (.lst (handL c i z n (k + 1)))) := k1.set (.inr rfl) hh1 trivial
      have hh2 : (upd H1 h (.lst (handL c i z n (k + 1)))) h = some (.lst (handL c i z n (k + 1))) := upd_same
      have hc2 : (upd H1 h (.lst (handL c i z n (k + 1)))) c = some (.lst (cells.map V.int)) := (upd_ne hch).trans hc1
      refine ⟨_, rfl, h, _, _, _, rfl, rfl, SqL.of hh2, atI_nat (j := 3) rfl, _, rfl, h, _, _, _, rfl, rfl, SqL.of hh2, atI_nat (j := 4) rfl, _, _, rfl, rfl, .inl ⟨by decide, by decide⟩, _, _, rfl, rfl, .inl ⟨_, rfl, _, _, rfl, rfl, .inr ⟨by decide, by decide⟩, .inl ⟨_, rfl, _, _, rfl, rfl, (by decide : (0 : Int) < 2147483647), ?_⟩⟩⟩
      have b1 := Int.emod_nonneg ((n + 7919 * (k + 1)) * 48271) (b := 2147483647) (by decide)
      have b2 := Int.emod_lt_of_pos ((n + 7919 * (k + 1)) * 48271) (b := 2147483647) (by decide)
      refine ⟨_, rfl, _, rfl, _, _, rfl, rfl, ⟨by decide, by decide⟩, _, _, rfl, rfl, _, _, rfl, rfl, .inl ⟨Int.lt_of_lt_of_le (by decide) b1, Int.lt_trans b2 (by decide)⟩, .inl ⟨_, rfl, _, _, rfl, rfl, (by decide : (0 : Int) < 2147483647), ?_⟩⟩
      have b3 := Int.emod_nonneg ((((n + 7919 * (k + 1)) * 48271) % 2147483647) * ((((n + 7919 * (k + 1)) * 48271) % 2147483647) / 1009 + 69621)) (b := 2147483647) (by decide)
      have b4 := Int.emod_lt_of_pos ((((n + 7919 * (k + 1)) * 48271) % 2147483647) * ((((n + 7919 * (k + 1)) * 48271) % 2147483647) / 1009 + 69621)) (b := 2147483647) (by decide)
      refine ⟨_, rfl, _, rfl, _, _, rfl, rfl, ⟨by decide, by decide⟩, _, _, rfl, rfl, _, _, rfl, rfl, .inl ⟨Int.lt_of_lt_of_le (by decide) b3, Int.lt_trans b4 (by decide)⟩, .inl ⟨_, rfl, _, _, rfl, rfl, (by decide : (0 : Int) < 2147483399), ?_⟩⟩
      refine ⟨_, rfl, _, _, rfl, rfl, ⟨by decide, by decide⟩, .inl ⟨_, rfl, _, rfl, _, _, rfl, rfl, m0, ?_⟩⟩
      exact q _ _ k2 ⟨cells, i, z, n, k + 1, hh2, hc2, hi1, h63⟩ (Int.emod_nonneg _ (by omega)) (Int.emod_lt_of_pos _ m0)
end
end K9P
end

section
set_option Elab.async false
set_option linter.all false
set_option maxRecDepth 100000
set_option maxHeartbeats 4000000
/-! _law_any, _law_is -/
namespace K9P
open PySem PySem.Spec PyProof.Rows L2 K9R
theorem seqIndex_ok {n d : Nat} (h : d < n) : seqIndex? (d : Int) n = some d := by
  unfold seqIndex?
  have e : ¬ ((d : Int) < 0) := by omega
  simp [h, e]
/-- a list, a tuple or a text, by its items -/
def Items (K : PySem.W.Frag) (H : Hp) (x : V) (ws : List V) : Prop := (∃ a, x = .ref a ∧ H a = some (.lst ws)) ∨ (∃ l : T, x = vS l ∧ ws = l.map fun c => vS [c])
section
variable {P : Program} {w : World} {K : PySem.W.Frag} {mg : Str → Option Value} {base : Heap} {Tb : List (Addr × Str)} {C : Addr}
def spAny (K : PySem.W.Frag) (Tb : List (Addr × Str)) : Sp := fun vs H Q _ => ∃ (h c : Addr) (x : V) (ws : List V), vs = [.ref h, x] ∧ HandAt H h c ∧ Items K H x ws ∧ x ≠ .ref h ∧ 0 < ws.length ∧ ws.length ≤ 1000 ∧ ∀ H' v, K1 Tb h H H' → HandAt H' h c → v ∈ ws → Q v H'
theorem ok_any {f fD : Addr} {fd fdD : FuncData} (F : Fun K "_law_any" "_law_any" sAny f fd) (B : Bl mg) (FD : Fun K "_law_draw" "_law_draw" sDraw fD fdD) (bD : Binds K fdD ["_law_hand_here", "_law_many"] []) (gD : mg "_law_draw" = some (.ref fD)) :
    FnOk P w K mg base CX0 2 f fd ["_law_hand_here", "_law_items"] (spAny K Tb) := by
  have GD : FnOk P w K mg base CX0 1 fD fdD ["_law_hand_here", "_law_many"] (spDraw Tb) := ok_draw FD B
  refine F.ok scAny (fun vs H Q E h => ?_) (fun cdv A outer s H vs Q E hr h => ?_)
  · obtain ⟨h, c, x, ws, rfl, _⟩ := h
    rfl
  obtain ⟨h, ce, x, ws, rfl, hh, hi, hx, hw0, hw1, q⟩ := h
  have nd := scAny.nd
  refine ⟨_, pss_one (ps_ret (pe_ix ix_seq (pv 1) (pe_call GD hr (by rfl) gD FD.kp bD .nil pass0 (pa_cons (pv 0) (pa_cons (pe_callB (call_len_seq.or call_len_str) (by rfl) B.len PySem.boot_len (pa_cons (pv 1) pa_nil)) pa_nil))) (fun _ _ => rfl))), ?_⟩
  refine ⟨_, rfl, _, rfl, _, rfl, ?_⟩
  have hm : ∀ d : Int, 0 ≤ d → d < (ws.length : Nat) → ∃ (j : Nat) (v : V), d = (j : Int) ∧ ws[j]? = some v ∧ v ∈ ws := fun d h1 h2 => by
    obtain ⟨j, rfl⟩ := Int.eq_ofNat_of_zero_le h1
    have hj : j < ws.length := by omega
    exact ⟨j, ws[j], rfl, List.getElem?_eq_getElem hj, List.getElem_mem hj⟩
  rcases hi with ⟨a, rfl, ha⟩ | ⟨l, rfl, rfl⟩
  · have hah : ¬ a = h := fun z => hx (by rw [z])
    refine .inl ⟨a, ws, rfl, .inl (SqL.of ha), ?_⟩
    refine ⟨h, ce, (ws.length : Nat), rfl, hh, by omega, by omega, fun H' d k1 hh1 d0 d1 => ?_⟩
    obtain ⟨j, v, rfl, hj, hv⟩ := hm d d0 d1
    exact .inl ⟨a, ws, _, v, rfl, rfl, SqL.of (k1.lst ha hah), atI_nat hj, q H' v k1 hh1 hv⟩
  · rw [List.length_map] at hw0 hw1
    refine .inr ⟨S l, rfl, by rw [S_len, sizeLine_eq]; omega, ?_⟩
    refine ⟨h, ce, ((S l).length : Nat), rfl, hh, by rw [S_len]; omega, by rw [S_len]; omega, fun H' d k1 hh1 d0 d1 => ?_⟩
    rw [S_len] at d1
    obtain ⟨j, v, rfl, hj, hv⟩ := hm d d0 (by rw [List.length_map]; exact d1)
    rw [List.getElem?_map] at hj
    cases e : l[j]? with
    | none =>
      rw [e] at hj
      cases hj
    | some c =>
      rw [e] at hj
      refine .inr (.inr ⟨S l, _, c, rfl, rfl, by rw [S_len, sizeLine_eq]; omega, atI_nat (by rw [S_list]; exact e), ?_⟩)
      have ev : v = vS [c] := (Option.some.inj hj).symm
      rw [← show vS [c] = V.str ⟨#[c]⟩ from rfl, ← ev]
      exact q H' v k1 hh1 hv
/-! ### _law_is -/
abbrev nIs : List Str := ["_law_told", "_law_due", "_law_one", "_law_two"]
theorem scIs : FnScope nIs ["_law_told", "_law_due"] (defScope sIs) := ⟨rfl, rfl, rfl, by decide +kernel, rfl, by decide +kernel, by decide +kernel⟩
/-- told and due answer alike -/
def Flat (x y : V) : Prop := x = y ∧ (x = .non ∨ ∃ l : T, x = vS l)
def EqV (H : Hp) : Nat → V → V → Prop
  | 0, x, y => Flat x y
  | n + 1, x, y => Flat x y ∨ ∃ (a b : Addr) (xs ys : List V), x = .ref a ∧ y = .ref b ∧ ((H a = some (.tup xs) ∧ H b = some (.tup ys)) ∨ (H a = some (.lst xs) ∧ H b = some (.lst ys))) ∧ xs.length ≤ 1000 ∧ Paired (EqV H n) xs ys
theorem EqV.keep {H H1 : Hp} (k : K0 Tb H H1) : ∀ {n : Nat} {x y : V}, EqV H n x y → EqV H1 n x y := by
  intro n
  induction n with
  | zero => exact fun h => h
  | succ n ih =>
    intro x y h
    rcases h with h | ⟨a, b, xs, ys, h1, h2, h3, h4, h5⟩
    · exact .inl h
    · refine .inr ⟨a, b, xs, ys, h1, h2, ?_, h4, paired_mono h5 fun a b => ih⟩
      rcases h3 with ⟨e1, e2⟩ | ⟨e1, e2⟩
      · exact .inl ⟨k.tup e1 id, k.tup e2 id⟩
      · exact .inr ⟨k.lst e1 id, k.lst e2 id⟩
theorem kitAny2 {a b c : String} {r1 r2 : Bool} (h1 : kitB a b = some r1) (h2 : kitB a c = some r2) : PySem.W.kitAny K (.type a) [.type b, .type c] = some (r1 || r2) := by
  have e1 : PySem.W.kitOne K (.type a) (.type b) = some r1 := kit_ty h1
  have e2 : PySem.W.kitOne K (.type a) (.type c) = some r2 := kit_ty h2
  unfold PySem.W.kitAny PySem.W.kitAny PySem.W.kitAny
  rw [e1, e2]
  cases r1 <;> cases r2 <;> rfl
def spIs (Tb : List (Addr × Str)) (n : Nat) : Sp := fun vs H Q _ => ∃ x y : V, vs = [x, y] ∧ EqV H n x y ∧ ∀ H', K0 Tb H H' → Q (.bl true) H'
theorem ok_is0 {f : Addr} {fd : FuncData} (F : Fun K "_law_is" "_law_is" sIs f fd) (B : Bl mg) : FnOk P w K mg base CX0 1 f fd ["_law_told", "_law_due"] (spIs Tb 0) := by
  refine F.ok scIs (fun vs H Q E h => ?_) (fun cdv A outer s H vs Q E hr h => ?_)
  · obtain ⟨x, y, rfl, _⟩ := h
    rfl
  obtain ⟨x, y, rfl, he, q⟩ := h
  have nd := scIs.nd
  refine ⟨_, pss_cons (ps_if (pt_val (pe_callB call_isiT (by rfl) B.isi (by decide +kernel) (pa_cons (pv 1) (pa_cons (pe_tup (pa_cons (pe_bltn (v := .ty "tuple") (by rfl) B.tuple (by decide +kernel) rfl) (pa_cons (pe_bltn (v := .ty "list") (by rfl) B.list (by decide +kernel) rfl) pa_nil))) pa_nil)))) pss_never pss_nil)
    (pss_one (ps_ret (pe_and (pe_cmpR op_eq (pe_callB call_isi (by rfl) B.isi (by decide +kernel) (pa_cons (pv 0) (pa_cons (pe_bltn (v := .ty "bool") (by rfl) B.bool (by decide +kernel) rfl) pa_nil)))
        (pe_callB call_isi (by rfl) B.isi (by decide +kernel) (pa_cons (pv 1) (pa_cons (pe_bltn (v := .ty "bool") (by rfl) B.bool (by decide +kernel) rfl) pa_nil))) (nomark _))
      (pe_one (pe_cmpR op_eq (pv 0) (pv 1) (nomark _)))))), ?_⟩
  refine ⟨_, rfl, by show 2 ≤ sizeLine; decide, fun A nA => ?_⟩
  have k1 : K0 Tb H (upd H A (.tup [.ty "tuple", .ty "list"])) := .new nA
  obtain ⟨rfl, he⟩ := he
  have q1 := q _ k1
  rcases he with rfl | ⟨l, rfl⟩
  · refine ⟨_, _, _, .type "NoneType", [.type "tuple", .type "list"], _, rfl, upd_same, .cons (.ty "tuple") (.cons (.ty "list") .nil), .base .non, kitAny2 (r1 := false) (r2 := false) (by decide +kernel) (by decide +kernel), false, rfl, iteF ?_⟩
    refine ⟨_, rfl, _, _, .type "NoneType", _, false, rfl, .ty "bool", .base .non, kit_ty (by decide +kernel), ?_⟩
    refine ⟨_, rfl, _, _, .type "NoneType", _, false, rfl, .ty "bool", .base .non, kit_ty (by decide +kernel), rfl, true, rfl, iteT ?_⟩
    exact ⟨_, rfl, _, rfl, rfl, by rw [decide_eq_true rfl]; exact q1⟩
  · refine ⟨_, _, _, .type "str", [.type "tuple", .type "list"], _, rfl, upd_same, .cons (.ty "tuple") (.cons (.ty "list") .nil), .base (.str _), kitAny2 (r1 := false) (r2 := false) (by decide +kernel) (by decide +kernel), false, rfl, iteF ?_⟩
    refine ⟨_, rfl, _, _, .type "str", _, false, rfl, .ty "bool", .base (.str _), kit_ty (by decide +kernel), ?_⟩
    refine ⟨_, rfl, _, _, .type "str", _, false, rfl, .ty "bool", .base (.str _), kit_ty (by decide +kernel), rfl, true, rfl, iteT ?_⟩
    exact ⟨_, rfl, _, rfl, rfl, by rw [decide_eq_true rfl]; exact q1⟩

theorem walk_zipT {a b : Addr} {xs ys : List V} (hl : xs.length = ys.length) : Walk (RZ.ItzT K a b) xs.length (fun H => SqT K H a xs ∧ SqT K H b ys) (YPair (fun i => xs[i]?) (fun i => ys[i]?)) := by
  refine ⟨fun i _ hi q => ?_, fun _ q => ⟨xs, ys, q.1, q.2, .inl (Nat.le_refl _)⟩, fun i H v H' _ q y => ?_⟩
  · have h2 : i < ys.length := by omega
    exact ⟨xs, ys, xs[i], ys[i], q.1, q.2, by simp [hi], by simp [h2]⟩
  · obtain ⟨T, x, z, h1, h2, h3, h4, h5⟩ := y
    exact ⟨T, x, z, h1, h2, h3, h4 xs q.1, h5 ys q.2⟩
theorem all_true (n : Nat) : (List.replicate n true).all id = true := List.all_eq_true.mpr fun b hb => by
  rw [(List.mem_replicate.mp hb).2]
  rfl
theorem paired_at2 {α β : Type} {R : α → β → Prop} {l : List α} {m : List β} (h : Paired R l m) {i : Nat} {x : α} {y : β} (hx : l[i]? = some x) (hy : m[i]? = some y) : R x y := by
  obtain ⟨y', hy', r⟩ := paired_at h hx
  rw [hy] at hy'
  cases hy'
  exact r
theorem ok_isS {n : Nat} {f : Addr} {fd : FuncData} (F : Fun K "_law_is" "_law_is" sIs f fd) (B : Bl mg) (b1 : Binds K fd ["_law_told", "_law_due"] []) (g1 : mg "_law_is" = some (.ref f)) (G : FnOk P w K mg base CX0 (n + 1) f fd ["_law_told", "_law_due"] (spIs Tb n)) :
    FnOk P w K mg base CX0 (n + 2) f fd ["_law_told", "_law_due"] (spIs Tb (n + 1)) := by
  refine F.ok scIs (fun vs H Q E h => ?_) (fun cdv A outer s H vs Q E hr h => ?_)
  · obtain ⟨x, y, rfl, _⟩ := h
    rfl
  obtain ⟨x, y, rfl, he, q⟩ := h
  have nd := scIs.nd
  refine ⟨_, pss_cons (ps_if (pt_val (pe_callB call_isiT (by rfl) B.isi (by decide +kernel) (pa_cons (pv 1) (pa_cons (pe_tup (pa_cons (pe_bltn (v := .ty "tuple") (by rfl) B.tuple (by decide +kernel) rfl) (pa_cons (pe_bltn (v := .ty "list") (by rfl) B.list (by decide +kernel) rfl) pa_nil))) pa_nil))))
      (pss_cons (ps_if (PW.pt (pw_or (pt_cmpR op_ne (pe_callB call_isi (by rfl) B.isi (by decide +kernel) (pa_cons (pv 0) (pa_cons (pe_bltn (v := .ty "tuple") (by rfl) B.tuple (by decide +kernel) rfl) pa_nil)))
            (pe_callB call_isi (by rfl) B.isi (by decide +kernel) (pa_cons (pv 1) (pa_cons (pe_bltn (v := .ty "tuple") (by rfl) B.tuple (by decide +kernel) rfl) pa_nil))) (nomark _))
          (pw_or1 (pt_not (pt_val (pe_callB call_isiT (by rfl) B.isi (by decide +kernel) (pa_cons (pv 0) (pa_cons (pe_tup (pa_cons (pe_bltn (v := .ty "tuple") (by rfl) B.tuple (by decide +kernel) rfl) (pa_cons (pe_bltn (v := .ty "list") (by rfl) B.list (by decide +kernel) rfl) pa_nil))) pa_nil)))))))) pss_never pss_nil)
      (pss_one (ps_ret (pe_and (pe_cmpR op_eq (pe_callB call_len_seq (by rfl) B.len PySem.boot_len (pa_cons (pv 0) pa_nil)) (pe_callB call_len_seq (by rfl) B.len PySem.boot_len (pa_cons (pv 1) pa_nil)) (nomark _))
        (pe_one (pe_callB (cr_all rfl) (by rfl) B.all (by decide +kernel) (pa_cons
          (pe_lc (own := [("_law_one", 2), ("_law_two", 3)]) (g := gTup K 2 (gCons (gName 2) (gCons (gName 3) gNil))) (tt := tYes) rfl nd (RZ.pi_zipA (by rfl) B.zip (pa_cons (pv 0) (pa_cons (pv 1) pa_nil))) (blkOk_by (N := nIs) (sc := defScope sIs) (by decide +kernel))
            (fun _ _ _ _ _ => pg_tup (n := 2) rfl (pgs_cons (pg_name (i := 2) nd rfl (.inl rfl)) (pgs_cons (pg_name (i := 3) nd rfl (.inl rfl)) pgs_nil)))
            (fun _ _ _ _ _ => pts_nil)
            (fun _ _ _ _ _ => pe_call G hr (by rfl) g1 F.kp b1 .nil pass0 (pa_cons (pv 2) (pa_cons (pv 3) pa_nil)))) pa_nil))))))) pss_nil)
    (pss_one (ps_ret (pe_and (pe_cmpR op_eq (pe_callB call_isi (by rfl) B.isi (by decide +kernel) (pa_cons (pv 0) (pa_cons (pe_bltn (v := .ty "bool") (by rfl) B.bool (by decide +kernel) rfl) pa_nil)))
        (pe_callB call_isi (by rfl) B.isi (by decide +kernel) (pa_cons (pv 1) (pa_cons (pe_bltn (v := .ty "bool") (by rfl) B.bool (by decide +kernel) rfl) pa_nil))) (nomark _))
      (pe_one (pe_cmpR op_eq (pv 0) (pv 1) (nomark _)))))), ?_⟩
  refine ⟨_, rfl, by show 2 ≤ sizeLine; decide, fun A nA => ?_⟩
  have k1 : K0 Tb H (upd H A (.tup [.ty "tuple", .ty "list"])) := .new nA
  have q1 := q _ k1
  rcases he with ⟨rfl, rfl | ⟨l, rfl⟩⟩ | ⟨a, b, xs, ys, rfl, rfl, hab, hl, hp⟩
  · refine ⟨_, _, _, .type "NoneType", [.type "tuple", .type "list"], _, rfl, upd_same, .cons (.ty "tuple") (.cons (.ty "list") .nil), .base .non, kitAny2 (r1 := false) (r2 := false) (by decide +kernel) (by decide +kernel), false, rfl, iteF ?_⟩
    refine ⟨_, rfl, _, _, .type "NoneType", _, false, rfl, .ty "bool", .base .non, kit_ty (by decide +kernel), ?_⟩
    refine ⟨_, rfl, _, _, .type "NoneType", _, false, rfl, .ty "bool", .base .non, kit_ty (by decide +kernel), rfl, true, rfl, iteT ?_⟩
    exact ⟨_, rfl, _, rfl, rfl, by rw [decide_eq_true rfl]; exact q1⟩
  · refine ⟨_, _, _, .type "str", [.type "tuple", .type "list"], _, rfl, upd_same, .cons (.ty "tuple") (.cons (.ty "list") .nil), .base (.str _), kitAny2 (r1 := false) (r2 := false) (by decide +kernel) (by decide +kernel), false, rfl, iteF ?_⟩
    refine ⟨_, rfl, _, _, .type "str", _, false, rfl, .ty "bool", .base (.str _), kit_ty (by decide +kernel), ?_⟩
    refine ⟨_, rfl, _, _, .type "str", _, false, rfl, .ty "bool", .base (.str _), kit_ty (by decide +kernel), rfl, true, rfl, iteT ?_⟩
    exact ⟨_, rfl, _, rfl, rfl, by rw [decide_eq_true rfl]; exact q1⟩
  · have lxy : xs.length = ys.length := paired_len hp
    rcases hab with ⟨ha, hb⟩ | ⟨ha, hb⟩
    · refine ⟨_, _, _, .type "tuple", [.type "tuple", .type "list"], _, rfl, upd_same, .cons (.ty "tuple") (.cons (.ty "list") .nil), .base (.tup (k1.tup hb id)), kitAny2 (r1 := true) (r2 := false) (by decide +kernel) (by decide +kernel), true, rfl, iteT ?_⟩
      refine ⟨_, rfl, _, _, .type "tuple", _, true, rfl, .ty "tuple", .base (.tup (k1.tup ha id)), kit_ty (by decide +kernel), _, rfl, _, _, .type "tuple", _, true, rfl, .ty "tuple", .base (.tup (k1.tup hb id)), kit_ty (by decide +kernel), rfl, false, rfl, iteF ?_⟩
      refine ⟨_, rfl, by show 2 ≤ sizeLine; decide, fun A2 nA2 => ?_⟩
      have k2 := k1.trans (.new (Tb := Tb) (B := fun _ => False) (o := .tup [.ty "tuple", .ty "list"]) nA2)
      refine ⟨_, _, _, .type "tuple", [.type "tuple", .type "list"], _, rfl, upd_same, .cons (.ty "tuple") (.cons (.ty "list") .nil), .base (.tup (k2.tup ha id)), kitAny2 (r1 := true) (r2 := false) (by decide +kernel) (by decide +kernel), true, rfl, iteF ?_⟩
      refine ⟨_, rfl, a, xs, rfl, .inr (SqT.of (k2.tup ha id)), _, rfl, b, ys, rfl, .inr (SqT.of (k2.tup hb id)), rfl, true, by rw [lxy, decide_eq_true rfl], iteT ?_⟩
      refine ⟨_, rfl, _, rfl, a, b, xs, ys, rfl, .inr ⟨SqT.of (k2.tup ha id), SqT.of (k2.tup hb id), fun D nD => ?_⟩⟩
      have nD0 : H D = none := by
        rw [upd_ne (ne_of_none upd_same nD).symm] at nD
        rw [upd_ne (ne_of_none upd_same nD).symm] at nD
        exact nD
      refine lc_it (walk_zipT lxy) (fun i H' => H' D = some (.lst ((List.replicate i true).map V.bl)) ∧ K0 Tb H H') ⟨upd_same, k2.trans (.new nD)⟩ (fun i H' _ hP => ⟨SqT.of (hP.2.tup ha id), SqT.of (hP.2.tup hb id)⟩) (fun i x H2 H3 hi hP hY => ?_) (fun H2 hP => ?_)
      · obtain ⟨hD, k3⟩ := hP
        obtain ⟨T1, x1, y1, rfl, nT, rfl, ex, ey⟩ := hY
        have k4 : K0 Tb H (upd H2 T1 (.tup [x1, y1])) := k3.trans (.new nT)
        refine ⟨T1, _, rfl, .inl (.inl upd_same), rfl, _, _, rfl, _, _, rfl, rfl, rfl, ?_⟩
        refine ⟨_, rfl, _, rfl, x1, y1, rfl, EqV.keep k4 (paired_at2 hp ex ey), fun H4 k5 => ?_⟩
        have hD4 : H4 D = some (.lst ((List.replicate i true).map V.bl)) := k5.lst (by rw [upd_ne (ne_of_none hD nT)]; exact hD) id
        refine ⟨_, hD4, ?_, ?_, (k4.trans k5).set (.inl nD0) hD4 trivial⟩
        · rw [List.length_map, List.length_replicate, sizeLine_eq]
          omega
        · rw [upd_same, List.replicate_succ', List.map_append]
          rfl
      · obtain ⟨hD, k3⟩ := hP
        refine ⟨D, List.replicate xs.length true, rfl, SqL.of hD, ?_⟩
        rw [all_true]
        exact q _ k3
    · refine ⟨_, _, _, .type "list", [.type "tuple", .type "list"], _, rfl, upd_same, .cons (.ty "tuple") (.cons (.ty "list") .nil), .base (.lst (k1.lst hb id)), kitAny2 (r1 := false) (r2 := true) (by decide +kernel) (by decide +kernel), true, rfl, iteT ?_⟩
      refine ⟨_, rfl, _, _, .type "list", _, false, rfl, .ty "tuple", .base (.lst (k1.lst ha id)), kit_ty (by decide +kernel), _, rfl, _, _, .type "list", _, false, rfl, .ty "tuple", .base (.lst (k1.lst hb id)), kit_ty (by decide +kernel), rfl, false, rfl, iteF ?_⟩
      refine ⟨_, rfl, by show 2 ≤ sizeLine; decide, fun A2 nA2 => ?_⟩
      have k2 := k1.trans (.new (Tb := Tb) (B := fun _ => False) (o := .tup [.ty "tuple", .ty "list"]) nA2)
      refine ⟨_, _, _, .type "list", [.type "tuple", .type "list"], _, rfl, upd_same, .cons (.ty "tuple") (.cons (.ty "list") .nil), .base (.lst (k2.lst ha id)), kitAny2 (r1 := false) (r2 := true) (by decide +kernel) (by decide +kernel), true, rfl, iteF ?_⟩
      refine ⟨_, rfl, a, xs, rfl, .inl (SqL.of (k2.lst ha id)), _, rfl, b, ys, rfl, .inl (SqL.of (k2.lst hb id)), rfl, true, by rw [lxy, decide_eq_true rfl], iteT ?_⟩
      refine ⟨_, rfl, _, rfl, a, b, xs, ys, rfl, .inl ⟨SqL.of (k2.lst ha id), SqL.of (k2.lst hb id), fun D nD => ?_⟩⟩
      have nD0 : H D = none := by
        rw [upd_ne (ne_of_none upd_same nD).symm] at nD
        rw [upd_ne (ne_of_none upd_same nD).symm] at nD
        exact nD
      refine lc_it (walk_zip (n := xs.length) (by omega)) (fun i H' => H' D = some (.lst ((List.replicate i true).map V.bl)) ∧ K0 Tb H H') ⟨upd_same, k2.trans (.new nD)⟩ (fun i H' _ hP => ⟨SqL.of (hP.2.lst ha id), SqL.of (hP.2.lst hb id)⟩) (fun i x H2 H3 hi hP hY => ?_) (fun H2 hP => ?_)
      · obtain ⟨hD, k3⟩ := hP
        obtain ⟨T1, x1, y1, rfl, nT, rfl, ex, ey⟩ := hY
        have k4 : K0 Tb H (upd H2 T1 (.tup [x1, y1])) := k3.trans (.new nT)
        refine ⟨T1, _, rfl, .inl (.inl upd_same), rfl, _, _, rfl, _, _, rfl, rfl, rfl, ?_⟩
        refine ⟨_, rfl, _, rfl, x1, y1, rfl, EqV.keep k4 (paired_at2 hp ex ey), fun H4 k5 => ?_⟩
        have hD4 : H4 D = some (.lst ((List.replicate i true).map V.bl)) := k5.lst (by rw [upd_ne (ne_of_none hD nT)]; exact hD) id
        refine ⟨_, hD4, ?_, ?_, (k4.trans k5).set (.inl nD0) hD4 trivial⟩
        · rw [List.length_map, List.length_replicate, sizeLine_eq]
          omega
        · rw [upd_same, List.replicate_succ', List.map_append]
          rfl
      · obtain ⟨hD, k3⟩ := hP
        refine ⟨D, List.replicate xs.length true, rfl, SqL.of hD, ?_⟩
        rw [all_true]
        exact q _ k3
end
end K9P
end

section
set_option Elab.async false
set_option linter.all false
set_option maxRecDepth 100000
set_option maxHeartbeats 4000000
/-! _law_mixed, _law_shortest -/
namespace K9P
open PySem PySem.Spec PyProof.Rows L2 K9R
abbrev nMixed : List Str := ["_law_hand_here", "_law_items", "_law_left", "_law_found", "_law_turn"]
theorem scMixed : FnScope nMixed ["_law_hand_here", "_law_items"] (defScope sMixed) := ⟨rfl, rfl, rfl, by decide +kernel, rfl, by decide +kernel, by decide +kernel⟩
abbrev nShortest : List Str := ["_law_texts", "_law_many", "_law_text"]
theorem scShortest : FnScope nShortest ["_law_texts"] (defScope sShortest) := ⟨rfl, rfl, rfl, by decide +kernel, rfl, by decide +kernel, by decide +kernel⟩
theorem perm_pop {α : Type} : ∀ {xs : List α} {j : Nat} {v : α}, xs[j]? = some v → (v :: xs.eraseIdx j).Perm xs
  | [], _, _, h => by simp at h
  | x :: r, 0, v, h => by
    cases (Option.some.inj h : x = v)
    exact .refl _
  | x :: r, j + 1, v, h => by
    have ih := perm_pop (xs := r) (j := j) (v := v) h
    exact (List.Perm.swap x v _).trans (ih.cons x)
section
variable {P : Program} {w : World} {K : PySem.W.Frag} {mg : Str → Option Value} {base : Heap} {Tb : List (Addr × Str)} {C : Addr}
def spMixed (K : PySem.W.Frag) (Tb : List (Addr × Str)) : Sp := fun vs H Q _ => ∃ (h c : Addr) (x : V) (ws : List V), vs = [.ref h, x] ∧ HandAt H h c ∧ Items K H x ws ∧ x ≠ .ref h ∧ ws.length ≤ 1000 ∧
  ∀ H' p us, K1 Tb h H H' → HandAt H' h c → us.Perm ws → H' p = some (.lst us) → p ≠ h → Q (.ref p) H'
theorem ok_mixed {f fD : Addr} {fd fdD : FuncData} (F : Fun K "_law_mixed" "_law_mixed" sMixed f fd) (B : Bl mg) (FD : Fun K "_law_draw" "_law_draw" sDraw fD fdD) (bD : Binds K fdD ["_law_hand_here", "_law_many"] []) (gD : mg "_law_draw" = some (.ref fD)) :
    FnOk P w K mg base CX0 2 f fd ["_law_hand_here", "_law_items"] (spMixed K Tb) := by
  have GD : FnOk P w K mg base CX0 1 fD fdD ["_law_hand_here", "_law_many"] (spDraw Tb) := ok_draw FD B
  refine F.ok scMixed (fun vs H Q E h => ?_) (fun cdv A outer s H vs Q E hr h => ?_)
  · obtain ⟨h, c, x, ws, rfl, _⟩ := h
    rfl
  obtain ⟨h, ce, x, ws, rfl, hh, hi, hx, hw1, q⟩ := h
  have nd := scMixed.nd
  refine ⟨_, C8.pss_cut (ps_par (i := 2) (j := 3) (by rfl) nd rfl rfl (by decide) rfl rfl (pa_cons (pe_callTy (call_list_of.or (call_listS rfl)) (by rfl) B.list (by decide +kernel) (pa_cons (pv 1) pa_nil)) (pa_cons (pe_lst pa_nil) pa_nil)) (by rfl))
    (pss_cons (ps_for PassesOwn.never rfl (pi_range1 (by rfl) B.range (pa_cons (pe_callB call_len_seq (by rfl) B.len PySem.boot_len (pa_cons (pv 2) pa_nil)) pa_nil)) (pg_name (i := 4) nd rfl (.inl rfl))
      (pss_one (ps_expr (pe_bm PySem.F.plainAttrs_list PySem.F.slot_list_append PySem.F.type_list_append mt_append (pv 3) (pa_cons
        (pe_bm PySem.F.plainAttrs_list PySem.F.slot_list_pop PySem.F.type_list_pop mt_popAt (pv 2) (pa_cons
          (pe_call GD hr (by rfl) gD FD.kp bD .nil pass0 (pa_cons (pv 0) (pa_cons (pe_callB call_len_seq (by rfl) B.len PySem.boot_len (pa_cons (pv 2) pa_nil)) pa_nil))) pa_nil)) pa_nil)))))
    (pss_one (ps_ret (pv 3)))), ?_⟩
  refine ⟨fun σ H' => ∃ L D, σ = [some (.ref h), some x, some (.ref L), some (.ref D), none] ∧ K0 Tb H H' ∧ H' L = some (.lst ws) ∧ H' D = some (.lst []) ∧ H L = none ∧ H D = none ∧ L ≠ D, ?_, fun σ H1 hM => ?_⟩
  · refine ⟨_, rfl, ?_⟩
    have fin : ∀ L D, H L = none → (upd H L (.lst ws)) D = none → K0 Tb H (upd (upd H L (.lst ws)) D (.lst [])) ∧ (upd (upd H L (.lst ws)) D (.lst [])) L = some (.lst ws) ∧ (upd (upd H L (.lst ws)) D (.lst [])) D = some (.lst []) ∧ H L = none ∧ H D = none ∧ L ≠ D := fun L D nL nD => by
      have nLD : L ≠ D := ne_of_none upd_same nD
      exact ⟨(Kp.new nL).trans (.new nD), by rw [upd_ne nLD]; exact upd_same, upd_same, nL, by rw [upd_ne nLD.symm] at nD; exact nD, nLD⟩
    rcases hi with ⟨a, rfl, ha⟩ | ⟨l, rfl, rfl⟩
    · exact .inl ⟨a, ws, rfl, .inl (SqL.of ha), fun L nL => ⟨by show 0 ≤ sizeLine; decide, fun D nD => ⟨_, _, rfl, L, D, rfl, fin L D nL nD⟩⟩⟩
    · exact .inr ⟨l, rfl, by rw [List.length_map] at hw1; exact hw1, fun L nL => ⟨by show 0 ≤ sizeLine; decide, fun D nD => ⟨_, _, rfl, L, D, rfl, fin L D nL nD⟩⟩⟩
  obtain ⟨L, D, rfl, kD, hL0, hD0, nL, nD0, nLD⟩ := hM
  have hLh := (hh.ne nL).1.symm
  have hDh := (hh.ne nD0).1.symm
  refine ⟨_, rfl, L, ws, rfl, .inl (SqL.of hL0), _, rfl, by omega, by omega, ?_⟩
  refine for_range (n := ((ws.length : Nat) : Int).toNat) (fun i σ H' => ∃ v4 left found, σ = [some (.ref h), some x, some (.ref L), some (.ref D), v4] ∧ K1 Tb h H H' ∧ HandAt H' h ce ∧ H' L = some (.lst left) ∧ H' D = some (.lst found) ∧ (found ++ left).Perm ws ∧ found.length = i)
    ⟨none, ws, [], rfl, kD.up, hh.keep kD, hL0, hD0, .refl _, rfl⟩ (fun i σ H1 hi1 hP => ?_) (fun σ H1 hP => ?_)
  · obtain ⟨v4, left, found, rfl, k1, hh1, hl1, hd1, pm, fl⟩ := hP
    have hlen := pm.length_eq
    rw [List.length_append] at hlen
    have hi2 : i < ws.length := by
      rw [Int.toNat_natCast] at hi1
      exact hi1
    refine ⟨_, rfl, .inl ⟨rfl, _, SqL.of hd1⟩, _, rfl, .inl ⟨rfl, _, SqL.of hl1⟩, _, rfl, _, rfl, L, left, rfl, .inl (SqL.of hl1), ?_⟩
    refine ⟨h, ce, (left.length : Nat), rfl, hh1, by omega, by omega, fun H2 d k2 hh2 d0 d1 => ?_⟩
    obtain ⟨j, rfl⟩ := Int.eq_ofNat_of_zero_le d0
    have hj : j < left.length := by omega
    have hl2 : H2 L = some (.lst left) := k2.lst hl1 hLh
    have hd2 : H2 D = some (.lst found) := k2.lst hd1 hDh
    have ej : left[j]? = some left[j] := List.getElem?_eq_getElem hj
    refine ⟨L, left, _, j, left[j], rfl, rfl, hl2, by omega, by omega, seqIndex_ok hj, ej, ?_⟩
    have hd3 : (upd H2 L (.lst (left.eraseIdx j))) D = some (.lst found) := by
      rw [upd_ne nLD.symm]
      exact hd2
    have k3 : K1 Tb h H (upd H2 L (.lst (left.eraseIdx j))) := (k1.trans k2).set (.inl nL) hl2 trivial
    have hh3 : HandAt (upd H2 L (.lst (left.eraseIdx j))) h ce := hh2.upd hLh.symm (hh.ne nL).2
    refine ⟨D, found, _, rfl, rfl, hd3, by rw [sizeLine_eq]; omega, ?_⟩
    refine ⟨_, left.eraseIdx j, found ++ [left[j]], rfl, k3.set (.inl nD0) hd3 trivial, ?_, ?_, upd_same, ?_, ?_⟩
    · exact hh3.upd hDh.symm (hh.ne nD0).2
    · rw [upd_ne nLD]
      exact upd_same
    · rw [List.append_assoc]
      exact ((perm_pop ej).append_left found).trans pm
    · rw [List.length_append, fl]
      rfl
  · obtain ⟨v4, left, found, rfl, k1, hh1, hl1, hd1, pm, fl⟩ := hP
    have hlen := pm.length_eq
    rw [List.length_append] at hlen
    have el : left = [] := List.length_eq_zero_iff.mp (by rw [Int.toNat_natCast] at fl; omega)
    subst el
    rw [List.append_nil] at pm
    exact ⟨_, rfl, q H1 D found k1 hh1 pm hd1 hDh⟩
/-! ### _law_shortest -/
theorem PairAt.keep {H H1 : Hp} {r : V} {x : T} (k : Tups H H1) (h : PairAt H r x) : PairAt H1 r x := by
  obtain ⟨t, e, ht⟩ := h
  exact ⟨t, e, k t _ ht⟩
theorem take_snoc' {α : Type} {xs : List α} {i : Nat} {x : α} (h : xs[i]? = some x) : xs.take (i + 1) = xs.take i ++ [x] := by
  rw [List.take_add_one, h]
  rfl
def spShortest (Tb : List (Addr × Str)) : Sp := fun vs H Q _ => ∃ (a : Addr) (xs : List T), vs = [.ref a] ∧ H a = some (.lst (xs.map vS)) ∧ xs.Nodup ∧ xs.length ≤ 1000 ∧ (∀ x ∈ xs, x.length ≤ 1000) ∧
  ∀ H' p, K0 Tb H H' → H' p = some (.lst ((K9.isort xs).map vS)) → Q (.ref p) H'
theorem ok_shortest {f : Addr} {fd : FuncData} (F : Fun K "_law_shortest" "_law_shortest" sShortest f fd) (B : Bl mg) : FnOk P w K mg base CX0 1 f fd ["_law_texts"] (spShortest Tb) := by
  refine F.ok scShortest (fun vs H Q E h => ?_) (fun cdv A outer s H vs Q E hr h => ?_)
  · obtain ⟨a, xs, rfl, _⟩ := h
    rfl
  obtain ⟨a, xs, rfl, ha, hn, hl, hl2, q⟩ := h
  have nd := scShortest.nd
  refine ⟨_, pss_one (ps_ret (pe_lc (own := [("_law_many", 1), ("_law_text", 2)]) (g := gTup K 2 (gCons (gName 1) (gCons (gName 2) gNil))) (tt := tYes) rfl nd
      (pi_list (pe_callB (cr_sortedLT hr.units) (by rfl) B.sorted (by decide +kernel) (pa_cons
        (pe_lc (own := [("_law_text", 2)]) (g := gName 2) (tt := tYes) rfl nd (pi_list (pv 0)) (blkOk_by (N := nShortest) (sc := defScope sShortest) (by decide +kernel))
          (fun _ _ _ _ _ => pg_name (i := 2) nd rfl (.inl rfl)) (fun _ _ _ _ _ => pts_nil)
          (fun _ _ _ _ _ => pe_tup (pa_cons (pe_callB call_len_str (by rfl) B.len PySem.boot_len (pa_cons (pv 2) pa_nil)) (pa_cons (pv 2) pa_nil)))) pa_nil)))
      (blkOk_by (N := nShortest) (sc := defScope sShortest) (by decide +kernel))
      (fun _ _ _ _ _ => pg_tup (n := 2) rfl (pgs_cons (pg_name (i := 1) nd rfl (.inl rfl)) (pgs_cons (pg_name (i := 2) nd rfl (.inl rfl)) pgs_nil)))
      (fun _ _ _ _ _ => pts_nil)
      (fun _ _ _ _ _ => pv 2))), ?_⟩
  refine ⟨_, rfl, a, rfl, ⟨_, SqL.of ha⟩, fun D nD => ?_⟩
  have lx : (xs.map vS).length = xs.length := List.length_map _
  refine lc_it (walk_list (K := K) (a := a) (xs := xs.map vS)) (fun i H' => ∃ acc, H' D = some (.lst acc) ∧ K0 Tb H H' ∧ Tups H H' ∧ Paired (PairAt H') acc (xs.take i)) ⟨[], upd_same, .new nD, .new nD, by rw [List.take_zero]; exact .nil⟩ (fun i H' _ hP => ?_) (fun i x H1 H2 hi hP hY => ?_) (fun H1 hP => ?_)
  · obtain ⟨_, _, k, _⟩ := hP
    exact SqL.of (k.lst ha id)
  · obtain ⟨acc, hD, k, tu, pp⟩ := hP
    obtain ⟨rfl, hx⟩ := hY
    obtain ⟨l, el, rfl⟩ := map_at hx
    have hlm := hl2 l (List.mem_of_getElem? el)
    refine ⟨rfl, _, rfl, S l, rfl, by rw [S_len, sizeLine_eq]; omega, _, rfl, by show 2 ≤ sizeLine; decide, fun T1 nT => ?_⟩
    have hD3 : (upd H2 T1 (.tup [.int ((S l).length : Nat), vS l])) D = some (.lst acc) := by
      rw [upd_ne (ne_of_none hD nT)]
      exact hD
    have tu3 : Tups H2 (upd H2 T1 (.tup [.int ((S l).length : Nat), vS l])) := .new nT
    have tu4 : Tups _ (upd (upd H2 T1 (.tup [.int ((S l).length : Nat), vS l])) D (.lst (acc ++ [.ref T1]))) := .lst hD3
    have k3 : K0 Tb H (upd H2 T1 (.tup [.int ((S l).length : Nat), vS l])) := k.trans (.new nT)
    refine ⟨acc, hD3, ?_, acc ++ [.ref T1], upd_same, k3.set (.inl nD) hD3 trivial, tu.trans (tu3.trans tu4), ?_⟩
    · rw [paired_len pp, sizeLine_eq]
      have q1 := List.length_take_le i xs
      rw [lx] at hi
      omega
    · rw [take_snoc' el]
      refine paired_snoc ⟨T1, rfl, ?_⟩ (paired_mono pp fun a c h => PairAt.keep (tu3.trans tu4) h)
      have z := tu4 _ _ (upd_same (H := H2) (a := T1) (o := .tup [.int ((S l).length : Nat), vS l]))
      rw [S_len] at z
      rw [S_len]
      exact z
  · obtain ⟨acc, hD, k, tu, pp⟩ := hP
    rw [lx, List.take_length] at pp
    refine ⟨D, acc, xs, rfl, SqL.of hD, pp, hn, hl, fun rs' p pr np => ?_⟩
    have hDp : D ≠ p := ne_of_none hD np
    refine ⟨p, rfl, ⟨_, SqL.of upd_same⟩, fun D2 nD2 => ?_⟩
    have k2 : K0 Tb H (upd H1 p (.lst rs')) := k.trans (.new np)
    have li : rs'.length = xs.length := by rw [paired_len pr, K9.isort_len]
    refine lc_it (walk_list (K := K) (a := p) (xs := rs')) (fun i H' => H' D2 = some (.lst (((K9.isort xs).take i).map vS)) ∧ K0 Tb (upd H1 p (.lst rs')) H' ∧ H' p = some (.lst rs') ∧ Tups H1 H')
      ⟨by rw [List.take_zero]; exact upd_same, .new nD2, by rw [upd_ne (ne_of_none upd_same nD2)]; exact upd_same, (Tups.new np).trans (.new nD2)⟩ (fun i H' _ hP => SqL.of hP.2.2.1) (fun i x H3 H4 hi hP hY => ?_) (fun H3 hP => ?_)
    · obtain ⟨h1, k3, hp, tu3⟩ := hP
      obtain ⟨rfl, hx⟩ := hY
      obtain ⟨l, el, t, rfl, ht⟩ := paired_at pr hx
      refine ⟨t, _, rfl, .inl (.inl (tu3 _ _ ht)), rfl, _, _, rfl, _, _, rfl, rfl, rfl, ?_⟩
      refine ⟨_, rfl, _, h1, ?_, ?_, k3.set (.inl nD2) h1 trivial, ?_, tu3.trans (.lst h1)⟩
      · rw [List.length_map, sizeLine_eq]
        have q1 := List.length_take_le i (K9.isort xs)
        omega
      · rw [take_snoc' el, List.map_append]
        exact upd_same
      · rw [upd_ne (ne_of_none upd_same nD2)]
        exact hp
    · obtain ⟨h1, k3, hp, tu3⟩ := hP
      rw [li, ← K9.isort_len xs, List.take_length] at h1
      exact q _ _ (k2.trans k3) h1
end
end K9P
end

section
set_option Elab.async false
set_option linter.all false
set_option maxRecDepth 100000
set_option maxHeartbeats 4000000
/-! callees in one word; making a book; what is laid -/
namespace K9P
open PySem PySem.Spec PyProof.Rows L2 K9R
section
variable (P : Program) (w : World) (K : PySem.W.Frag) (mg : Str → Option Value) (base : Heap)
/-- a def that stands under its name -/
def Cal (k : Nat) (nm : Str) (ps : List Str) (sp : Sp) : Prop := ∃ (f : Addr) (fd : FuncData), FnOk P w K mg base CX0 k f fd ps sp ∧ PySem.W.keepIn K (.ref f) = true ∧ Binds K fd ps [] ∧ mg nm = some (.ref f)
def CalB (Tb : List (Addr × Str)) (C : Addr) : Prop := ∃ (f : Addr) (fd : FuncData), Mk K C f ∧ FnOk P w K mg base CX0 3 f fd ["self", "pieces"] (spBook K Tb C) ∧ Binds K fd ["self", "pieces"] [] ∧ mg "Book" = some (.ref C)
end
section
variable {P : Program} {w : World} {K : PySem.W.Frag} {mg : Str → Option Value} {base : Heap} {Tb : List (Addr × Str)} {C : Addr}
theorem Kp.drop {B : Addr → Prop} {H H1 : Hp} {a : Addr} (x : Kp Tb B H H1) (h : ∀ b, B b → H b = none) : K0 Tb H H1 := ⟨fun b o e _ z => x.get b o e (fun q => by rw [h b q] at e; cases e) z, x.tab⟩
theorem map3 (a b c : T) : [vS a, vS b, vS c] = [a, b, c].map vS := rfl
/-- a result at v and the tuple (or None) that is due -/
theorem res_eq {H : Hp} {v d : V} {r : Option (T × T × T)} (h1 : ResAt H v r) (h2 : ResAt H d r) : EqV H 1 v d := by
  cases r with
  | none =>
    cases (h1 : v = .non)
    cases (h2 : d = .non)
    exact .inl ⟨rfl, .inl rfl⟩
  | some z =>
    obtain ⟨a, b, c⟩ := z
    obtain ⟨t1, rfl, e1⟩ := h1
    obtain ⟨t2, rfl, e2⟩ := h2
    exact .inr ⟨t1, t2, _, _, rfl, rfl, .inl ⟨e1, e2⟩, by show 3 ≤ 1000; decide, .cons ⟨rfl, .inr ⟨a, rfl⟩⟩ (.cons ⟨rfl, .inr ⟨b, rfl⟩⟩ (.cons ⟨rfl, .inr ⟨c, rfl⟩⟩ .nil))⟩
theorem ResAt.keep {H H1 : Hp} {v : V} {r : Option (T × T × T)} (k : K0 Tb H H1) (h : ResAt H v r) : ResAt H1 v r := by
  cases r with
  | none => exact h
  | some z =>
    obtain ⟨a, b, c⟩ := z
    obtain ⟨t, e, ht⟩ := h
    exact ⟨t, e, k.tup ht id⟩
theorem one_eq {H : Hp} {a b : Addr} {v d : V} {r : Option (T × T × T)} (ha : H a = some (.lst [v])) (hb : H b = some (.lst [d])) (h1 : ResAt H v r) (h2 : ResAt H d r) : EqV H 2 (.ref a) (.ref b) :=
  .inr ⟨a, b, [v], [d], rfl, rfl, .inr ⟨ha, hb⟩, by show 1 ≤ 1000; decide, .cons (res_eq h1 h2) .nil⟩
end
theorem book_sq {K : PySem.W.Frag} {C : Addr} {H : Hp} {t x dx : Addr} {ps : List T} (hT : SqT K H t (ps.map vS)) (nx : H x = none) (ndx : H dx = none) (hne : dx ≠ x) : SqT K (upd (upd H dx (.own x)) x (.ins C dx [])) t (ps.map vS) := by
  have nx1 : (upd H dx (.own x)) x = none := by
    rw [upd_ne hne.symm]
    exact nx
  have k1 : K0 [] H (upd (upd H dx (.own x)) x (.ins C dx [])) := (Kp.new ndx).trans (.new nx1)
  exact k1.sqT hT id
theorem book_laid {Tb : List (Addr × Str)} {K : PySem.W.Frag} {C : Addr} {H H' : Hp} {t x dx : Addr} {ps : List T} (hT : SqT K H t (ps.map vS)) (nx : H x = none) (ndx : H dx = none) (hne : dx ≠ x) (hx : H' x = some (.ins C dx [("pieces", .ref t)]))
    (k2 : K1 Tb x (upd (upd H dx (.own x)) x (.ins C dx [])) H') : K0 Tb H H' ∧ BookAt K C H' x ps := by
  have nx1 : (upd H dx (.own x)) x = none := by
    rw [upd_ne hne.symm]
    exact nx
  have k1 : K0 Tb H (upd (upd H dx (.own x)) x (.ins C dx [])) := (Kp.new ndx).trans (.new nx1)
  have k12 : K1 Tb x H H' := k1.up.trans k2
  have k3 : K0 Tb H H' := Kp.drop (a := x) k12 fun b hb => by rw [hb]; exact nx
  exact ⟨k3, dx, t, hx, k3.sqT hT id⟩
/-- two lists of the same texts -/
theorem txt_eq {K : PySem.W.Frag} {H : Hp} {a b : Addr} {xs : List T} (ha : H a = some (.lst (xs.map vS))) (hb : H b = some (.lst (xs.map vS))) : L2.EqR K H (L2.EqV K H 1) (.ref a) (.ref b) := by
  refine .inl ⟨a, b, _, _, rfl, rfl, SqL.of ha, SqL.of hb, ?_⟩
  clear ha hb
  induction xs with
  | nil => exact .nil
  | cons x r ih => exact .cons (.inl ⟨rfl, rfl⟩) ih
theorem txt_is {H : Hp} {a b : Addr} {xs : List T} (hl : xs.length ≤ 1000) (ha : H a = some (.lst (xs.map vS))) (hb : H b = some (.lst (xs.map vS))) : EqV H 1 (.ref a) (.ref b) := by
  refine .inr ⟨a, b, _, _, rfl, rfl, .inr ⟨ha, hb⟩, by rw [List.length_map]; exact hl, ?_⟩
  clear ha hb hl
  induction xs with
  | nil => exact .nil
  | cons x r ih => exact .cons ⟨rfl, .inr ⟨x, rfl⟩⟩ ih
theorem HandAt.new {H : Hp} {h c p : Addr} {o : HO} (x : HandAt H h c) (n : H p = none) : HandAt (L2.upd H p o) h c := x.upd (x.ne n).1 (x.ne n).2
theorem rep_flat (n c : Nat) : (List.replicate n [c]).flatten = K9.rep n c := by
  unfold K9.rep
  induction n with
  | zero => rfl
  | succ n ih =>
    rw [List.replicate_succ, List.flatten_cons, ih, List.replicate_succ]
    rfl
theorem op_catT {X : Cx} : OpR X (binaryOp .Add) (fun x y H Q => ∃ a b : T, x = vS a ∧ y = vS b ∧ a.length + b.length ≤ 1000 ∧ Q (vS (a ++ b)) H) := by
  intro pins s σ H x y v u Q I rx ry h
  obtain ⟨a, b, rfl, rfl, hz, q⟩ := h
  exact op_add_str pins s σ H (vS a) (vS b) v u Q I rx ry ⟨S a, S b, rfl, rfl, by rw [S_len, S_len, sizeLine_eq]; omega, by rw [S_cat]; exact q⟩
/-- one sign, many times -/
theorem op_rep {X : Cx} : OpR X (binaryOp .Mult) (fun x y H Q => ∃ c n : Nat, x = vS [c] ∧ y = .int (n : Int) ∧ n ≤ 1000 ∧ Q (vS (K9.rep n c)) H) := by
  intro pins s σ H x y v u Q I rx ry h
  obtain ⟨c, n, rfl, rfl, hz, q⟩ := h
  exact op_mulS pins s σ H (vS [c]) (.int (n : Int)) v u Q I rx ry ⟨[c], n, rfl, rfl, by show 1 ≤ 1000; decide, hz, by rw [rep_flat]; exact q⟩
theorem rep_len (n c : Nat) : (K9.rep n c).length = n := List.length_replicate
theorem okP_rep {n c : Nat} (h1 : 1 ≤ n) (h8 : n ≤ 8) (hc : isLet c = true) : OkP (K9.rep n c) := by
  unfold K9.rep
  exact ⟨by rw [List.length_replicate]; exact h1, by rw [List.length_replicate]; exact h8, fun x hx => by rw [(List.mem_replicate.mp hx).2]; exact hc⟩
theorem rep_inj {n m c : Nat} (h : K9.rep n c = K9.rep m c) : n = m := by
  have q := congrArg List.length h
  unfold K9.rep at q
  rw [List.length_replicate, List.length_replicate] at q
  exact q
theorem rnd_facts {e i : Nat} {q : Nat × Nat} (h1 : 1 ≤ e) (h2 : e ≤ 3) (h3 : 1 ≤ i) (h4 : i ≤ 2) (hq : q ∈ [(97, 98), (99, 104), (98, 101)]) : K9.rndB e i q.1 q.2 = true := by
  have he : e ∈ [1, 2, 3] := by
    simp
    omega
  have hi : i ∈ [1, 2] := by
    simp
    omega
  have a := List.all_eq_true.mp K9.rnd_all e he
  have b := List.all_eq_true.mp a i hi
  exact List.all_eq_true.mp b q hq
end K9P
end

section
set_option Elab.async false
set_option linter.all false
set_option maxRecDepth 100000
set_option maxHeartbeats 4000000
/-! _law_rests_of_powers -/
namespace K9P
open PySem PySem.Spec PyProof.Rows L2 K9R
abbrev nPowers : List Str := ["_law_hand_here", "_law_small", "_law_great", "_law_letter", "_law_pieces", "_law_left", "_law_due", "_law_alone", "_law_many"]
theorem scPowers : FnScope nPowers ["_law_hand_here"] (defScope sPowers) := ⟨rfl, rfl, rfl, by decide +kernel, rfl, by decide +kernel, by decide +kernel⟩
section
variable {P : Program} {w : World} {K : PySem.W.Frag} {mg : Str → Option Value} {base : Heap} {Tb : List (Addr × Str)} {C : Addr}
def spPart (Tb : List (Addr × Str)) : Sp := fun vs H Q _ => ∃ (h c : Addr), vs = [.ref h] ∧ HandAt H h c ∧ LamX.Tabs Tb H ∧ ∀ H', K1 Tb h H H' → HandAt H' h c → Q (.bl true) H'
theorem ok_powers {f : Addr} {fd : FuncData} (F : Fun K "_law_rests_of_powers" "_law_rests_of_powers" sPowers f fd) (B : Bl mg)
    (cD : Cal P w K mg base 1 "_law_draw" ["_law_hand_here", "_law_many"] (spDraw Tb)) (cA : Cal P w K mg base 2 "_law_any" ["_law_hand_here", "_law_items"] (spAny K Tb))
    (cI : Cal P w K mg base 3 "_law_is" ["_law_told", "_law_due"] (spIs Tb 2)) (cO : Cal P w K mg base 3 "one_rest" ["book"] (spOneRest K Tb C))
    (cM : Cal P w K mg base 2 "meetings" ["book"] (spMeetings K Tb C)) (cB : CalB P w K mg base Tb C) :
    FnOk P w K mg base CX0 5 f fd ["_law_hand_here"] (spPart Tb) := by
  obtain ⟨fD, fdD, GD, kD, bD, gD⟩ := cD
  obtain ⟨fA, fdA, GA, kA, bA, gA⟩ := cA
  obtain ⟨fI, fdI, GI, kI, bI, gI⟩ := cI
  obtain ⟨fO, fdO, GO, kO, bO, gO⟩ := cO
  obtain ⟨fM, fdM, GM, kM, bM, gM⟩ := cM
  obtain ⟨fB, fdB, MB, GB, bB, gB⟩ := cB
  refine F.ok scPowers (fun vs H Q E h => ?_) (fun cdv A outer s H vs Q E hr h => ?_)
  · obtain ⟨h, c, rfl, _⟩ := h
    rfl
  obtain ⟨h, ce, rfl, hh, hT, q⟩ := h
  have nd := scPowers.nd
  have r1 := hr.mono (show 1 ≤ 4 by decide)
  have r2 := hr.mono (show 2 ≤ 4 by decide)
  have r3 := hr.mono (show 3 ≤ 4 by decide)
  refine ⟨_, pss_cons (ps_set (i := 1) nd rfl (.inl rfl) (pe_op op_add pe_int (pe_call GD r1 (by rfl) gD kD bD .nil pass0 (pa_cons (pv 0) (pa_cons pe_int pa_nil)))))
    (C8.pss_cut (ps_asg (pe_tup (pa_cons (pe_op op_add (pe_op op_add (pv 1) pe_int) (pe_call GD r1 (by rfl) gD kD bD .nil pass0 (pa_cons (pv 0) (pa_cons (pe_op op_sub pe_int (pv 1)) pa_nil))))
        (pa_cons (pe_call GA r2 (by rfl) gA kA bA .nil pass0 (pa_cons (pv 0) (pa_cons pe_str pa_nil))) pa_nil)))
        (pg_tup (n := 2) rfl (pgs_cons (pg_name (i := 2) nd rfl (.inl rfl)) (pgs_cons (pg_name (i := 3) nd rfl (.inr rfl)) pgs_nil))) (by rfl))
    (C8.pss_cut (ps_set (i := 4) nd rfl (.inl rfl) (pe_call GA r2 (by rfl) gA kA bA .nil pass0 (pa_cons (pv 0) (pa_cons (pe_lst (pa_cons (pe_tup (pa_cons (pe_op op_mulS (pv 3) (pv 1)) (pa_cons (pe_op op_mulS (pv 3) (pv 2)) pa_nil))) (pa_cons (pe_tup (pa_cons (pe_op op_mulS (pv 3) (pv 2)) (pa_cons (pe_op op_mulS (pv 3) (pv 1)) pa_nil))) pa_nil))) pa_nil))))
    (pss_cons (ps_set (i := 5) nd rfl (.inl rfl) (pe_op op_mod (pe_callTy call_int1 (by rfl) B.int (by decide +kernel) (pa_cons (pv 2) pa_nil)) (pv 1)))
    (C8.pss_cut (ps_set (i := 6) nd rfl (.inl rfl) (pe_ifExp (pt_cmpR op_eq (pv 5) pe_int (nomark _)) pe_non (pe_tup (pa_cons (pe_op op_mulS (pv 3) (pv 2)) (pa_cons pe_str (pa_cons (pe_op op_mulS (pv 3) (pv 5)) pa_nil))))))
    (C8.pss_cut (ps_if (pt_not (pt_val (pe_call GI r3 (by rfl) gI kI bI .nil pass0 (pa_cons (pe_lst (pa_cons (pe_call GO r3 (by rfl) gO kO bO .nil pass0 (pa_cons (pe_make MB GB hr (by rfl) gB bB .nil pass0 (pa_cons (pv 4) pa_nil)) pa_nil)) pa_nil)) (pa_cons (pe_lst (pa_cons (pv 6) pa_nil)) pa_nil))))) pss_never pss_nil)
    (C8.pss_cut (ps_set (i := 7) nd rfl (.inl rfl) (pe_make MB GB hr (by rfl) gB bB .nil pass0 (pa_cons (pe_tup (pa_cons (pe_op op_mulS (pv 3) (pv 1)) pa_nil)) pa_nil)))
    (pss_one (ps_ret (pe_and (pe_cmp (pc_isN (pe_call GO r3 (by rfl) gO kO bO .nil pass0 (pa_cons (pv 7) pa_nil))))
      (pe_one (pe_cmpR (op_eqV hr.units) (pe_call GM r2 (by rfl) gM kM bM .nil pass0 (pa_cons (pv 7) pa_nil))
        (pe_lc (own := [("_law_many", 8)]) (g := gName 8) (tt := tYes) rfl nd (pi_range2 (by rfl) B.range (pa_cons (pe_op op_add (pv 1) pe_int) (pa_cons (pe_op op_mul pe_int (pv 1)) pa_nil))) (blkOk_by (N := nPowers) (sc := defScope sPowers) (by decide +kernel))
          (fun _ _ _ _ _ => pg_name (i := 8) nd rfl (.inl rfl)) (fun _ _ _ _ _ => pts_nil)
          (fun _ _ _ _ _ => pe_op op_mulS (pv 3) (pv 8))) (nomark _)))))))))))), ?_⟩
  -- the two numbers and the letter
  refine ⟨_, rfl, h, ce, 6, rfl, hh, by decide, by decide, fun H1 d1 k1 hh1 a1 b1 => ⟨_, _, rfl, rfl, ?_⟩⟩
  obtain ⟨s0, rfl⟩ := Int.eq_ofNat_of_zero_le a1
  refine ⟨fun σ H' => ∃ (sm g c : Nat), σ = [some (.ref h), some (.int (sm : Nat)), some (.int (g : Nat)), some (vS [c]), none, none, none, none, none] ∧ 1 ≤ sm ∧ sm ≤ 6 ∧ sm < g ∧ g ≤ 8 ∧ c ∈ [97, 100, 104] ∧ K1 Tb h H H' ∧ HandAt H' h ce, ?_, fun σ H2 hM => ?_⟩
  · refine ⟨_, rfl, _, _, rfl, rfl, _, rfl, _, rfl, _, _, rfl, rfl, h, ce, _, rfl, hh1, by omega, by omega, fun H2 d2 k2 hh2 a2 b2 => ⟨_, _, rfl, rfl, ?_⟩⟩
    obtain ⟨d, rfl⟩ := Int.eq_ofNat_of_zero_le a2
    refine ⟨_, rfl, h, ce, vS [97, 100, 104], [vS [97], vS [100], vS [104]], rfl, hh2, .inr ⟨[97, 100, 104], rfl, rfl⟩, (fun z => nomatch z), by decide, by decide, fun H3 v k3 hh3 hv => ⟨by show 2 ≤ sizeLine; decide, fun t nt => ?_⟩⟩
    have hc : ∃ c : Nat, c ∈ [97, 100, 104] ∧ v = vS [c] := by
      rcases List.mem_cons.mp hv with rfl | hv
      · exact ⟨97, by decide, rfl⟩
      · rcases List.mem_cons.mp hv with rfl | hv
        · exact ⟨100, by decide, rfl⟩
        · rcases List.mem_cons.mp hv with rfl | hv
          · exact ⟨104, by decide, rfl⟩
          · cases hv
    obtain ⟨c, hc, rfl⟩ := hc
    have k4 : K1 Tb h H (upd H3 t (.tup [.int ((1 : Int) + (s0 : Int) + 1 + (d : Int)), vS [c]])) := ((k1.trans k2).trans k3).trans (.new nt)
    refine ⟨t, _, rfl, .inl (.inl upd_same), rfl, _, _, rfl, _, _, rfl, rfl, 1 + s0, 1 + s0 + 1 + d, c, ?_, by omega, by omega, by omega, by omega, hc, k4, hh3.new nt⟩
    rfl
  -- the two pieces
  obtain ⟨sm, g, c, rfl, s1, s6, sg, g8, hc, k2, hh2⟩ := hM
  have hlc : isLet c = true := by
    rcases List.mem_cons.mp hc with rfl | hc
    · rfl
    · rcases List.mem_cons.mp hc with rfl | hc
      · rfl
      · rcases List.mem_cons.mp hc with rfl | hc
        · rfl
        · cases hc
  have l1 : ([c] : T).length ≤ 1000 := by show 1 ≤ 1000; decide
  refine ⟨fun σ H' => ∃ (t : Addr) (ps : List T), σ = [some (.ref h), some (.int (sm : Nat)), some (.int (g : Nat)), some (vS [c]), some (.ref t), none, none, none, none] ∧ (ps = [K9.rep sm c, K9.rep g c] ∨ ps = [K9.rep g c, K9.rep sm c]) ∧ H' t = some (.tup (ps.map vS)) ∧ K1 Tb h H H' ∧ HandAt H' h ce, ?_, fun σ H3 hM => ?_⟩
  · refine ⟨_, rfl, _, rfl, _, rfl, [c], sm, rfl, rfl, l1, by omega, _, rfl, _, rfl, [c], g, rfl, rfl, l1, by omega, by show 2 ≤ sizeLine; decide, fun t1 n1 => ?_⟩
    refine ⟨_, rfl, _, rfl, [c], g, rfl, rfl, l1, by omega, _, rfl, _, rfl, [c], sm, rfl, rfl, l1, by omega, by show 2 ≤ sizeLine; decide, fun t2 n2 => ?_⟩
    refine ⟨by show 2 ≤ sizeLine; decide, fun L nL => ?_⟩
    rw [rep_flat, rep_flat] at *
    have kL := ((k2.trans (.new n1)).trans (.new n2)).trans (.new (o := .lst [.ref t1, .ref t2]) nL)
    have n12 : t1 ≠ t2 := ne_of_none upd_same n2
    have hhL := ((hh2.new n1).new n2).new (o := .lst [.ref t1, .ref t2]) nL
    have nLh : L ≠ h := fun z => ((hh2.new n1).new n2).ne nL |>.1 z.symm
    have e2 : ∀ H0 o, (upd H0 t2 o) L = none → t2 ≠ L := fun H0 o e => ne_of_none upd_same e
    have nt2 := e2 _ _ nL
    have nt1 : t1 ≠ L := fun z => by
      rw [← z, upd_ne n12, upd_same] at nL
      cases nL
    refine ⟨h, ce, .ref L, [.ref t1, .ref t2], rfl, hhL, .inl ⟨L, rfl, upd_same⟩, (fun z => nLh (by injection z)), by show 0 < 2; decide, by show 2 ≤ 1000; decide, fun H3 v k3 hh3 hv => ?_⟩
    rcases List.mem_cons.mp hv with rfl | hv
    · refine ⟨t1, _, rfl, .inl rfl, k3.tup ?_ (fun z => ?_), kL.trans k3, hh3⟩
      · rw [upd_ne nt1, upd_ne n12, upd_same]
        rfl
      · exact (hh2.ne n1).1 z.symm
    · rcases List.mem_cons.mp hv with rfl | hv
      · refine ⟨t2, _, rfl, .inr rfl, k3.tup ?_ (fun z => ?_), kL.trans k3, hh3⟩
        · rw [upd_ne nt2, upd_same]
          rfl
        · exact ((hh2.new n1).ne n2).1 z.symm
      · cases hv
  -- what is due
  obtain ⟨t, ps, rfl, hps, ht, k3, hh3⟩ := hM
  refine ⟨_, rfl, .inl ⟨_, rfl, _, rfl, _, _, rfl, rfl, by show (0 : Int) < (sm : Nat); omega, ?_⟩⟩
  refine ⟨fun σ H' => ∃ dv : V, σ = [some (.ref h), some (.int (sm : Nat)), some (.int (g : Nat)), some (vS [c]), some (.ref t), some (.int ((g % sm : Nat) : Int)), some dv, none, none] ∧ ResAt H' dv (K9.dueP sm g c) ∧ H' t = some (.tup (ps.map vS)) ∧ K1 Tb h H H' ∧ HandAt H' h ce, ?_, fun σ H4 hM => ?_⟩
  · refine ⟨_, rfl, rfl, _, rfl, ?_⟩
    show if decide (V.int ((g % sm : Nat) : Int) = V.int 0) = true then _ else _
    unfold K9.dueP
    by_cases hz : g % sm = 0
    · rw [decide_eq_true (show V.int ((g % sm : Nat) : Int) = V.int 0 by rw [hz]; rfl)]
      refine iteT ⟨_, rfl, ?_, ht, k3, hh3⟩
      rw [if_pos hz]
      rfl
    · rw [decide_eq_false (fun e => hz (by injection e with e; omega))]
      have m1 : g % sm ≤ 1000 := Nat.le_trans (Nat.mod_le _ _) (by omega)
      refine iteF ⟨_, rfl, _, rfl, [c], g, rfl, rfl, l1, by omega, _, rfl, _, rfl, [c], g % sm, rfl, rfl, l1, m1, by show 3 ≤ sizeLine; decide, fun t1 n1 => ?_⟩
      have nt := ne_of_none ht n1
      refine ⟨_, rfl, ?_, by rw [upd_ne nt]; exact ht, k3.trans (.new n1), hh3.new n1⟩
      rw [if_neg hz]
      refine ⟨t1, rfl, ?_⟩
      rw [rep_flat, rep_flat]
      exact upd_same
  -- one_rest(Book(pieces))
  obtain ⟨dv, rfl, hdv, ht4, k4, hh4⟩ := hM
  obtain ⟨pf1, pf2, pf3, pf4⟩ := K9.pow_law s1 s6 sg g8 hc
  have hne : K9.rep sm c ≠ K9.rep g c := fun e => by
    have := rep_inj e
    omega
  have okps : OkB ps := by
    have o1 : OkP (K9.rep sm c) := okP_rep s1 (by omega) hlc
    have o2 : OkP (K9.rep g c) := okP_rep (by omega) g8 hlc
    rcases hps with rfl | rfl
    · exact ⟨by show 1 ≤ 2; decide, by show 2 ≤ 12; decide, by simp [hne], fun p hp => by
        rcases List.mem_cons.mp hp with rfl | hp
        · exact o1
        · cases List.mem_singleton.mp hp
          exact o2⟩
    · exact ⟨by show 1 ≤ 2; decide, by show 2 ≤ 12; decide, by simp [hne.symm], fun p hp => by
        rcases List.mem_cons.mp hp with rfl | hp
        · exact o2
        · cases List.mem_singleton.mp hp
          exact o1⟩
  have hres : ∀ r, K9.OneRest ps (K9.meetings ps) r → r = K9.dueP sm g c := fun r hr => by
    rcases hps with rfl | rfl
    · exact pf1 r hr
    · exact pf2 r hr
  refine ⟨fun σ H' => ∃ dv : V, σ = [some (.ref h), some (.int (sm : Nat)), some (.int (g : Nat)), some (vS [c]), some (.ref t), some (.int ((g % sm : Nat) : Int)), some dv, none, none] ∧ K1 Tb h H H' ∧ HandAt H' h ce, ?_, fun σ H5 hM => ?_⟩
  · refine ⟨_, rfl, fun x dx nx ndx hne => ⟨x, t, dx, ps, rfl, upd_same, book_sq (SqT.of ht4) nx ndx hne, okps, fun H5 hx k5 => ⟨rfl, ?_⟩⟩⟩
    obtain ⟨k45, hb⟩ := book_laid (SqT.of ht4) nx ndx hne hx k5
    refine ⟨x, ps, rfl, hb, okps.2.1, fun p hp => (okps.2.2.2 p hp).2.1, (k4.trans k45.up).tab hT, fun H6 v r k6 ho hr => ⟨by show 1 ≤ sizeLine; decide, fun L1 n1 => ⟨_, rfl, by show 1 ≤ sizeLine; decide, fun L2 n2 => ?_⟩⟩⟩
    cases hres r ho
    have k7 : K0 Tb H6 (upd (upd H6 L1 (.lst [v])) L2 (.lst [dv])) := (Kp.new n1).trans (.new n2)
    refine ⟨.ref L1, .ref L2, rfl, one_eq (r := K9.dueP sm g c) (by rw [upd_ne (ne_of_none upd_same n2)]; exact upd_same) upd_same (hr.keep k7) (hdv.keep ((k45.trans k6).trans k7)), fun H7 k8 => ⟨true, rfl, iteF ⟨dv, rfl, ?_, ?_⟩⟩⟩
    · exact k4.trans (((k45.trans k6).trans k7).trans k8).up
    · exact hh4.keep (((k45.trans k6).trans k7).trans k8)
  -- the piece alone
  obtain ⟨dv, rfl, k5, hh5⟩ := hM
  have ok1 : OkB [K9.rep sm c] := ⟨Nat.le_refl _, by show 1 ≤ 12; decide, by simp, fun p hp => by
    cases List.mem_singleton.mp hp
    exact okP_rep s1 (by omega) hlc⟩
  refine ⟨fun σ H' => ∃ x : Addr, σ = [some (.ref h), some (.int (sm : Nat)), some (.int (g : Nat)), some (vS [c]), some (.ref t), some (.int ((g % sm : Nat) : Int)), some dv, some (.ref x), none] ∧ BookAt K C H' x [K9.rep sm c] ∧ K1 Tb h H H' ∧ HandAt H' h ce, ?_, fun σ H6 hM => ?_⟩
  · refine ⟨_, rfl, _, rfl, [c], sm, rfl, rfl, l1, by omega, by show 1 ≤ sizeLine; decide, fun t1 n1 => ?_⟩
    have ht1 : (upd H5 t1 (.tup [vS (List.replicate sm [c]).flatten])) t1 = some (.tup ([K9.rep sm c].map vS)) := by
      rw [rep_flat]
      exact upd_same
    refine fun x dx nx ndx hne => ⟨x, t1, dx, [K9.rep sm c], rfl, upd_same, book_sq (SqT.of ht1) nx ndx hne, ok1, fun H6 hx k6 => ⟨rfl, ?_⟩⟩
    obtain ⟨k56, hb⟩ := book_laid (SqT.of ht1) nx ndx hne hx k6
    exact ⟨x, rfl, hb, (k5.trans (.new n1)).trans k56.up, (hh5.new n1).keep k56⟩
  obtain ⟨x, rfl, hb, k6, hh6⟩ := hM
  refine ⟨_, rfl, x, _, rfl, hb, ok1.2.1, fun p hp => (ok1.2.2.2 p hp).2.1, k6.tab hT, fun H7 v r k7 ho hr => ?_⟩
  cases pf3 r ho
  cases (hr : v = .non)
  refine ⟨true, rfl, iteT ?_⟩
  refine ⟨_, rfl, x, _, rfl, hb.keep k7, ok1.2.1, fun p hp => (ok1.2.2.2 p hp).2.1, k7.tab (k6.tab hT), fun H8 p k8 hp => ?_⟩
  refine ⟨_, rfl, _, _, rfl, rfl, _, rfl, _, _, rfl, rfl, .inl ⟨by decide, by decide⟩, _, _, rfl, ⟨by omega, by omega, by omega, by omega⟩, fun D nD => ?_⟩
  have kk : K1 Tb h H H8 := k6.trans (k7.trans k8).up
  refine lc_it (walk_range (lo := (sm : Int) + 1) (n := ((2 : Int) * (sm : Nat) - ((sm : Int) + 1)).toNat)) (fun i H' => H' D = some (.lst (((List.range i).map fun j => K9.rep (sm + 1 + j) c).map vS)) ∧ K0 Tb H8 H')
    ⟨upd_same, .new nD⟩ (fun _ _ _ _ => trivial) (fun i y H9 H10 hi hP hY => ?_) (fun H9 hP => ?_)
  · obtain ⟨hD, k9⟩ := hP
    obtain ⟨rfl, rfl⟩ := hY
    have hi2 : i < sm - 1 := by omega
    refine ⟨rfl, _, rfl, _, rfl, [c], sm + 1 + i, rfl, rfl, l1, by omega, _, hD, ?_, ?_, k9.set (.inl nD) hD trivial⟩
    · rw [List.length_map, List.length_map, List.length_range, sizeLine_eq]
      omega
    · rw [rep_flat, List.range_succ, List.map_append, List.map_append]
      exact upd_same
  · obtain ⟨hD, k9⟩ := hP
    have en : ((2 : Int) * (sm : Nat) - ((sm : Int) + 1)).toNat = sm - 1 := by omega
    rw [en, ← pf4] at hD
    refine ⟨1, by decide, txt_eq (k9.lst hp id) hD, ?_⟩
    exact q H9 (kk.trans k9.up) (hh6.keep ((k7.trans k8).trans k9))
end
end K9P
end

section
set_option Elab.async false
set_option linter.all false
set_option maxRecDepth 100000
set_option maxHeartbeats 4000000
/-! _law_rests_of_rounds -/
namespace K9P
open PySem PySem.Spec PyProof.Rows L2 K9R
abbrev nRounds : List Str := ["_law_hand_here", "_law_edge", "_law_inner", "_law_one", "_law_other", "_law_piece", "_law_due", "_law_both"]
theorem scRounds : FnScope nRounds ["_law_hand_here"] (defScope sRounds) := ⟨rfl, rfl, rfl, by decide +kernel, rfl, by decide +kernel, by decide +kernel⟩
section
variable {P : Program} {w : World} {K : PySem.W.Frag} {mg : Str → Option Value} {base : Heap} {Tb : List (Addr × Str)} {C : Addr}
theorem ok_rounds {f : Addr} {fd : FuncData} (F : Fun K "_law_rests_of_rounds" "_law_rests_of_rounds" sRounds f fd) (B : Bl mg)
    (cD : Cal P w K mg base 1 "_law_draw" ["_law_hand_here", "_law_many"] (spDraw Tb)) (cA : Cal P w K mg base 2 "_law_any" ["_law_hand_here", "_law_items"] (spAny K Tb))
    (cI : Cal P w K mg base 3 "_law_is" ["_law_told", "_law_due"] (spIs Tb 2)) (cO : Cal P w K mg base 3 "one_rest" ["book"] (spOneRest K Tb C))
    (cM : Cal P w K mg base 2 "meetings" ["book"] (spMeetings K Tb C)) (cB : CalB P w K mg base Tb C) :
    FnOk P w K mg base CX0 5 f fd ["_law_hand_here"] (spPart Tb) := by
  obtain ⟨fD, fdD, GD, kD, bD, gD⟩ := cD
  obtain ⟨fA, fdA, GA, kA, bA, gA⟩ := cA
  obtain ⟨fI, fdI, GI, kI, bI, gI⟩ := cI
  obtain ⟨fO, fdO, GO, kO, bO, gO⟩ := cO
  obtain ⟨fM, fdM, GM, kM, bM, gM⟩ := cM
  obtain ⟨fB, fdB, MB, GB, bB, gB⟩ := cB
  refine F.ok scRounds (fun vs H Q E h => ?_) (fun cdv A outer s H vs Q E hr h => ?_)
  · obtain ⟨h, c, rfl, _⟩ := h
    rfl
  obtain ⟨h, ce, rfl, hh, hT, q⟩ := h
  have nd := scRounds.nd
  have r1 := hr.mono (show 1 ≤ 4 by decide)
  have r2 := hr.mono (show 2 ≤ 4 by decide)
  have r3 := hr.mono (show 3 ≤ 4 by decide)
  refine ⟨_, (C8.pss_cut (ps_par (i := 1) (j := 2) (by rfl) nd rfl rfl (by decide) rfl rfl (pa_cons (pe_op op_add pe_int (pe_call GD r1 (by rfl) gD kD bD .nil pass0 (pa_cons (pv 0) (pa_cons pe_int pa_nil)))) (pa_cons (pe_op op_add pe_int (pe_call GD r1 (by rfl) gD kD bD .nil pass0 (pa_cons (pv 0) (pa_cons pe_int pa_nil)))) pa_nil)) (by rfl))
    (C8.pss_cut (ps_asg (pe_call GA r2 (by rfl) gA kA bA .nil pass0 (pa_cons (pv 0) (pa_cons (pe_lst (pa_cons pe_str (pa_cons pe_str (pa_cons pe_str pa_nil)))) pa_nil))) (pg_txt (n := 2) rfl (pgs_cons (pg_name (i := 3) nd rfl (.inl rfl)) (pgs_cons (pg_name (i := 4) nd rfl (.inl rfl)) pgs_nil))) (by rfl))
    (C8.pss_cut (ps_set (i := 5) nd rfl (.inl rfl) (pe_op op_catT (pe_op op_catT (pe_op op_rep (pv 3) (pv 1)) (pe_op op_rep (pv 4) (pv 2))) (pe_op op_rep (pv 3) (pv 1))))
    (C8.pss_cut (ps_set (i := 6) nd rfl (.inl rfl) (pe_tup (pa_cons (pe_op op_catT (pe_op op_catT (pv 5) (pe_op op_rep (pv 4) (pv 2))) (pe_op op_rep (pv 3) (pv 1))) (pa_cons (pe_op op_catT (pe_op op_rep (pv 3) (pv 1)) (pe_op op_rep (pv 4) (pv 2))) (pa_cons (pe_op op_catT (pe_op op_rep (pv 4) (pv 2)) (pe_op op_rep (pv 3) (pv 1))) pa_nil)))))
    (C8.pss_cut (ps_if (pt_not (pt_val (pe_call GI r3 (by rfl) gI kI bI .nil pass0 (pa_cons (pe_lst (pa_cons (pe_call GO r3 (by rfl) gO kO bO .nil pass0 (pa_cons (pe_make MB GB hr (by rfl) gB bB .nil pass0 (pa_cons (pe_tup (pa_cons (pv 5) pa_nil)) pa_nil)) pa_nil)) pa_nil)) (pa_cons (pe_lst (pa_cons (pv 6) pa_nil)) pa_nil))))) pss_never pss_nil)
    (C8.pss_cut (ps_set (i := 7) nd rfl (.inl rfl) (pe_tup (pa_cons (pe_op op_catT (pv 3) (pv 4)) (pa_cons (pe_op op_catT (pv 4) (pv 3)) pa_nil))))
    (pss_one (ps_ret (pe_and (pe_cmp (pc_isN (pe_call GO r3 (by rfl) gO kO bO .nil pass0 (pa_cons (pe_make MB GB hr (by rfl) gB bB .nil pass0 (pa_cons (pv 7) pa_nil)) pa_nil)))) (pe_and (pe_cmp (pc_isN (pe_call GO r3 (by rfl) gO kO bO .nil pass0 (pa_cons (pe_make MB GB hr (by rfl) gB bB .nil pass0 (pa_cons (pe_slice sl_tup (pv 7) po_none (po_some pe_int)) pa_nil)) pa_nil)))) (pe_one (pe_cmpR (op_eqV hr.units) (pe_call GM r2 (by rfl) gM kM bM .nil pass0 (pa_cons (pe_make MB GB hr (by rfl) gB bB .nil pass0 (pa_cons (pe_slice sl_tup (pv 7) (po_some pe_int) po_none) pa_nil)) pa_nil)) (pe_lst pa_nil) (nomark _))))))))))))), ?_⟩
  refine ⟨fun σ H' => ∃ (e i : Nat), σ = [some (.ref h), some (.int (e : Nat)), some (.int (i : Nat)), none, none, none, none, none] ∧ 1 ≤ e ∧ e ≤ 3 ∧ 1 ≤ i ∧ i ≤ 2 ∧ K1 Tb h H H' ∧ HandAt H' h ce, ?_, fun σ H1 hM => ?_⟩
  · refine ⟨_, rfl, h, ce, 3, rfl, hh, by decide, by decide, fun H1 d1 k1 hh1 a1 b1 => ⟨_, _, rfl, rfl, _, rfl, h, ce, 2, rfl, hh1, by decide, by decide, fun H2 d2 k2 hh2 a2 b2 => ⟨_, _, rfl, rfl, _, _, rfl, ?_⟩⟩⟩
    obtain ⟨e0, rfl⟩ := Int.eq_ofNat_of_zero_le a1
    obtain ⟨i0, rfl⟩ := Int.eq_ofNat_of_zero_le a2
    exact ⟨1 + e0, 1 + i0, rfl, by omega, by omega, by omega, by omega, k1.trans k2, hh2⟩
  obtain ⟨e, i, rfl, e1, e3, i1, i2, k1, hh1⟩ := hM
  refine ⟨fun σ H' => ∃ (a b : Nat), σ = [some (.ref h), some (.int (e : Nat)), some (.int (i : Nat)), some (vS [a]), some (vS [b]), none, none, none] ∧ (a, b) ∈ [(97, 98), (99, 104), (98, 101)] ∧ K1 Tb h H H' ∧ HandAt H' h ce, ?_, fun σ H2 hM => ?_⟩
  · refine ⟨_, rfl, by show 3 ≤ sizeLine; decide, fun L nL => ?_⟩
    have hhL := hh1.new (o := .lst [vS [97, 98], vS [99, 104], vS [98, 101]]) nL
    have nLh : L ≠ h := fun z => (hh1.ne nL).1 z.symm
    refine ⟨h, ce, .ref L, [vS [97, 98], vS [99, 104], vS [98, 101]], rfl, hhL, .inl ⟨L, rfl, upd_same⟩, (fun z => nLh (by injection z)), by show 0 < 3; decide, by show 3 ≤ 1000; decide, fun H2 v k2 hh2 hv => ?_⟩
    have k12 := (k1.trans (.new (o := .lst [vS [97, 98], vS [99, 104], vS [98, 101]]) nL)).trans k2
    rcases List.mem_cons.mp hv with rfl | hv
    · exact ⟨[97, 98], rfl, rfl, rfl, _, _, rfl, _, _, rfl, rfl, 97, 98, rfl, by decide, k12, hh2⟩
    · rcases List.mem_cons.mp hv with rfl | hv
      · exact ⟨[99, 104], rfl, rfl, rfl, _, _, rfl, _, _, rfl, rfl, 99, 104, rfl, by decide, k12, hh2⟩
      · rcases List.mem_cons.mp hv with rfl | hv
        · exact ⟨[98, 101], rfl, rfl, rfl, _, _, rfl, _, _, rfl, rfl, 98, 101, rfl, by decide, k12, hh2⟩
        · cases hv
  obtain ⟨a, b, rfl, hab, k2, hh2⟩ := hM
  have ha : isLet a = true ∧ isLet b = true ∧ a ≠ b := by
    rcases List.mem_cons.mp hab with z | hab
    · cases z
      decide
    · rcases List.mem_cons.mp hab with z | hab
      · cases z
        decide
      · rcases List.mem_cons.mp hab with z | hab
        · cases z
          decide
        · cases hab
  have rl := rep_len
  refine ⟨fun σ H' => σ = [some (.ref h), some (.int (e : Nat)), some (.int (i : Nat)), some (vS [a]), some (vS [b]), some (vS (K9.rndPiece e i a b)), none, none] ∧ K1 Tb h H H' ∧ HandAt H' h ce, ?_, fun σ H3 hM => ?_⟩
  · refine ⟨_, rfl, _, rfl, a, e, rfl, rfl, by omega, _, rfl, _, rfl, b, i, rfl, rfl, by omega, _, _, rfl, rfl, by simp only [List.length_append, rl]; omega, _, rfl, _, rfl, a, e, rfl, rfl, by omega, _, _, rfl, rfl, by simp only [List.length_append, rl]; omega, rfl, k2, hh2⟩
  obtain ⟨rfl, k3, hh3⟩ := hM
  have lp : (K9.rndPiece e i a b).length = e + i + e := by
    unfold K9.rndPiece
    simp only [List.length_append, rl]
  refine ⟨fun σ H' => ∃ d : V, σ = [some (.ref h), some (.int (e : Nat)), some (.int (i : Nat)), some (vS [a]), some (vS [b]), some (vS (K9.rndPiece e i a b)), some d, none] ∧ ResAt H' d (some (K9.rndPiece e i a b ++ K9.rep i b ++ K9.rep e a, K9.rep e a ++ K9.rep i b, K9.rep i b ++ K9.rep e a)) ∧ K1 Tb h H H' ∧ HandAt H' h ce, ?_, fun σ H4 hM => ?_⟩
  · refine ⟨_, rfl, _, rfl, _, rfl, b, i, rfl, rfl, by omega, _, _, rfl, rfl, by simp only [rl, lp]; omega, _, rfl, _, rfl, a, e, rfl, rfl, by omega, _, _, rfl, rfl, by simp only [List.length_append, rl, lp]; omega, ?_⟩
    refine ⟨_, rfl, _, rfl, a, e, rfl, rfl, by omega, _, rfl, _, rfl, b, i, rfl, rfl, by omega, _, _, rfl, rfl, by simp only [List.length_append, rl]; omega, ?_⟩
    refine ⟨_, rfl, _, rfl, b, i, rfl, rfl, by omega, _, rfl, _, rfl, a, e, rfl, rfl, by omega, _, _, rfl, rfl, by simp only [List.length_append, rl]; omega, by show 3 ≤ sizeLine; decide, fun t nt => ?_⟩
    exact ⟨_, rfl, ⟨t, rfl, upd_same⟩, k3.trans (.new nt), hh3.new nt⟩
  obtain ⟨d, rfl, hd, k4, hh4⟩ := hM
  have rf : K9.rndB e i a b = true := rnd_facts e1 e3 i1 i2 hab
  unfold K9.rndB at rf
  rw [Bool.and_eq_true, Bool.and_eq_true, Bool.and_eq_true] at rf
  obtain ⟨⟨⟨rf1, rf2⟩, rf3⟩, rf4⟩ := rf
  have okp : OkB [K9.rndPiece e i a b] := ⟨Nat.le_refl _, by show 1 ≤ 12; decide, by simp, fun p hp => by
    cases List.mem_singleton.mp hp
    refine ⟨by omega, by omega, fun x hx => ?_⟩
    unfold K9.rndPiece K9.rep at hx
    rcases List.mem_append.mp hx with hx | hx
    · rcases List.mem_append.mp hx with hx | hx
      · rw [(List.mem_replicate.mp hx).2]
        exact ha.1
      · rw [(List.mem_replicate.mp hx).2]
        exact ha.2.1
    · rw [(List.mem_replicate.mp hx).2]
      exact ha.1⟩
  refine ⟨fun σ H' => ∃ d : V, σ = [some (.ref h), some (.int (e : Nat)), some (.int (i : Nat)), some (vS [a]), some (vS [b]), some (vS (K9.rndPiece e i a b)), some d, none] ∧ K1 Tb h H H' ∧ HandAt H' h ce, ?_, fun σ H5 hM => ?_⟩
  · refine ⟨_, rfl, by show 1 ≤ sizeLine; decide, fun t nt => ?_⟩
    have ht4 : SqT K (upd H4 t (.tup [vS (K9.rndPiece e i a b)])) t ([K9.rndPiece e i a b].map vS) := SqT.of upd_same
    have k5 : K0 Tb H4 (upd H4 t (.tup [vS (K9.rndPiece e i a b)])) := .new nt
    refine fun x dx nx ndx hne => ⟨x, t, dx, _, rfl, upd_same, book_sq ht4 nx ndx hne, okp, fun H5 hx k6 => ⟨rfl, ?_⟩⟩
    obtain ⟨k56, hb⟩ := book_laid ht4 nx ndx hne hx k6
    have k45 := k5.trans k56
    refine ⟨x, _, rfl, hb, okp.2.1, fun p hp => (okp.2.2.2 p hp).2.1, (k4.trans k45.up).tab hT, fun H6 v r k6 ho hr => ⟨by show 1 ≤ sizeLine; decide, fun L1 n1 => ⟨_, rfl, by show 1 ≤ sizeLine; decide, fun L2 n2 => ?_⟩⟩⟩
    have er := K9.restB_is (of_decide_eq_true rf1) ho
    have k7 : K0 Tb H6 (upd (upd H6 L1 (.lst [v])) L2 (.lst [d])) := (Kp.new n1).trans (.new n2)
    refine ⟨.ref L1, .ref L2, rfl, one_eq (r := r) (by rw [upd_ne (ne_of_none upd_same n2)]; exact upd_same) upd_same (hr.keep k7) (by rw [er]; exact hd.keep ((k45.trans k6).trans k7)), fun H7 k8 => ⟨true, rfl, iteF ⟨d, rfl, ?_, ?_⟩⟩⟩
    · exact k4.trans (((k45.trans k6).trans k7).trans k8).up
    · exact hh4.keep (((k45.trans k6).trans k7).trans k8)
  obtain ⟨d, rfl, k5, hh5⟩ := hM
  refine ⟨fun σ H' => ∃ t : Addr, σ = [some (.ref h), some (.int (e : Nat)), some (.int (i : Nat)), some (vS [a]), some (vS [b]), some (vS (K9.rndPiece e i a b)), some d, some (.ref t)] ∧ H' t = some (.tup ([[a, b], [b, a]].map vS)) ∧ K1 Tb h H H' ∧ HandAt H' h ce, ?_, fun σ H6 hM => ?_⟩
  · refine ⟨_, rfl, _, rfl, [a], [b], rfl, rfl, by show 2 ≤ 1000; decide, _, rfl, _, rfl, [b], [a], rfl, rfl, by show 2 ≤ 1000; decide, by show 2 ≤ sizeLine; decide, fun t nt => ?_⟩
    exact ⟨t, rfl, upd_same, k5.trans (.new nt), hh5.new nt⟩
  obtain ⟨t, rfl, ht, k6, hh6⟩ := hM
  have okab : OkP [a, b] := ⟨by show 1 ≤ 2; decide, by show 2 ≤ 8; decide, fun c hc => by
    rcases List.mem_cons.mp hc with rfl | hc
    · exact ha.1
    · cases List.mem_singleton.mp hc
      exact ha.2.1⟩
  have okba : OkP [b, a] := ⟨by show 1 ≤ 2; decide, by show 2 ≤ 8; decide, fun c hc => by
    rcases List.mem_cons.mp hc with rfl | hc
    · exact ha.2.1
    · cases List.mem_singleton.mp hc
      exact ha.1⟩
  have ok2 : OkB [[a, b], [b, a]] := ⟨by show 1 ≤ 2; decide, by show 2 ≤ 12; decide, by simp [ha.2.2], fun p hp => by
    rcases List.mem_cons.mp hp with rfl | hp
    · exact okab
    · cases List.mem_singleton.mp hp
      exact okba⟩
  have oka : OkB [[a, b]] := ⟨by show 1 ≤ 1; decide, by show 1 ≤ 12; decide, by simp, fun p hp => by
    cases List.mem_singleton.mp hp
    exact okab⟩
  have okb : OkB [[b, a]] := ⟨by show 1 ≤ 1; decide, by show 1 ≤ 12; decide, by simp, fun p hp => by
    cases List.mem_singleton.mp hp
    exact okba⟩
  -- Book(both)
  refine ⟨_, rfl, fun x dx nx ndx hne => ⟨x, t, dx, _, rfl, upd_same, book_sq (SqT.of ht) nx ndx hne, ok2, fun H7 hx k7 => ⟨rfl, ?_⟩⟩⟩
  obtain ⟨k67, hb⟩ := book_laid (SqT.of ht) nx ndx hne hx k7
  refine ⟨x, _, rfl, hb, ok2.2.1, fun p hp => (ok2.2.2.2 p hp).2.1, (k6.trans k67.up).tab hT, fun H8 v r k8 ho hr => ?_⟩
  cases K9.restB_is (of_decide_eq_true rf2) ho
  cases (hr : v = .non)
  have k68 := k67.trans k8
  refine ⟨true, rfl, iteT ?_⟩
  -- Book(both[:1])
  refine ⟨_, rfl, 1, rfl, t, _, rfl, SqT.of (k68.tup ht id), by show ¬ (HT.sIx 2 0 none = 0 ∧ HT.sIx 2 2 (some 1) = 2); decide, fun p np => ?_⟩
  have hp9 : SqT K (upd H8 p (.tup (cutV ([[a, b], [b, a]].map vS) none (some 1)))) p ([[a, b]].map vS) := SqT.of upd_same
  have k69 := k68.trans (.new (Tb := Tb) (B := fun _ => False) (o := .tup (cutV ([[a, b], [b, a]].map vS) none (some 1))) np)
  refine fun x2 dx2 nx2 ndx2 hne2 => ⟨x2, p, dx2, _, rfl, upd_same, book_sq hp9 nx2 ndx2 hne2, oka, fun H9 hx2 k9 => ⟨rfl, ?_⟩⟩
  obtain ⟨k89, hb2⟩ := book_laid hp9 nx2 ndx2 hne2 hx2 k9
  have k79 := k69.trans k89
  refine ⟨x2, _, rfl, hb2, oka.2.1, fun p hp => (oka.2.2.2 p hp).2.1, (k6.trans k79.up).tab hT, fun H10 v r k10 ho hr => ?_⟩
  cases K9.restB_is (of_decide_eq_true rf3) ho
  cases (hr : v = .non)
  have k710 := k79.trans k10
  refine ⟨true, rfl, iteT ?_⟩
  -- Book(both[1:])
  refine ⟨_, rfl, 1, rfl, t, _, rfl, SqT.of (k710.tup ht id), by show ¬ (HT.sIx 2 0 (some 1) = 0 ∧ HT.sIx 2 2 none = 2); decide, fun p2 np2 => ?_⟩
  have hp11 : SqT K (upd H10 p2 (.tup (cutV ([[a, b], [b, a]].map vS) (some 1) none))) p2 ([[b, a]].map vS) := SqT.of upd_same
  have k711 := k710.trans (.new (Tb := Tb) (B := fun _ => False) (o := .tup (cutV ([[a, b], [b, a]].map vS) (some 1) none)) np2)
  refine fun x3 dx3 nx3 ndx3 hne3 => ⟨x3, p2, dx3, _, rfl, upd_same, book_sq hp11 nx3 ndx3 hne3, okb, fun H11 hx3 k11 => ⟨rfl, ?_⟩⟩
  obtain ⟨k1112, hb3⟩ := book_laid hp11 nx3 ndx3 hne3 hx3 k11
  have k712 := k711.trans k1112
  refine ⟨x3, _, rfl, hb3, okb.2.1, fun p hp => (okb.2.2.2 p hp).2.1, (k6.trans k712.up).tab hT, fun H12 m k12 hm => ?_⟩
  rw [of_decide_eq_true rf4] at hm
  refine ⟨by show 0 ≤ sizeLine; decide, fun D nD => ⟨1, by decide, txt_eq (xs := []) (by rw [upd_ne (ne_of_none hm nD)]; exact hm) upd_same, ?_⟩⟩
  have kz := (k712.trans k12).trans (.new (Tb := Tb) (B := fun _ => False) (o := .lst []) nD)
  exact q _ (k6.trans kz.up) (hh6.keep kz)
end
end K9P
end

section
set_option Elab.async false
set_option linter.all false
set_option maxRecDepth 100000
set_option maxHeartbeats 4000000
/-! _law_rests_of_overlaps -/
namespace K9P
open PySem PySem.Spec PyProof.Rows L2 K9R
abbrev nOverlaps : List Str := ["_law_hand_here", "_law_letters", "_law_ends_at", "_law_first", "_law_middle", "_law_last", "_law_pieces", "_law_some", "_law_every"]
theorem scOverlaps : FnScope nOverlaps ["_law_hand_here"] (defScope sOverlaps) := ⟨rfl, rfl, rfl, by decide +kernel, rfl, by decide +kernel, by decide +kernel⟩
theorem join_signs (l : T) : Txt.join (Str.ofString "") (l.map fun c => S [c]) = S l := by
  have j : TL.joinL [] (l.map fun c => [c]) = l := by
    induction l with
    | nil => rfl
    | cons a r ih =>
      cases r with
      | nil => rfl
      | cons b r =>
        show [a] ++ ([] ++ TL.joinL [] (((b :: r).map fun c => [c]))) = a :: b :: r
        rw [ih]
        rfl
  have e := SX.join_S [] (l.map fun c => [c])
  rw [List.map_map, j] at e
  exact e
theorem signs_sum (l : T) : ((l.map fun c => S [c]).map (·.length)).sum = l.length := by
  induction l with
  | nil => rfl
  | cons a r ih =>
    rw [List.map_cons, List.map_cons, List.sum_cons, ih, List.length_cons]
    show 1 + r.length = _
    omega
theorem cutV_to (xs : List V) (n : Nat) : cutV xs none (some (n : Int)) = xs.take n := by
  unfold cutV
  rw [HT.sIx_none, HT.sIx_nat, List.drop_zero, Nat.sub_zero]
  by_cases z : n ≤ xs.length
  · rw [Nat.min_eq_left z]
  · rw [Nat.min_eq_right (by omega), List.take_length, List.take_of_length_le (by omega)]
theorem tup_ne {H : Hp} {t h c : Addr} {xs : List V} (e : H t = some (.tup xs)) (x : HandAt H h c) : t ≠ h := fun z => by
  obtain ⟨ys, e2⟩ := x.some
  rw [← z, e] at e2
  cases e2
theorem hand_al {H : Hp} {h c p : Addr} (x : HandAt H h c) (n : H p = none) : V.ref p ≠ .ref h := fun z => (x.ne n).1 (by injection z with z; exact z.symm)
theorem txt_is2 {H : Hp} {a b : Addr} {xs : List T} (hl : xs.length ≤ 1000) (ha : H a = some (.lst (xs.map vS))) (hb : H b = some (.lst (xs.map vS))) : EqV H 2 (.ref a) (.ref b) := by
  refine .inr ⟨a, b, _, _, rfl, rfl, .inr ⟨ha, hb⟩, by rw [List.length_map]; exact hl, ?_⟩
  clear ha hb hl
  induction xs with
  | nil => exact .nil
  | cons x r ih => exact .cons (.inl ⟨rfl, .inr ⟨x, rfl⟩⟩) ih
abbrev abc : T := [97, 98, 99, 100, 101, 102, 103, 104]
abbrev stO (h : Addr) (L : T) (E : Addr) (e0 e1 : Nat) (x6 x7 x8 : Option V) : L2.St := [some (.ref h), some (vS L), some (.ref E), some (vS (L.take e0)), some (vS ((L.drop e0).take (e1 - e0))), some (vS (L.drop e1)), x6, x7, x8]
section
variable {P : Program} {w : World} {K : PySem.W.Frag} {mg : Str → Option Value} {base : Heap} {Tb : List (Addr × Str)} {C : Addr}
theorem ok_overlaps {f : Addr} {fd : FuncData} (F : Fun K "_law_rests_of_overlaps" "_law_rests_of_overlaps" sOverlaps f fd) (B : Bl mg)
    (cX : Cal P w K mg base 2 "_law_mixed" ["_law_hand_here", "_law_items"] (spMixed K Tb)) (cS : Cal P w K mg base 1 "_law_shortest" ["_law_texts"] (spShortest Tb))
    (cI : Cal P w K mg base 3 "_law_is" ["_law_told", "_law_due"] (spIs Tb 2)) (cO : Cal P w K mg base 3 "one_rest" ["book"] (spOneRest K Tb C))
    (cM : Cal P w K mg base 2 "meetings" ["book"] (spMeetings K Tb C)) (cB : CalB P w K mg base Tb C) :
    FnOk P w K mg base CX0 5 f fd ["_law_hand_here"] (spPart Tb) := by
  obtain ⟨fX, fdX, GX, kX, bX, gX⟩ := cX
  obtain ⟨fS, fdS, GS, kS, bS, gS⟩ := cS
  obtain ⟨fI, fdI, GI, kI, bI, gI⟩ := cI
  obtain ⟨fO, fdO, GO, kO, bO, gO⟩ := cO
  obtain ⟨fM, fdM, GM, kM, bM, gM⟩ := cM
  obtain ⟨fB, fdB, MB, GB, bB, gB⟩ := cB
  refine F.ok scOverlaps (fun vs H Q E h => ?_) (fun cdv A outer s H vs Q E hr h => ?_)
  · obtain ⟨h, c, rfl, _⟩ := h
    rfl
  obtain ⟨h, ce, rfl, hh, hT, q⟩ := h
  have nd := scOverlaps.nd
  have r1 := hr.mono (show 1 ≤ 4 by decide)
  have r2 := hr.mono (show 2 ≤ 4 by decide)
  have r3 := hr.mono (show 3 ≤ 4 by decide)
  refine ⟨_, (C8.pss_cut (ps_set (i := 1) nd rfl (.inl rfl) (pe_join pe_str (pe_call GX r2 (by rfl) gX kX bX .nil pass0 (pa_cons (pv 0) (pa_cons pe_str pa_nil)))))
    (C8.pss_cut (ps_set (i := 2) nd rfl (.inl rfl) (pe_op op_cat (pe_callB cr_sorted (by rfl) B.sorted (by decide +kernel) (pa_cons (pe_slice sl_list (pe_call GX r2 (by rfl) gX kX bX .nil pass0 (pa_cons (pv 0) (pa_cons (pe_lst (pa_cons pe_int (pa_cons pe_int (pa_cons pe_int (pa_cons pe_int (pa_cons pe_int (pa_cons pe_int (pa_cons pe_int pa_nil)))))))) pa_nil))) po_none (po_some pe_int)) pa_nil)) (pe_lst (pa_cons pe_int pa_nil))))
    (C8.pss_cut (ps_par3 (i := 3) (j := 4) (l := 5) (by rfl) nd rfl rfl rfl (by decide) (by decide) (by decide) rfl rfl rfl (pa_cons (pe_slice sl_str (pv 1) po_none (po_some (pe_ix ix_list (pv 2) pe_int (fun _ _ => rfl)))) (pa_cons (pe_slice sl_str (pv 1) (po_some (pe_ix ix_list (pv 2) pe_int (fun _ _ => rfl))) (po_some (pe_ix ix_list (pv 2) pe_int (fun _ _ => rfl)))) (pa_cons (pe_slice sl_str (pv 1) (po_some (pe_ix ix_list (pv 2) pe_int (fun _ _ => rfl))) (po_some (pe_ix ix_list (pv 2) pe_int (fun _ _ => rfl)))) pa_nil))) (by rfl))
    (C8.pss_cut (ps_set (i := 6) nd rfl (.inl rfl) (pe_callTy call_tuple_of (by rfl) B.tuple (by decide +kernel) (pa_cons (pe_call GX r2 (by rfl) gX kX bX .nil pass0 (pa_cons (pv 0) (pa_cons (pe_lst (pa_cons (pe_op op_catT (pv 3) (pv 4)) (pa_cons (pe_op op_catT (pv 4) (pv 5)) pa_nil))) pa_nil))) pa_nil)))
    (C8.pss_cut (ps_set (i := 7) nd rfl (.inl rfl) (pe_call GS r1 (by rfl) gS kS bS .nil pass0 (pa_cons (pe_lst (pa_cons (pv 3) (pa_cons (pv 5) pa_nil))) pa_nil)))
    (C8.pss_cut (ps_if (pt_not (pt_val (pe_call GI r3 (by rfl) gI kI bI .nil pass0 (pa_cons (pe_lst (pa_cons (pe_call GO r3 (by rfl) gO kO bO .nil pass0 (pa_cons (pe_make MB GB hr (by rfl) gB bB .nil pass0 (pa_cons (pv 6) pa_nil)) pa_nil)) pa_nil)) (pa_cons (pe_lst (pa_cons (pe_tup (pa_cons (pe_op op_catT (pe_op op_catT (pv 3) (pv 4)) (pv 5)) (pa_cons (pe_ix ix_list (pv 7) pe_int (fun _ _ => rfl)) (pa_cons (pe_ix ix_list (pv 7) pe_int (fun _ _ => rfl)) pa_nil)))) pa_nil)) pa_nil))))) pss_never pss_nil)
    (C8.pss_cut (ps_if (pt_not (pt_val (pe_call GI r3 (by rfl) gI kI bI .nil pass0 (pa_cons (pe_call GM r2 (by rfl) gM kM bM .nil pass0 (pa_cons (pe_make MB GB hr (by rfl) gB bB .nil pass0 (pa_cons (pv 6) pa_nil)) pa_nil)) (pa_cons (pe_lst (pa_cons (pe_op op_catT (pe_op op_catT (pv 3) (pv 4)) (pv 5)) pa_nil)) pa_nil))))) pss_never pss_nil)
    (C8.pss_cut (ps_set (i := 8) nd rfl (.inl rfl) (pe_callTy call_tuple_of (by rfl) B.tuple (by decide +kernel) (pa_cons (pe_call GX r2 (by rfl) gX kX bX .nil pass0 (pa_cons (pv 0) (pa_cons (pe_callTy (call_listS rfl) (by rfl) B.list (by decide +kernel) (pa_cons (pv 1) pa_nil)) pa_nil))) pa_nil)))
    (pss_one (ps_ret (pe_and (pe_cmp (pc_isN (pe_call GO r3 (by rfl) gO kO bO .nil pass0 (pa_cons (pe_make MB GB hr (by rfl) gB bB .nil pass0 (pa_cons (pe_op op_catA (pv 8) (pv 6)) pa_nil)) pa_nil)))) (pe_one (pe_cmp (pc_isN (pe_call GO r3 (by rfl) gO kO bO .nil pass0 (pa_cons (pe_make MB GB hr (by rfl) gB bB .nil pass0 (pa_cons (pe_tup (pa_cons (pe_op op_catT (pv 3) (pv 4)) (pa_cons (pv 5) pa_nil))) pa_nil)) pa_nil)))))))))))))))), ?_⟩
  -- the letters
  refine ⟨fun σ H' => ∃ L : T, σ = [some (.ref h), some (vS L), none, none, none, none, none, none, none] ∧ L.Perm abc ∧ K1 Tb h H H' ∧ HandAt H' h ce, ?_, fun σ H1 hM => ?_⟩
  · refine ⟨⟨_, rfl⟩, _, rfl, h, ce, vS abc, abc.map fun c => vS [c], rfl, hh, .inr ⟨abc, rfl, rfl⟩, (fun z => nomatch z), by decide, fun H1 p us k1 hh1 pm hp ph => ?_⟩
    obtain ⟨L, rfl, pL⟩ := K9.perm_map_inv pm rfl
    refine ⟨Str.ofString "", p, L.map fun c => S [c], rfl, rfl, .inl (SqL.of (by rw [List.map_map]; exact hp)), ?_, ?_⟩
    · have e8 : L.length = 8 := pL.length_eq
      have e0 : (Str.ofString "").length = 0 := rfl
      rw [signs_sum, e0, e8]
      omega
    · rw [join_signs]
      exact ⟨L, rfl, pL, k1, hh1⟩
  obtain ⟨L, rfl, pL, k1, hh1⟩ := hM
  have l8 : L.length = 8 := pL.length_eq
  have lN : L.Nodup := pL.symm.nodup (by decide)
  have lLet : ∀ c ∈ L, isLet c = true := fun c hc => by
    have hz : ∀ c ∈ abc, isLet c = true := by decide
    exact hz c (pL.mem_iff.mp hc)
  have lB : ∀ c ∈ L, c < 1000 := fun c hc => by
    have hz : ∀ c ∈ abc, c < 1000 := by decide
    exact hz c (pL.mem_iff.mp hc)
  -- the ends
  refine ⟨fun σ H' => ∃ (E : Addr) (e0 e1 : Nat), σ = [some (.ref h), some (vS L), some (.ref E), none, none, none, none, none, none] ∧ H' E = some (.lst [.int (e0 : Nat), .int (e1 : Nat), .int 8]) ∧ 1 ≤ e0 ∧ e0 < e1 ∧ e1 ≤ 7 ∧ K1 Tb h H H' ∧ HandAt H' h ce, ?_, fun σ H2 hM => ?_⟩
  · refine ⟨_, rfl, by show 7 ≤ sizeLine; decide, fun L0 n0 => ?_⟩
    refine ⟨h, ce, .ref L0, ([1, 2, 3, 4, 5, 6, 7] : List Int).map V.int, rfl, hh1.new n0, .inl ⟨L0, rfl, upd_same⟩, hand_al hh1 n0, by decide, fun H2 p us k2 hh2 pm hp ph => ?_⟩
    obtain ⟨ns, rfl, pN⟩ := K9.perm_map_inv pm rfl
    refine ⟨2, rfl, p, _, rfl, SqL.of hp, fun p2 n2 => ?_⟩
    have ec : cutV (ns.map V.int) none (some 2) = (ns.take 2).map V.int := by
      rw [show (some (2 : Int)) = some ((2 : Nat) : Int) from rfl, cutV_to, List.map_take]
    rw [ec]
    refine ⟨p2, ns.take 2, rfl, SqL.of upd_same, ?_, fun ns' p3 pm3 pw n3 => ?_⟩
    · have := List.length_take_le 2 ns
      omega
    obtain ⟨e0, e1, rfl, b0, b1, b2⟩ := K9.two_ends pN pm3 pw
    refine ⟨by show 1 ≤ sizeLine; decide, fun L8 n8 => ?_⟩
    refine ⟨p3, L8, [.int (e0 : Nat), .int (e1 : Nat)], [.int 8], rfl, rfl, by rw [upd_ne (ne_of_none upd_same n8)]; exact upd_same, upd_same, by show 3 ≤ sizeLine; decide, fun p4 n4 => ?_⟩
    have k3 := ((k1.trans (.new (o := .lst (([1, 2, 3, 4, 5, 6, 7] : List Int).map V.int)) n0)).trans k2).trans (.new (o := .lst ((ns.take 2).map V.int)) n2)
    have k4 := k3.trans (.new (o := .lst ([(e0 : Int), (e1 : Int)].map V.int)) n3)
    have k5 := k4.trans (.new (o := .lst [.int 8]) n8)
    exact ⟨p4, e0, e1, rfl, upd_same, b0, b1, b2, k5.trans (.new n4), (((hh2.new n2).new n3).new n8).new n4⟩
  obtain ⟨E, e0, e1, rfl, hE, b0, b1, b2, k2, hh2⟩ := hM
  have lA : (L.take e1).length = e1 := by rw [List.length_take]; omega
  have lBb : (L.drop e0).length = 8 - e0 := by rw [List.length_drop]; omega
  have lF : (L.take e0).length = e0 := by rw [List.length_take]; omega
  have lL : (L.drop e1).length = 8 - e1 := by rw [List.length_drop]; omega
  have lM : ((L.drop e0).take (e1 - e0)).length = e1 - e0 := by rw [List.length_take, lBb]; omega
  have eA : L.take e0 ++ (L.drop e0).take (e1 - e0) = L.take e1 := K9.take_mid (by omega)
  have eB : (L.drop e0).take (e1 - e0) ++ L.drop e1 = L.drop e0 := K9.mid_drop (by omega)
  have eL : L.take e1 ++ L.drop e1 = L := List.take_append_drop e1 L
  -- first, middle, last
  refine ⟨fun σ H' => σ = stO h L E e0 e1 none none none ∧ K1 Tb h H H' ∧ HandAt H' h ce, ?_, fun σ H3 hM => ?_⟩
  · have z8 : (S L).length ≤ sizeLine := by rw [S_len, sizeLine_eq]; omega
    have e8 : (L.drop e1).take (8 - e1) = L.drop e1 := List.take_of_length_le (by omega)
    refine ⟨_, rfl, _, rfl, E, _, _, _, rfl, rfl, SqL.of hE, atI_nat (j := 0) rfl, (e0 : Nat), rfl, S L, rfl, z8, ?_⟩
    refine ⟨_, rfl, _, rfl, E, _, _, _, rfl, rfl, SqL.of hE, atI_nat (j := 0) rfl, (e0 : Nat), rfl, _, rfl, E, _, _, _, rfl, rfl, SqL.of hE, atI_nat (j := 1) rfl, (e1 : Nat), rfl, S L, rfl, z8, ?_⟩
    refine ⟨_, rfl, _, rfl, E, _, _, _, rfl, rfl, SqL.of hE, atI_nat (j := 1) rfl, (e1 : Nat), rfl, _, rfl, E, _, _, _, rfl, rfl, SqL.of hE, atI_nat (j := 2) rfl, 8, rfl, S L, rfl, z8, ?_⟩
    refine ⟨_, _, _, rfl, ?_, k2, hh2⟩
    have q3 := cutS_mid L e1 8
    rw [e8] at q3
    rw [cutS_to, cutS_mid, show (some (8 : Int)) = some ((8 : Nat) : Int) from rfl, q3]
    rfl
  obtain ⟨rfl, k3, hh3⟩ := hM
  -- the two pieces
  refine ⟨fun σ H' => ∃ (t : Addr) (ps : List T), σ = stO h L E e0 e1 (some (.ref t)) none none ∧ (ps = [L.take e1, L.drop e0] ∨ ps = [L.drop e0, L.take e1]) ∧ H' t = some (.tup (ps.map vS)) ∧ K1 Tb h H H' ∧ HandAt H' h ce, ?_, fun σ H4 hM => ?_⟩
  · refine ⟨_, rfl, _, rfl, _, rfl, L.take e0, (L.drop e0).take (e1 - e0), rfl, rfl, by omega, ?_⟩
    rw [eA]
    refine ⟨_, rfl, _, rfl, (L.drop e0).take (e1 - e0), L.drop e1, rfl, rfl, by omega, ?_⟩
    rw [eB]
    refine ⟨by show 2 ≤ sizeLine; decide, fun L1 n1 => ?_⟩
    refine ⟨h, ce, .ref L1, [L.take e1, L.drop e0].map vS, rfl, hh3.new n1, .inl ⟨L1, rfl, upd_same⟩, hand_al hh3 n1, by show 2 ≤ 1000; decide, fun H4 p us k4 hh4 pm hp ph => ?_⟩
    obtain ⟨ps, rfl, pP⟩ := K9.perm_map_inv pm rfl
    refine ⟨p, _, rfl, .inl ⟨SqL.of hp, fun t nt => ?_⟩⟩
    exact ⟨t, ps, rfl, K9.perm_two pP, upd_same, ((k3.trans (.new (o := .lst ([L.take e1, L.drop e0].map vS)) n1)).trans k4).trans (.new nt), hh4.new nt⟩
  obtain ⟨t, ps, rfl, hps, ht, k4, hh4⟩ := hM
  have hneAB : L.take e1 ≠ L.drop e0 := fun e => by
    have m1 : L[0]'(by omega) ∈ L.take e1 := by
      rw [List.mem_take_iff_getElem]
      exact ⟨0, by omega, rfl⟩
    have m2 : L[0]'(by omega) ∈ L.take e0 := by
      rw [List.mem_take_iff_getElem]
      exact ⟨0, by omega, rfl⟩
    rw [e] at m1
    have hd := (List.nodup_append.mp (by rw [List.take_append_drop e0 L]; exact lN)).2.2
    exact hd _ m2 _ m1 rfl
  have hneFL : L.take e0 ≠ L.drop e1 := fun e => by
    have m1 : L[0]'(by omega) ∈ L.take e0 := by
      rw [List.mem_take_iff_getElem]
      exact ⟨0, by omega, rfl⟩
    have m2 : L[0]'(by omega) ∈ L.take e1 := by
      rw [List.mem_take_iff_getElem]
      exact ⟨0, by omega, rfl⟩
    rw [e] at m1
    have hd := (List.nodup_append.mp (by rw [List.take_append_drop e1 L]; exact lN)).2.2
    exact hd _ m2 _ m1 rfl
  have hneAL : L.take e1 ≠ L.drop e1 := fun e => by
    have m1 : L[0]'(by omega) ∈ L.take e1 := by
      rw [List.mem_take_iff_getElem]
      exact ⟨0, by omega, rfl⟩
    have hd := (List.nodup_append.mp (by rw [List.take_append_drop e1 L]; exact lN)).2.2
    have m2 := m1
    rw [e] at m2
    exact hd _ m1 _ m2 rfl
  have okT : ∀ n, 1 ≤ n → n ≤ 8 → OkP (L.take n) := fun n h1 h2 => ⟨by rw [List.length_take]; omega, by rw [List.length_take]; omega, fun c hc => lLet c (List.mem_of_mem_take hc)⟩
  have okD : ∀ n, n ≤ 7 → OkP (L.drop n) := fun n h1 => ⟨by rw [List.length_drop]; omega, by rw [List.length_drop]; omega, fun c hc => lLet c (List.mem_of_mem_drop hc)⟩
  have oA := okT e1 (by omega) (by omega)
  have oB := okD e0 (by omega)
  have oL := okD e1 b2
  have okps : OkB ps := by
    rcases hps with rfl | rfl
    · exact ⟨by show 1 ≤ 2; decide, by show 2 ≤ 12; decide, by simp [hneAB], fun p hp => by
        rcases List.mem_cons.mp hp with rfl | hp
        · exact oA
        · cases List.mem_singleton.mp hp
          exact oB⟩
    · exact ⟨by show 1 ≤ 2; decide, by show 2 ≤ 12; decide, by simp [hneAB.symm], fun p hp => by
        rcases List.mem_cons.mp hp with rfl | hp
        · exact oB
        · cases List.mem_singleton.mp hp
          exact oA⟩
  have okAL : OkB [L.take e1, L.drop e1] := ⟨by show 1 ≤ 2; decide, by show 2 ≤ 12; decide, by simp [hneAL], fun p hp => by
    rcases List.mem_cons.mp hp with rfl | hp
    · exact oA
    · cases List.mem_singleton.mp hp
      exact oL⟩
  obtain ⟨om, orr, oz⟩ := K9.overlap lN l8 lB b0 b1 b2 hps
  -- the two ends, the shortest first
  refine ⟨fun σ H' => ∃ (s : Addr) (s0 s1 : T), σ = stO h L E e0 e1 (some (.ref t)) (some (.ref s)) none ∧ K9.isort [L.take e0, L.drop e1] = [s0, s1] ∧ H' s = some (.lst [vS s0, vS s1]) ∧ H' t = some (.tup (ps.map vS)) ∧ K1 Tb h H H' ∧ HandAt H' h ce, ?_, fun σ H5 hM => ?_⟩
  · refine ⟨_, rfl, _, rfl, by show 2 ≤ sizeLine; decide, fun L2 n2 => ?_⟩
    refine ⟨L2, [L.take e0, L.drop e1], rfl, upd_same, by simp [hneFL], by show 2 ≤ 1000; decide, fun x hx => ?_, fun H5 p k5 hp => ?_⟩
    · rcases List.mem_cons.mp hx with rfl | hx
      · omega
      · cases List.mem_singleton.mp hx
        omega
    · obtain ⟨s0, s1, es⟩ := K9.isort_two (a := L.take e0) (b := L.drop e1)
      rw [es] at hp
      have k45 := (Kp.new (Tb := Tb) (B := fun _ => False) (o := .lst [vS (L.take e0), vS (L.drop e1)]) n2).trans k5
      exact ⟨p, s0, s1, rfl, es, hp, k45.tup ht id, k4.trans k45.up, hh4.keep k45⟩
  obtain ⟨s, s0, s1, rfl, es, hs, ht5, k5, hh5⟩ := hM
  -- one_rest(Book(pieces))
  refine ⟨fun σ H' => σ = stO h L E e0 e1 (some (.ref t)) (some (.ref s)) none ∧ H' t = some (.tup (ps.map vS)) ∧ K1 Tb h H H' ∧ HandAt H' h ce, ?_, fun σ H6 hM => ?_⟩
  · refine ⟨_, rfl, fun x dx nx ndx hne => ⟨x, t, dx, ps, rfl, upd_same, book_sq (SqT.of ht5) nx ndx hne, okps, fun H6 hx k6 => ⟨rfl, ?_⟩⟩⟩
    obtain ⟨k56, hb⟩ := book_laid (SqT.of ht5) nx ndx hne hx k6
    refine ⟨x, ps, rfl, hb, okps.2.1, fun p hp => (okps.2.2.2 p hp).2.1, (k5.trans k56.up).tab hT, fun H7 v r k7 ho hr => ?_⟩
    rw [om] at ho
    obtain ⟨s0', s1', es', er⟩ := orr r ho
    rw [es] at es'
    injection es' with z1 z2
    injection z2 with z2 z3
    subst z1
    subst z2
    have k57 := k56.trans k7
    refine ⟨by show 1 ≤ sizeLine; decide, fun L1 n1 => ?_⟩
    have k58 := k57.trans (.new (o := .lst [v]) n1)
    refine ⟨_, rfl, _, rfl, L.take e0, (L.drop e0).take (e1 - e0), rfl, rfl, by omega, ?_⟩
    rw [eA]
    refine ⟨_, rfl, L.take e1, L.drop e1, rfl, rfl, by omega, ?_⟩
    rw [eL]
    refine ⟨_, rfl, s, _, _, _, rfl, rfl, SqL.of (k58.lst hs id), atI_nat (j := 0) rfl, _, rfl, s, _, _, _, rfl, rfl, SqL.of (k58.lst hs id), atI_nat (j := 1) rfl, by show 3 ≤ sizeLine; decide, fun T1 nT1 => ⟨by show 1 ≤ sizeLine; decide, fun L2 n2 => ?_⟩⟩
    have kT : K0 Tb (upd H7 L1 (.lst [v])) (upd (upd (upd H7 L1 (.lst [v])) T1 (.tup [vS L, vS s0, vS s1])) L2 (.lst [.ref T1])) := (Kp.new nT1).trans (.new n2)
    have k59 := k58.trans kT
    refine ⟨.ref L1, .ref L2, rfl, one_eq (r := r) (kT.lst upd_same id) upd_same (ResAt.keep ((Kp.new n1).trans kT) hr) ?_, fun H9 k9 => ⟨true, rfl, iteF ⟨rfl, ?_, ?_, ?_⟩⟩⟩
    · rw [er]
      exact ⟨T1, rfl, by rw [upd_ne (ne_of_none upd_same n2)]; exact upd_same⟩
    · exact (k59.trans k9).tup ht5 id
    · exact k5.trans (k59.trans k9).up
    · exact hh5.keep (k59.trans k9)
  obtain ⟨rfl, ht6, k6, hh6⟩ := hM
  -- meetings(Book(pieces))
  refine ⟨fun σ H' => σ = stO h L E e0 e1 (some (.ref t)) (some (.ref s)) none ∧ H' t = some (.tup (ps.map vS)) ∧ K1 Tb h H H' ∧ HandAt H' h ce, ?_, fun σ H7 hM => ?_⟩
  · refine ⟨_, rfl, fun x dx nx ndx hne => ⟨x, t, dx, ps, rfl, upd_same, book_sq (SqT.of ht6) nx ndx hne, okps, fun H7 hx k7 => ⟨rfl, ?_⟩⟩⟩
    obtain ⟨k67, hb⟩ := book_laid (SqT.of ht6) nx ndx hne hx k7
    refine ⟨x, ps, rfl, hb, okps.2.1, fun p hp => (okps.2.2.2 p hp).2.1, (k6.trans k67.up).tab hT, fun H8 p k8 hp => ?_⟩
    rw [om] at hp
    have k68 := k67.trans k8
    refine ⟨_, rfl, _, rfl, L.take e0, (L.drop e0).take (e1 - e0), rfl, rfl, by omega, ?_⟩
    rw [eA]
    refine ⟨_, rfl, L.take e1, L.drop e1, rfl, rfl, by omega, ?_⟩
    rw [eL]
    refine ⟨by show 1 ≤ sizeLine; decide, fun L2 n2 => ?_⟩
    have kn : K0 Tb H8 (upd H8 L2 (.lst [vS L])) := .new n2
    have k69 := k68.trans kn
    refine ⟨.ref p, .ref L2, rfl, txt_is2 (xs := [L]) (by show 1 ≤ 1000; decide) (kn.lst hp id) upd_same, fun H9 k9 => ⟨true, rfl, iteF ⟨rfl, ?_, ?_, ?_⟩⟩⟩
    · exact (k69.trans k9).tup ht6 id
    · exact k6.trans (k69.trans k9).up
    · exact hh6.keep (k69.trans k9)
  obtain ⟨rfl, ht7, k7, hh7⟩ := hM
  -- every
  refine ⟨fun σ H' => ∃ (ev : Addr) (cs : T), σ = stO h L E e0 e1 (some (.ref t)) (some (.ref s)) (some (.ref ev)) ∧ cs.Perm L ∧ H' ev = some (.tup ((cs.map fun c => [c]).map vS)) ∧ H' t = some (.tup (ps.map vS)) ∧ K1 Tb h H H' ∧ HandAt H' h ce, ?_, fun σ H8 hM => ?_⟩
  · refine ⟨_, rfl, _, rfl, L, rfl, by omega, fun L1 n1 => ?_⟩
    refine ⟨h, ce, .ref L1, L.map fun c => vS [c], rfl, hh7.new n1, .inl ⟨L1, rfl, upd_same⟩, hand_al hh7 n1, by rw [List.length_map]; omega, fun H8 p us k8 hh8 pm hp ph => ?_⟩
    obtain ⟨cs, rfl, pC⟩ := K9.perm_map_inv pm rfl
    refine ⟨p, _, rfl, .inl ⟨SqL.of hp, fun t2 nt2 => ?_⟩⟩
    have kk := (Kp.new (Tb := Tb) (B := fun b => b = h) (o := .lst (L.map fun c => vS [c])) n1).trans k8
    have ht8 := kk.tup ht7 (tup_ne ht7 hh7)
    refine ⟨t2, cs, rfl, pC, ?_, ?_, (k7.trans kk).trans (.new nt2), hh8.new nt2⟩
    · rw [List.map_map]
      exact upd_same
    · rw [upd_ne (ne_of_none ht8 nt2)]
      exact ht8
  obtain ⟨ev, cs, rfl, pC, hev, ht8, k8, hh8⟩ := hM
  have c8 : cs.length = 8 := by rw [pC.length_eq, l8]
  have p2 : ps.length = 2 := by
    rcases hps with rfl | rfl
    · rfl
    · rfl
  have psl : ∀ p ∈ ps, 2 ≤ p.length := fun p hp => by
    rcases hps with rfl | rfl
    · rcases List.mem_cons.mp hp with rfl | hp
      · omega
      · cases List.mem_singleton.mp hp
        omega
    · rcases List.mem_cons.mp hp with rfl | hp
      · omega
      · cases List.mem_singleton.mp hp
        omega
  have psL : ∀ p ∈ ps, ∀ c ∈ p, c ∈ L := fun p hp c hc => by
    rcases hps with rfl | rfl
    · rcases List.mem_cons.mp hp with rfl | hp
      · exact List.mem_of_mem_take hc
      · cases List.mem_singleton.mp hp
        exact List.mem_of_mem_drop hc
    · rcases List.mem_cons.mp hp with rfl | hp
      · exact List.mem_of_mem_drop hc
      · cases List.mem_singleton.mp hp
        exact List.mem_of_mem_take hc
  have okE : OkB (cs.map (fun c => [c]) ++ ps) := by
    refine ⟨by rw [List.length_append, List.length_map]; omega, by rw [List.length_append, List.length_map]; omega, List.nodup_append.mpr ⟨?_, okps.2.2.1, fun a ha b hb e => ?_⟩, fun p hp => ?_⟩
    · have cn : cs.Nodup := pC.symm.nodup lN
      refine List.Pairwise.map _ (fun a b hab e => hab ?_) cn
      injection e
    · obtain ⟨x, hx, rfl⟩ := List.mem_map.mp ha
      have := psl b hb
      rw [← e] at this
      exact absurd this (by show ¬ (2 ≤ 1); decide)
    · rcases List.mem_append.mp hp with hp | hp
      · obtain ⟨x, hx, rfl⟩ := List.mem_map.mp hp
        exact ⟨by show 1 ≤ 1; decide, by show 1 ≤ 8; decide, fun c hc => by
          cases List.mem_singleton.mp hc
          exact lLet x (pC.mem_iff.mp hx)⟩
      · exact okps.2.2.2 p hp
  refine ⟨_, rfl, _, rfl, ev, t, _, _, rfl, rfl, SqT.of hev, SqT.of ht8, by rw [List.length_map, List.length_map, List.length_map, sizeLine_eq]; omega, (fun z => ?_), (fun _ z => ?_), fun _ _ u nu => ?_⟩
  · have := congrArg List.length z
    rw [List.length_map, List.length_map] at this
    exact absurd this (by rw [c8]; decide)
  · have := congrArg List.length z
    rw [List.length_map] at this
    exact absurd this (by rw [p2]; decide)
  have hu : SqT K (upd H8 u (.tup ((cs.map fun c => [c]).map vS ++ ps.map vS))) u ((cs.map (fun c => [c]) ++ ps).map vS) := by
    rw [List.map_append]
    exact SqT.of upd_same
  have ku : K0 Tb H8 (upd H8 u (.tup ((cs.map fun c => [c]).map vS ++ ps.map vS))) := .new nu
  refine fun x dx nx ndx hne => ⟨x, u, dx, _, rfl, upd_same, book_sq hu nx ndx hne, okE, fun H9 hx k9 => ⟨rfl, ?_⟩⟩
  obtain ⟨ku9, hb⟩ := book_laid hu nx ndx hne hx k9
  have k89 := ku.trans ku9
  refine ⟨x, _, rfl, hb, okE.2.1, fun p hp => (okE.2.2.2 p hp).2.1, (k8.trans k89.up).tab hT, fun H10 v r k10 ho hr => ?_⟩
  cases K9.every_none pC psL ho
  cases (hr : v = .non)
  have k810 := k89.trans k10
  refine ⟨true, rfl, iteT ?_⟩
  refine ⟨_, rfl, _, rfl, L.take e0, (L.drop e0).take (e1 - e0), rfl, rfl, by omega, ?_⟩
  rw [eA]
  refine ⟨_, rfl, by show 2 ≤ sizeLine; decide, fun u2 nu2 => ?_⟩
  have hu2 : SqT K (upd H10 u2 (.tup [vS (L.take e1), vS (L.drop e1)])) u2 ([L.take e1, L.drop e1].map vS) := SqT.of upd_same
  have ku2 : K0 Tb H10 (upd H10 u2 (.tup [vS (L.take e1), vS (L.drop e1)])) := .new nu2
  refine fun x2 dx2 nx2 ndx2 hne2 => ⟨x2, u2, dx2, _, rfl, upd_same, book_sq hu2 nx2 ndx2 hne2, okAL, fun H11 hx2 k11 => ⟨rfl, ?_⟩⟩
  obtain ⟨k1011, hb2⟩ := book_laid hu2 nx2 ndx2 hne2 hx2 k11
  have k811 := k810.trans (ku2.trans k1011)
  refine ⟨x2, _, rfl, hb2, okAL.2.1, fun p hp => (okAL.2.2.2 p hp).2.1, (k8.trans k811.up).tab hT, fun H12 v r k12 ho hr => ?_⟩
  rw [oz] at ho
  cases (ho : r = none)
  cases (hr : v = .non)
  exact q _ (k8.trans (k811.trans k12).up) (hh8.keep (k811.trans k12))
end
end K9P
end

section
set_option Elab.async false
set_option linter.all false
set_option maxRecDepth 100000
set_option maxHeartbeats 4000000
/-! law -/
namespace K9P
open PySem PySem.Spec PyProof.Rows L2 K9R
abbrev nLaw : List Str := ["_law_script", "_law_hand_here"]
theorem scLaw : FnScope nLaw ["_law_script"] (defScope sLaw) := ⟨rfl, rfl, rfl, by decide +kernel, rfl, by decide +kernel, by decide +kernel⟩
section
variable {P : Program} {w : World} {K : PySem.W.Frag} {mg : Str → Option Value} {base : Heap} {Tb : List (Addr × Str)} {C : Addr}
def spLaw (K : PySem.W.Frag) (Tb : List (Addr × Str)) : Sp := fun vs H Q _ => ∃ (a : Addr) (ns : List Int), vs = [.ref a] ∧ SqL K H a (ns.map V.int) ∧ LamX.Tabs Tb H ∧ ∀ H', Q (.bl true) H'
theorem ok_law {f : Addr} {fd : FuncData} (F : Fun K "law" "law" sLaw f fd)
    (cH : Cal P w K mg base 1 "_law_hand" ["_law_script"] (spHand K Tb)) (cP : Cal P w K mg base 5 "_law_rests_of_powers" ["_law_hand_here"] (spPart Tb))
    (cO : Cal P w K mg base 5 "_law_rests_of_overlaps" ["_law_hand_here"] (spPart Tb)) (cR : Cal P w K mg base 5 "_law_rests_of_rounds" ["_law_hand_here"] (spPart Tb)) :
    FnOk P w K mg base CX0 6 f fd ["_law_script"] (spLaw K Tb) := by
  obtain ⟨fH, fdH, GH, kH, bH, gH⟩ := cH
  obtain ⟨fP, fdP, GP, kP, bP, gP⟩ := cP
  obtain ⟨fO, fdO, GO, kO, bO, gO⟩ := cO
  obtain ⟨fR, fdR, GR, kR, bR, gR⟩ := cR
  refine F.ok scLaw (fun vs H Q E h => ?_) (fun cdv A outer s H vs Q E hr h => ?_)
  · obtain ⟨a, ns, rfl, _⟩ := h
    rfl
  obtain ⟨a, ns, rfl, hS, hT, q⟩ := h
  have nd := scLaw.nd
  have r1 := hr.mono (show 1 ≤ 5 by decide)
  refine ⟨_, pss_cons (ps_set (i := 1) nd rfl (.inl rfl) (pe_call GH r1 (by rfl) gH kH bH .nil pass0 (pa_cons (pv 0) pa_nil)))
    (pss_one (ps_ret (pe_and (pe_call GP hr (by rfl) gP kP bP .nil pass0 (pa_cons (pv 1) pa_nil))
      (pe_and (pe_call GO hr (by rfl) gO kO bO .nil pass0 (pa_cons (pv 1) pa_nil))
        (pe_one (pe_call GR hr (by rfl) gR kR bR .nil pass0 (pa_cons (pv 1) pa_nil))))))), ?_⟩
  refine ⟨_, rfl, a, ns, rfl, hS, fun H1 h c k1 hh1 => ?_⟩
  refine ⟨_, rfl, h, c, rfl, hh1, k1.tab hT, fun H2 k2 hh2 => ⟨true, rfl, iteT ?_⟩⟩
  refine ⟨_, rfl, h, c, rfl, hh2, k2.tab (k1.tab hT), fun H3 k3 hh3 => ⟨true, rfl, iteT ?_⟩⟩
  exact ⟨_, rfl, h, c, rfl, hh3, k3.tab (k2.tab (k1.tab hT)), fun H4 k4 hh4 => q H4⟩
end
end K9P
end

section
set_option Elab.async false
set_option linter.all false
set_option maxRecDepth 100000
set_option maxHeartbeats 4000000
/-! what the top has left; the end -/
namespace K9P
open PySem PySem.Spec PyProof.Rows L2 K9R
theorem all_mk {l : PySem.W.OpenLaw} {w : World} {K : PySem.W.Frag} {h : Heap} {mg : Str → Option Value} {fa C f1 f2 f3 f4 f5 f6 f7 f8 f9 f10 f11 f12 f13 f14 f15 f16 f17 f18 f19 f20 P1 P2 : Addr} {t1 t2 t3 : Tok} (X : K.In h) (G : h.Ns mainGlobals mg) (hfa : mg "law" = some (.ref fa)) (hP : P1 ≠ P2)
    (hT1 : h.get? P1 = some (PySem.W.tabObj #[])) (hT2 : h.get? P2 = some (PySem.W.tabObj #[]))
    {od1 an1 : Option Addr} {sl1 : Array (Option Value)} {oc1 kV1 dc1 pm1 cd1 ct1 : Value}
    {od2 an2 : Option Addr} {sl2 : Array (Option Value)} {oc2 kV2 dc2 pm2 cd2 ct2 : Value}
    {od3 an3 : Option Addr} {sl3 : Array (Option Value)} {oc3 kV3 dc3 pm3 cd3 ct3 : Value}
    {od4 an4 : Option Addr} {sl4 : Array (Option Value)} {oc4 kV4 dc4 pm4 cd4 ct4 : Value}
    {od5 an5 : Option Addr} {sl5 : Array (Option Value)} {oc5 kV5 dc5 pm5 cd5 ct5 : Value}
    {od6 an6 : Option Addr} {sl6 : Array (Option Value)} {oc6 kV6 dc6 pm6 cd6 ct6 : Value}
    {od7 an7 : Option Addr} {sl7 : Array (Option Value)} {oc7 kV7 dc7 pm7 ct7 : Value} {cc7 : Addr}
    {od8 an8 : Option Addr} {sl8 : Array (Option Value)} {oc8 kV8 dc8 pm8 cd8 ct8 : Value}
    {od9 an9 : Option Addr} {sl9 : Array (Option Value)} {oc9 kV9 dc9 pm9 ct9 : Value} {cc9 : Addr}
    {od10 an10 : Option Addr} {sl10 : Array (Option Value)} {oc10 kV10 dc10 pm10 cd10 ct10 : Value}
    {od11 an11 : Option Addr} {sl11 : Array (Option Value)} {oc11 kV11 dc11 pm11 cd11 ct11 : Value}
    {od12 an12 : Option Addr} {sl12 : Array (Option Value)} {oc12 kV12 dc12 pm12 cd12 ct12 : Value}
    {od13 an13 : Option Addr} {sl13 : Array (Option Value)} {oc13 kV13 dc13 pm13 cd13 ct13 : Value}
    {od14 an14 : Option Addr} {sl14 : Array (Option Value)} {oc14 kV14 dc14 pm14 cd14 ct14 : Value}
    {od15 an15 : Option Addr} {sl15 : Array (Option Value)} {oc15 kV15 dc15 pm15 cd15 ct15 : Value}
    {od16 an16 : Option Addr} {sl16 : Array (Option Value)} {oc16 kV16 dc16 pm16 cd16 ct16 : Value}
    {od17 an17 : Option Addr} {sl17 : Array (Option Value)} {oc17 kV17 dc17 pm17 cd17 ct17 : Value}
    {od18 an18 : Option Addr} {sl18 : Array (Option Value)} {oc18 kV18 dc18 pm18 cd18 ct18 : Value}
    {od19 an19 : Option Addr} {sl19 : Array (Option Value)} {oc19 kV19 dc19 pm19 cd19 ct19 : Value}
    {od20 an20 : Option Addr} {sl20 : Array (Option Value)} {oc20 kV20 dc20 pm20 cd20 ct20 : Value}
    (aC : PySem.W.nsIn K mainGlobals "Book" = some (some (.ref C)))
    (a1 : PySem.W.nsIn K mainGlobals "is_log" = some (some (.ref f1)))
    (l1 : K.lookup f1 = some ⟨oc1, od1, .func (PySem.W.fnOf "is_log" "is_log" (defArgs sIsLog) (defBody sIsLog) (defScope sIsLog) .none kV1 dc1 pm1 an1 cd1 ct1), sl1⟩)
    (c1 : PySem.W.codeIn K cd1 "is_log" = true)
    (k1 : PySem.W.keepIn K (.ref f1) = true)
    (a2 : PySem.W.nsIn K mainGlobals "is_piece" = some (some (.ref f2)))
    (l2 : K.lookup f2 = some ⟨oc2, od2, .func (PySem.W.fnOf "is_piece" "is_piece" (defArgs sIsPiece) (defBody sIsPiece) (defScope sIsPiece) .none kV2 dc2 pm2 an2 cd2 ct2), sl2⟩)
    (c2 : PySem.W.codeIn K cd2 "is_piece" = true)
    (k2 : PySem.W.keepIn K (.ref f2) = true)
    (a3 : PySem.W.findIn K (.ref C) "__init__" = some (some (.ref f3)))
    (l3 : K.lookup f3 = some ⟨oc3, od3, .func (PySem.W.fnOf "__init__" "Book.__init__" (defArgs sBook) (defBody sBook) (defScope sBook) .none kV3 dc3 pm3 an3 cd3 ct3), sl3⟩)
    (c3 : PySem.W.codeIn K cd3 "Book.__init__" = true)
    (k3 : PySem.W.keepIn K (.ref f3) = true)
    (a4 : PySem.W.nsIn K mainGlobals "raw_strikes" = some (some (.ref f4)))
    (l4 : K.lookup f4 = some ⟨oc4, od4, .func (PySem.W.fnOf "raw_strikes" "raw_strikes" (defArgs sStrikes) (defBody sStrikes) (defScope sStrikes) .none kV4 dc4 pm4 an4 cd4 ct4), sl4⟩)
    (c4 : PySem.W.codeIn K cd4 "raw_strikes" = true)
    (k4 : PySem.W.keepIn K (.ref f4) = true)
    (a5 : PySem.W.nsIn K mainGlobals "raw_struck" = some (some (.ref f5)))
    (l5 : K.lookup f5 = some ⟨oc5, od5, .func (PySem.W.fnOf "raw_struck" "raw_struck" (defArgs sStruck) (defBody sStruck) (defScope sStruck) .none kV5 dc5 pm5 an5 cd5 ct5), sl5⟩)
    (c5 : PySem.W.codeIn K cd5 "raw_struck" = true)
    (k5 : PySem.W.keepIn K (.ref f5) = true)
    (a6 : PySem.W.nsIn K mainGlobals "all_left" = some (some (.ref f6)))
    (l6 : K.lookup f6 = some ⟨oc6, od6, .func (PySem.W.fnOf "all_left" "all_left" (defArgs sAllLeft) (defBody sAllLeft) (defScope sAllLeft) .none kV6 dc6 pm6 an6 cd6 ct6), sl6⟩)
    (c6 : PySem.W.codeIn K cd6 "all_left" = true)
    (k6 : PySem.W.keepIn K (.ref f6) = true)
    (a7 : PySem.W.nsIn K mainGlobals "ends_among" = some (some (.ref f7)))
    (l7 : K.lookup f7 = some ⟨oc7, od7, .func (PySem.W.fnOf "ends_among" "ends_among" (defArgs sEnds) (defBody sEnds) (defScope sEnds) .none kV7 dc7 pm7 an7 (.ref cc7) ct7), sl7⟩)
    (c7 : PySem.W.codeIn K (.ref cc7) "ends_among" = true)
    (k7 : PySem.W.keepIn K (.ref f7) = true)
    (a8 : PySem.W.nsIn K mainGlobals "meeting" = some (some (.ref f8)))
    (l8 : K.lookup f8 = some ⟨oc8, od8, .func (PySem.W.fnOf "meeting" "meeting" (defArgs sMeeting) (defBody sMeeting) (defScope sMeeting) .none kV8 dc8 pm8 an8 cd8 ct8), sl8⟩)
    (c8 : PySem.W.codeIn K cd8 "meeting" = true)
    (k8 : PySem.W.keepIn K (.ref f8) = true)
    (a9 : PySem.W.nsIn K mainGlobals "meetings" = some (some (.ref f9)))
    (l9 : K.lookup f9 = some ⟨oc9, od9, .func (PySem.W.fnOf "meetings" "meetings" (defArgs sMeetings) (defBody sMeetings) (defScope sMeetings) .none kV9 dc9 pm9 an9 (.ref cc9) ct9), sl9⟩)
    (c9 : PySem.W.codeIn K (.ref cc9) "meetings" = true)
    (k9 : PySem.W.keepIn K (.ref f9) = true)
    (a10 : PySem.W.nsIn K mainGlobals "one_rest" = some (some (.ref f10)))
    (l10 : K.lookup f10 = some ⟨oc10, od10, .func (PySem.W.fnOf "one_rest" "one_rest" (defArgs sOneRest) (defBody sOneRest) (defScope sOneRest) .none kV10 dc10 pm10 an10 cd10 ct10), sl10⟩)
    (c10 : PySem.W.codeIn K cd10 "one_rest" = true)
    (k10 : PySem.W.keepIn K (.ref f10) = true)
    (a11 : PySem.W.nsIn K mainGlobals "_law_hand" = some (some (.ref f11)))
    (l11 : K.lookup f11 = some ⟨oc11, od11, .func (PySem.W.fnOf "_law_hand" "_law_hand" (defArgs sHand) (defBody sHand) (defScope sHand) .none kV11 dc11 pm11 an11 cd11 ct11), sl11⟩)
    (c11 : PySem.W.codeIn K cd11 "_law_hand" = true)
    (k11 : PySem.W.keepIn K (.ref f11) = true)
    (a12 : PySem.W.nsIn K mainGlobals "_law_draw" = some (some (.ref f12)))
    (l12 : K.lookup f12 = some ⟨oc12, od12, .func (PySem.W.fnOf "_law_draw" "_law_draw" (defArgs sDraw) (defBody sDraw) (defScope sDraw) .none kV12 dc12 pm12 an12 cd12 ct12), sl12⟩)
    (c12 : PySem.W.codeIn K cd12 "_law_draw" = true)
    (k12 : PySem.W.keepIn K (.ref f12) = true)
    (a13 : PySem.W.nsIn K mainGlobals "_law_any" = some (some (.ref f13)))
    (l13 : K.lookup f13 = some ⟨oc13, od13, .func (PySem.W.fnOf "_law_any" "_law_any" (defArgs sAny) (defBody sAny) (defScope sAny) .none kV13 dc13 pm13 an13 cd13 ct13), sl13⟩)
    (c13 : PySem.W.codeIn K cd13 "_law_any" = true)
    (k13 : PySem.W.keepIn K (.ref f13) = true)
    (a14 : PySem.W.nsIn K mainGlobals "_law_is" = some (some (.ref f14)))
    (l14 : K.lookup f14 = some ⟨oc14, od14, .func (PySem.W.fnOf "_law_is" "_law_is" (defArgs sIs) (defBody sIs) (defScope sIs) .none kV14 dc14 pm14 an14 cd14 ct14), sl14⟩)
    (c14 : PySem.W.codeIn K cd14 "_law_is" = true)
    (k14 : PySem.W.keepIn K (.ref f14) = true)
    (a15 : PySem.W.nsIn K mainGlobals "_law_mixed" = some (some (.ref f15)))
    (l15 : K.lookup f15 = some ⟨oc15, od15, .func (PySem.W.fnOf "_law_mixed" "_law_mixed" (defArgs sMixed) (defBody sMixed) (defScope sMixed) .none kV15 dc15 pm15 an15 cd15 ct15), sl15⟩)
    (c15 : PySem.W.codeIn K cd15 "_law_mixed" = true)
    (k15 : PySem.W.keepIn K (.ref f15) = true)
    (a16 : PySem.W.nsIn K mainGlobals "_law_shortest" = some (some (.ref f16)))
    (l16 : K.lookup f16 = some ⟨oc16, od16, .func (PySem.W.fnOf "_law_shortest" "_law_shortest" (defArgs sShortest) (defBody sShortest) (defScope sShortest) .none kV16 dc16 pm16 an16 cd16 ct16), sl16⟩)
    (c16 : PySem.W.codeIn K cd16 "_law_shortest" = true)
    (k16 : PySem.W.keepIn K (.ref f16) = true)
    (a17 : PySem.W.nsIn K mainGlobals "_law_rests_of_powers" = some (some (.ref f17)))
    (l17 : K.lookup f17 = some ⟨oc17, od17, .func (PySem.W.fnOf "_law_rests_of_powers" "_law_rests_of_powers" (defArgs sPowers) (defBody sPowers) (defScope sPowers) .none kV17 dc17 pm17 an17 cd17 ct17), sl17⟩)
    (c17 : PySem.W.codeIn K cd17 "_law_rests_of_powers" = true)
    (k17 : PySem.W.keepIn K (.ref f17) = true)
    (a18 : PySem.W.nsIn K mainGlobals "_law_rests_of_overlaps" = some (some (.ref f18)))
    (l18 : K.lookup f18 = some ⟨oc18, od18, .func (PySem.W.fnOf "_law_rests_of_overlaps" "_law_rests_of_overlaps" (defArgs sOverlaps) (defBody sOverlaps) (defScope sOverlaps) .none kV18 dc18 pm18 an18 cd18 ct18), sl18⟩)
    (c18 : PySem.W.codeIn K cd18 "_law_rests_of_overlaps" = true)
    (k18 : PySem.W.keepIn K (.ref f18) = true)
    (a19 : PySem.W.nsIn K mainGlobals "_law_rests_of_rounds" = some (some (.ref f19)))
    (l19 : K.lookup f19 = some ⟨oc19, od19, .func (PySem.W.fnOf "_law_rests_of_rounds" "_law_rests_of_rounds" (defArgs sRounds) (defBody sRounds) (defScope sRounds) .none kV19 dc19 pm19 an19 cd19 ct19), sl19⟩)
    (c19 : PySem.W.codeIn K cd19 "_law_rests_of_rounds" = true)
    (k19 : PySem.W.keepIn K (.ref f19) = true)
    (a20 : PySem.W.nsIn K mainGlobals "law" = some (some (.ref f20)))
    (l20 : K.lookup f20 = some ⟨oc20, od20, .func (PySem.W.fnOf "law" "law" (defArgs sLaw) (defBody sLaw) (defScope sLaw) .none kV20 dc20 pm20 an20 cd20 ct20), sl20⟩)
    (c20 : PySem.W.codeIn K cd20 "law" = true)
    (k20 : PySem.W.keepIn K (.ref f20) = true)
    (iI : PySem.W.isFn K (.ref f3) = true)
    (pg : PySem.W.plainGet K C Str.empty = true)
    (hd : PySem.W.hasDictIn K C = true)
    (po : PySem.W.plainOver K C = true)
    (sa : PySem.W.findIn K (.ref C) "__setattr__" = some (some (.builtin "object.__setattr__")))
    (mk : PySem.W.makesIn K C = true)
    (kc : PySem.W.keepIn K (.ref C) = true)
    (nP : PySem.W.findIn K (.ref C) "pieces" = some none)
    (z_isinstance : PySem.W.nsIn K mainGlobals "isinstance" = some none)
    (z_str : PySem.W.nsIn K mainGlobals "str" = some none)
    (z_all : PySem.W.nsIn K mainGlobals "all" = some none)
    (z_len : PySem.W.nsIn K mainGlobals "len" = some none)
    (z_tuple : PySem.W.nsIn K mainGlobals "tuple" = some none)
    (z_enumerate : PySem.W.nsIn K mainGlobals "enumerate" = some none)
    (z_range : PySem.W.nsIn K mainGlobals "range" = some none)
    (z_sorted : PySem.W.nsIn K mainGlobals "sorted" = some none)
    (z_int : PySem.W.nsIn K mainGlobals "int" = some none)
    (z_abs : PySem.W.nsIn K mainGlobals "abs" = some none)
    (z_list : PySem.W.nsIn K mainGlobals "list" = some none)
    (z_zip : PySem.W.nsIn K mainGlobals "zip" = some none)
    (z_bool : PySem.W.nsIn K mainGlobals "bool" = some none)
    (gL : PySem.W.nsIn K mainGlobals "LETTERS" = some (some (.str (Str.ofString "abcdefgh") t1)))
    (gP : PySem.W.nsIn K mainGlobals "MOST_PIECES" = some (some (.int 12 t2)))
    (gM : PySem.W.nsIn K mainGlobals "MOST_LONG" = some (some (.int 8 t3)))
    (hc7 : PySem.W.codeHdIn K cc7 P1 = true)
    (hc9 : PySem.W.codeHdIn K cc9 P2 = true)
    (np1 : K.lookup P1 = none)
    (np2 : K.lookup P2 = none) :
    LamX.LawAtS l w K CX0 6 63 "_law_script" mg fa h := by
  have e := hfa.symm.trans (PySem.W.mg_of X G a20)
  cases e
  have B : Bl mg := ⟨PySem.W.mg_none_of X G z_isinstance, PySem.W.mg_none_of X G z_str, PySem.W.mg_none_of X G z_all, PySem.W.mg_none_of X G z_len, PySem.W.mg_none_of X G z_tuple, PySem.W.mg_none_of X G z_enumerate, PySem.W.mg_none_of X G z_range, PySem.W.mg_none_of X G z_sorted, PySem.W.mg_none_of X G z_int, PySem.W.mg_none_of X G z_abs, PySem.W.mg_none_of X G z_list, PySem.W.mg_none_of X G z_zip, PySem.W.mg_none_of X G z_bool⟩
  have cl : Cls K C := ⟨pg, hd, po, sa⟩
  have bk : BkC K C := ⟨cl, nP⟩
  have F1 := fun_mk (st := sIsLog) l1 c1 k1
  have F1' := F1
  have b1 := F1'.binds (ps := ["thing"]) fun _ _ _ _ _ _ us hl => match us, hl with | [_], _ => rfl
  have g1 := PySem.W.mg_of X G a1
  have F2 := fun_mk (st := sIsPiece) l2 c2 k2
  have F2' := F2
  have b2 := F2'.binds (ps := ["thing"]) fun _ _ _ _ _ _ us hl => match us, hl with | [_], _ => rfl
  have g2 := PySem.W.mg_of X G a2
  have F3 := fun_mk (st := sBook) l3 c3 k3
  have F3' := F3
  have b3 := F3'.binds (ps := ["self", "pieces"]) fun _ _ _ _ _ _ us hl => match us, hl with | [_, _], _ => rfl
  have F4 := fun_mk (st := sStrikes) l4 c4 k4
  have F4' := F4
  have b4 := F4'.binds (ps := ["book", "log"]) fun _ _ _ _ _ _ us hl => match us, hl with | [_, _], _ => rfl
  have g4 := PySem.W.mg_of X G a4
  have F5 := fun_mk (st := sStruck) l5 c5 k5
  have F5' := F5
  have b5 := F5'.binds (ps := ["book", "log", "strike"]) fun _ _ _ _ _ _ us hl => match us, hl with | [_, _, _], _ => rfl
  have g5 := PySem.W.mg_of X G a5
  have F6 := fun_mk (st := sAllLeft) l6 c6 k6
  have F6' := F6
  have b6 := F6'.binds (ps := ["book", "log", "most"]) fun _ _ _ _ _ _ us hl => match us, hl with | [_, _, _], _ => rfl
  have g6 := PySem.W.mg_of X G a6
  have F7 : FunC K "ends_among" "ends_among" sEnds f7 _ cc7 := ⟨⟨oc7, od7, kV7, dc7, pm7, an7, ct7, sl7, rfl, l7, c7⟩, k7⟩
  have F7' := F7.fun
  have b7 := F7'.binds (ps := ["book", "texts"]) fun _ _ _ _ _ _ us hl => match us, hl with | [_, _], _ => rfl
  have g7 := PySem.W.mg_of X G a7
  have F8 := fun_mk (st := sMeeting) l8 c8 k8
  have F8' := F8
  have b8 := F8'.binds (ps := ["one", "other", "place"]) fun _ _ _ _ _ _ us hl => match us, hl with | [_, _, _], _ => rfl
  have g8 := PySem.W.mg_of X G a8
  have F9 : FunC K "meetings" "meetings" sMeetings f9 _ cc9 := ⟨⟨oc9, od9, kV9, dc9, pm9, an9, ct9, sl9, rfl, l9, c9⟩, k9⟩
  have F9' := F9.fun
  have b9 := F9'.binds (ps := ["book"]) fun _ _ _ _ _ _ us hl => match us, hl with | [_], _ => rfl
  have g9 := PySem.W.mg_of X G a9
  have F10 := fun_mk (st := sOneRest) l10 c10 k10
  have F10' := F10
  have b10 := F10'.binds (ps := ["book"]) fun _ _ _ _ _ _ us hl => match us, hl with | [_], _ => rfl
  have g10 := PySem.W.mg_of X G a10
  have F11 := fun_mk (st := sHand) l11 c11 k11
  have F11' := F11
  have b11 := F11'.binds (ps := ["_law_script"]) fun _ _ _ _ _ _ us hl => match us, hl with | [_], _ => rfl
  have g11 := PySem.W.mg_of X G a11
  have F12 := fun_mk (st := sDraw) l12 c12 k12
  have F12' := F12
  have b12 := F12'.binds (ps := ["_law_hand_here", "_law_many"]) fun _ _ _ _ _ _ us hl => match us, hl with | [_, _], _ => rfl
  have g12 := PySem.W.mg_of X G a12
  have F13 := fun_mk (st := sAny) l13 c13 k13
  have F13' := F13
  have b13 := F13'.binds (ps := ["_law_hand_here", "_law_items"]) fun _ _ _ _ _ _ us hl => match us, hl with | [_, _], _ => rfl
  have g13 := PySem.W.mg_of X G a13
  have F14 := fun_mk (st := sIs) l14 c14 k14
  have F14' := F14
  have b14 := F14'.binds (ps := ["_law_told", "_law_due"]) fun _ _ _ _ _ _ us hl => match us, hl with | [_, _], _ => rfl
  have g14 := PySem.W.mg_of X G a14
  have F15 := fun_mk (st := sMixed) l15 c15 k15
  have F15' := F15
  have b15 := F15'.binds (ps := ["_law_hand_here", "_law_items"]) fun _ _ _ _ _ _ us hl => match us, hl with | [_, _], _ => rfl
  have g15 := PySem.W.mg_of X G a15
  have F16 := fun_mk (st := sShortest) l16 c16 k16
  have F16' := F16
  have b16 := F16'.binds (ps := ["_law_texts"]) fun _ _ _ _ _ _ us hl => match us, hl with | [_], _ => rfl
  have g16 := PySem.W.mg_of X G a16
  have F17 := fun_mk (st := sPowers) l17 c17 k17
  have F17' := F17
  have b17 := F17'.binds (ps := ["_law_hand_here"]) fun _ _ _ _ _ _ us hl => match us, hl with | [_], _ => rfl
  have g17 := PySem.W.mg_of X G a17
  have F18 := fun_mk (st := sOverlaps) l18 c18 k18
  have F18' := F18
  have b18 := F18'.binds (ps := ["_law_hand_here"]) fun _ _ _ _ _ _ us hl => match us, hl with | [_], _ => rfl
  have g18 := PySem.W.mg_of X G a18
  have F19 := fun_mk (st := sRounds) l19 c19 k19
  have F19' := F19
  have b19 := F19'.binds (ps := ["_law_hand_here"]) fun _ _ _ _ _ _ us hl => match us, hl with | [_], _ => rfl
  have g19 := PySem.W.mg_of X G a19
  have F20 := fun_mk (st := sLaw) l20 c20 k20
  have F20' := F20
  have gB := PySem.W.mg_of X G aC
  have gLet : ∃ t, mg "LETTERS" = some (.str (S letT) t) := ⟨_, PySem.W.mg_of X G gL⟩
  have gMP : ∃ t, mg "MOST_PIECES" = some (.int 12 t) := ⟨_, PySem.W.mg_of X G gP⟩
  have gML : ∃ t, mg "MOST_LONG" = some (.int 8 t) := ⟨_, PySem.W.mg_of X G gM⟩
  refine ⟨PySem.W.fnOf "law" "law" (defArgs sLaw) (defBody sLaw) (defScope sLaw) .none kV20 dc20 pm20 an20 cd20 ct20, [(cc7, P1), (cc9, P2)], spLaw K [(P1, lamQ "ends_among"), (P2, lamQ "meetings")], ?_, ?_, ?_, fun s v => .of_eq rfl, ?_, fun base _ _ TB => ?_⟩
  · intro p hp
    rcases List.mem_cons.mp hp with rfl | hp
    · exact hT1
    · cases List.mem_singleton.mp hp
      exact hT2
  · intro p hp
    rcases List.mem_cons.mp hp with rfl | hp
    · exact np1
    · cases List.mem_singleton.mp hp
      exact np2
  · intro p hp
    rcases List.mem_cons.mp hp with rfl | hp
    · exact PySem.W.codeHd_of_K X hc7
    · cases List.mem_singleton.mp hp
      exact PySem.W.codeHd_of_K X hc9
  · intro H a ns _ _ hH hS
    refine ⟨a, ns, rfl, hS, fun p hp => ?_, fun _ => rfl⟩
    rcases List.mem_cons.mp hp with rfl | hp
    · exact LamX.TabS.nil (hH (cc7, P1) (List.mem_cons_self ..))
    · cases List.mem_singleton.mp hp
      exact LamX.TabS.nil (hH (cc9, P2) (List.mem_cons_of_mem _ (List.mem_cons_self ..)))
  have TB1 : LamX.TabB base mg cc7 P1 := TB (cc7, P1) (List.mem_cons_self ..)
  have TB2 : LamX.TabB base mg cc9 P2 := TB (cc9, P2) (List.mem_cons_of_mem _ (List.mem_cons_self ..))
  have u1 : ∀ q ∈ [(P1, lamQ "ends_among"), (P2, lamQ "meetings")], q.1 = P1 → q.2 = lamQ "ends_among" := fun q hq e => by
    rcases List.mem_cons.mp hq with rfl | hq
    · rfl
    · cases List.mem_singleton.mp hq
      exact absurd e.symm hP
  have u2 : ∀ q ∈ [(P1, lamQ "ends_among"), (P2, lamQ "meetings")], q.1 = P2 → q.2 = lamQ "meetings" := fun q hq e => by
    rcases List.mem_cons.mp hq with rfl | hq
    · exact absurd e hP
    · cases List.mem_singleton.mp hq
      rfl
  have O2 : FnOk l.prog w K mg base CX0 2 f2 _ ["thing"] (spIsPiece [(P1, lamQ "ends_among"), (P2, lamQ "meetings")]) := ok_isPiece F2 F1 b1 g1 B gLet gML
  have O3 : FnOk l.prog w K mg base CX0 3 f3 _ ["self", "pieces"] (spBook K [(P1, lamQ "ends_among"), (P2, lamQ "meetings")] C) := ok_book F3 B O2 k2 b2 g2 gMP cl nP
  have O6 : FnOk l.prog w K mg base CX0 2 f6 _ ["book", "log", "most"] (spAllLeft K [(P1, lamQ "ends_among"), (P2, lamQ "meetings")] C) := ok_allLeft F6 B bk F4 b4 g4 F5 b5 g5
  have O7 : FnOk l.prog w K mg base CX0 2 f7 _ ["book", "texts"] (spEnds K [(P1, lamQ "ends_among"), (P2, lamQ "meetings")] C) := ok_ends F7 B bk F4 b4 g4 TB1 (List.mem_cons_self ..) u1
  have O9 : FnOk l.prog w K mg base CX0 2 f9 _ ["book"] (spMeetings K [(P1, lamQ "ends_among"), (P2, lamQ "meetings")] C) := ok_meetings F9 B bk F8 b8 g8 TB2 (List.mem_cons_of_mem _ (List.mem_cons_self ..)) u2
  have O10 : FnOk l.prog w K mg base CX0 3 f10 _ ["book"] (spOneRest K [(P1, lamQ "ends_among"), (P2, lamQ "meetings")] C) := ok_oneRest F10 B O9 k9 b9 g9 O7 k7 b7 g7 O6 k6 b6 g6
  have O12 : FnOk l.prog w K mg base CX0 1 f12 _ ["_law_hand_here", "_law_many"] (spDraw [(P1, lamQ "ends_among"), (P2, lamQ "meetings")]) := ok_draw F12 B
  have O13 : FnOk l.prog w K mg base CX0 2 f13 _ ["_law_hand_here", "_law_items"] (spAny K [(P1, lamQ "ends_among"), (P2, lamQ "meetings")]) := ok_any F13 B F12 b12 g12
  have O14 : FnOk l.prog w K mg base CX0 3 f14 _ ["_law_told", "_law_due"] (spIs [(P1, lamQ "ends_among"), (P2, lamQ "meetings")] 2) := ok_isS F14 B b14 g14 (ok_isS F14 B b14 g14 (ok_is0 F14 B))
  have O15 : FnOk l.prog w K mg base CX0 2 f15 _ ["_law_hand_here", "_law_items"] (spMixed K [(P1, lamQ "ends_among"), (P2, lamQ "meetings")]) := ok_mixed F15 B F12 b12 g12
  have O16 : FnOk l.prog w K mg base CX0 1 f16 _ ["_law_texts"] (spShortest [(P1, lamQ "ends_among"), (P2, lamQ "meetings")]) := ok_shortest F16 B
  have cD : Cal l.prog w K mg base 1 "_law_draw" ["_law_hand_here", "_law_many"] (spDraw [(P1, lamQ "ends_among"), (P2, lamQ "meetings")]) := ⟨_, _, O12, k12, b12, g12⟩
  have cA : Cal l.prog w K mg base 2 "_law_any" ["_law_hand_here", "_law_items"] (spAny K [(P1, lamQ "ends_among"), (P2, lamQ "meetings")]) := ⟨_, _, O13, k13, b13, g13⟩
  have cI : Cal l.prog w K mg base 3 "_law_is" ["_law_told", "_law_due"] (spIs [(P1, lamQ "ends_among"), (P2, lamQ "meetings")] 2) := ⟨_, _, O14, k14, b14, g14⟩
  have cX : Cal l.prog w K mg base 2 "_law_mixed" ["_law_hand_here", "_law_items"] (spMixed K [(P1, lamQ "ends_among"), (P2, lamQ "meetings")]) := ⟨_, _, O15, k15, b15, g15⟩
  have cS : Cal l.prog w K mg base 1 "_law_shortest" ["_law_texts"] (spShortest [(P1, lamQ "ends_among"), (P2, lamQ "meetings")]) := ⟨_, _, O16, k16, b16, g16⟩
  have cO : Cal l.prog w K mg base 3 "one_rest" ["book"] (spOneRest K [(P1, lamQ "ends_among"), (P2, lamQ "meetings")] C) := ⟨_, _, O10, k10, b10, g10⟩
  have cM : Cal l.prog w K mg base 2 "meetings" ["book"] (spMeetings K [(P1, lamQ "ends_among"), (P2, lamQ "meetings")] C) := ⟨_, _, O9, k9, b9, g9⟩
  have cB : CalB l.prog w K mg base [(P1, lamQ "ends_among"), (P2, lamQ "meetings")] C := ⟨_, _, ⟨mk, a3, iI, kc⟩, O3, b3, gB⟩
  exact ok_law F20 ⟨_, _, ok_hand F11 B, k11, b11, g11⟩ ⟨_, _, ok_powers F17 B cD cA cI cO cM cB, k17, b17, g17⟩ ⟨_, _, ok_overlaps F18 B cX cS cI cO cM cB, k18, b18, g18⟩ ⟨_, _, ok_rounds F19 B cD cA cI cO cM cB, k19, b19, g19⟩
end K9P
end

open PySem PySem.W PyProof.Rows
set_option maxRecDepth 100000 in
set_option maxHeartbeats 0 in
theorem PySem.Challenge.cw_struckpieces_k09_whole_rests_known_by_ha_holds : PySem.Challenge.rw_struckpieces_k09_whole_rests_known_by_ha.Holds := by
  w_on; o_law; k_head; (case hw => w_witness2)
  k_fill
  refine LamX.walk_ofTs (l := PySem.Challenge.rw_struckpieces_k09_whole_rests_known_by_ha) (n := 63) (k := 6) (x := "_law_script") (CX := fun _ => L2.CX0) rfl (by decide) rfl ⟨rfl, by decide, by decide⟩ (fun w h Y => PySem.W.km_in_of Y) ?F (fun _ _ _ _ _ z => z)
  case F =>
    intro w mg fa h Y KX G hmg
    have hT1 := PySem.W.km_tabs_of Y 109 (by decide)
    have hT2 := PySem.W.km_tabs_of Y 121 (by decide)
    refine' K9P.all_mk (P1 := 109) (P2 := 121) KX G hmg (by decide) hT1 hT2 ?aC ?a1 ?l1 ?c1 ?k1 ?a2 ?l2 ?c2 ?k2 ?a3 ?l3 ?c3 ?k3 ?a4 ?l4 ?c4 ?k4 ?a5 ?l5 ?c5 ?k5 ?a6 ?l6 ?c6 ?k6 ?a7 ?l7 ?c7 ?k7 ?a8 ?l8 ?c8 ?k8 ?a9 ?l9 ?c9 ?k9 ?a10 ?l10 ?c10 ?k10 ?a11 ?l11 ?c11 ?k11 ?a12 ?l12 ?c12 ?k12 ?a13 ?l13 ?c13 ?k13 ?a14 ?l14 ?c14 ?k14 ?a15 ?l15 ?c15 ?k15 ?a16 ?l16 ?c16 ?k16 ?a17 ?l17 ?c17 ?k17 ?a18 ?l18 ?c18 ?k18 ?a19 ?l19 ?c19 ?k19 ?a20 ?l20 ?c20 ?k20 ?iI ?pg ?hd ?po ?sa ?mk ?kc ?nP ?z_isinstance ?z_str ?z_all ?z_len ?z_tuple ?z_enumerate ?z_range ?z_sorted ?z_int ?z_abs ?z_list ?z_zip ?z_bool ?gL ?gP ?gM ?hc7 ?hc9 ?np1 ?np2
    (case aC => k_is)
    (case a1 => k_is)
    (case l1 => k_is)
    (case c1 => k_is)
    (case k1 => k_is)
    (case a2 => k_is)
    (case l2 => k_is)
    (case c2 => k_is)
    (case k2 => k_is)
    (case a3 => k_is)
    (case l3 => k_is)
    (case c3 => k_is)
    (case k3 => k_is)
    (case a4 => k_is)
    (case l4 => k_is)
    (case c4 => k_is)
    (case k4 => k_is)
    (case a5 => k_is)
    (case l5 => k_is)
    (case c5 => k_is)
    (case k5 => k_is)
    (case a6 => k_is)
    (case l6 => k_is)
    (case c6 => k_is)
    (case k6 => k_is)
    (case a7 => k_is)
    (case l7 => k_is)
    (case c7 => k_is)
    (case k7 => k_is)
    (case a8 => k_is)
    (case l8 => k_is)
    (case c8 => k_is)
    (case k8 => k_is)
    (case a9 => k_is)
    (case l9 => k_is)
    (case c9 => k_is)
    (case k9 => k_is)
    (case a10 => k_is)
    (case l10 => k_is)
    (case c10 => k_is)
    (case k10 => k_is)
    (case a11 => k_is)
    (case l11 => k_is)
    (case c11 => k_is)
    (case k11 => k_is)
    (case a12 => k_is)
    (case l12 => k_is)
    (case c12 => k_is)
    (case k12 => k_is)
    (case a13 => k_is)
    (case l13 => k_is)
    (case c13 => k_is)
    (case k13 => k_is)
    (case a14 => k_is)
    (case l14 => k_is)
    (case c14 => k_is)
    (case k14 => k_is)
    (case a15 => k_is)
    (case l15 => k_is)
    (case c15 => k_is)
    (case k15 => k_is)
    (case a16 => k_is)
    (case l16 => k_is)
    (case c16 => k_is)
    (case k16 => k_is)
    (case a17 => k_is)
    (case l17 => k_is)
    (case c17 => k_is)
    (case k17 => k_is)
    (case a18 => k_is)
    (case l18 => k_is)
    (case c18 => k_is)
    (case k18 => k_is)
    (case a19 => k_is)
    (case l19 => k_is)
    (case c19 => k_is)
    (case k19 => k_is)
    (case a20 => k_is)
    (case l20 => k_is)
    (case c20 => k_is)
    (case k20 => k_is)
    (case iI => k_is)
    (case pg => k_is)
    (case hd => k_is)
    (case po => k_is)
    (case sa => k_is)
    (case mk => k_is)
    (case kc => k_is)
    (case nP => k_is)
    (case z_isinstance => k_is)
    (case z_str => k_is)
    (case z_all => k_is)
    (case z_len => k_is)
    (case z_tuple => k_is)
    (case z_enumerate => k_is)
    (case z_range => k_is)
    (case z_sorted => k_is)
    (case z_int => k_is)
    (case z_abs => k_is)
    (case z_list => k_is)
    (case z_zip => k_is)
    (case z_bool => k_is)
    (case gL => k_is)
    (case gP => k_is)
    (case gM => k_is)
    (case hc7 => kernel_rfl)
    (case hc9 => kernel_rfl)
    (case np1 => kernel_rfl)
    (case np2 => kernel_rfl)
