import PyProof.Rows.All
import Wide.All
import OpenK.AllK
import Wide.FinOn
import HandS.ForMost
import HandS.More
import HandS.Conv
import HandS.Deep
import HandS.Zip
import HandS.TupLe
import HandS.TupAny
import HandS.Style
import HandS.Slots
import HandS.IsInst
import HandS.Walk
import HandS.Flow
import HandS.Steps
import HandS.Evl
import HandS.HeadEnd
import HandS.HeadHook1
import HandS.HeadHook2
import KE.SortData
import KE.SortLaws
import HandS.Strs
import HandS.Sort
import PyProof.P3In
import KE.GoesEnum
import KE.DataFind
import HandS.SetFor
import PyProof.CallFns
import KE.KDictZip
import KE.KDictList
import HandS.DictTup
import KE.KStateDown
import HandS.Head0
import HandS.Head1
import HandS.Head2
import HandS.HeadHook4
import PySem.Challenge.RW_calledbest_k10_whole_the_eldest_of_a_kin
set_option Elab.async false
set_option linter.all false
set_option maxRecDepth 100000
/-! The plain law: rows that are played on a list of things, kind by kind. No program in sight. -/
namespace KP
/-- a row of a log: names and kinds of any type -/
inductive Row (α : Type) where
  | put (n k : α)
  | call (c : List α)
  | drop (n : α)
section
variable {α : Type} [DecidableEq α]
/-- the thing that a call takes: of the first of its kinds that is there, the first one -/
def pick (ts : List (α × α)) : List α → Option (α × α)
  | [] => none
  | k :: c => match ts.find? (fun t => decide (t.2 = k)) with
    | some t => some t
    | none => pick ts c
/-- what is there behind a row -/
def stepT (ts : List (α × α)) : Row α → List (α × α)
  | .put n k => ts ++ [(n, k)]
  | .call c => match pick ts c with
    | none => ts
    | some t => ts.erase t
  | .drop n => ts.filter (fun t => decide (t.1 ≠ n))
/-- what a row tells -/
def tell (ts : List (α × α)) : Row α → Option α
  | .call c => (pick ts c).map (·.1)
  | _ => none
/-- the names and kinds that are put -/
def putsOf : List (Row α) → List (α × α)
  | [] => []
  | .put n k :: r => (n, k) :: putsOf r
  | _ :: r => putsOf r
def endT : List (α × α) → List (Row α) → List (α × α)
  | ts, [] => ts
  | ts, r :: rs => endT (stepT ts r) rs
/-- the calls' answers, in their order, by their places from i on -/
def toldT : Nat → List (α × α) → List (Row α) → List (Nat × Option α)
  | _, _, [] => []
  | i, ts, .call c :: rs => (i, tell ts (.call c)) :: toldT (i + 1) (stepT ts (.call c)) rs
  | i, ts, r :: rs => toldT (i + 1) (stepT ts r) rs
def isPlain : Row α → Bool
  | .drop _ => false
  | _ => true

/-! ### pick -/
theorem pick_some : ∀ {c : List α} {ts : List (α × α)} {t : α × α}, pick ts c = some t → t.2 ∈ c ∧ ts.find? (fun u => decide (u.2 = t.2)) = some t
  | [], ts, t, h => by cases h
  | k :: c, ts, t, h => by
    unfold pick at h
    cases e : ts.find? (fun u => decide (u.2 = k)) with
    | none =>
      rw [e] at h
      obtain ⟨h1, h2⟩ := pick_some (c := c) h
      exact ⟨List.mem_cons_of_mem _ h1, h2⟩
    | some u =>
      rw [e] at h
      have e2 : u = t := Option.some.inj h
      subst e2
      have e3 : u.2 = k := by
        have q := List.find?_some e
        simpa using q
      rw [e3]
      exact ⟨List.mem_cons_self, e⟩
theorem pick_none : ∀ {c : List α} {ts : List (α × α)}, pick ts c = none → ∀ t ∈ ts, ¬ t.2 ∈ c
  | [], ts, h, t, ht, m => by cases m
  | k :: c, ts, h, t, ht, m => by
    unfold pick at h
    cases e : ts.find? (fun u => decide (u.2 = k)) with
    | none =>
      rw [e] at h
      rcases List.mem_cons.mp m with q | q
      · exact absurd (decide_eq_true q) (List.find?_eq_none.mp e t ht)
      · exact pick_none (c := c) h t ht q
    | some u =>
      rw [e] at h
      cases h
/-- a list cut at its first member of a sort -/
theorem find_cut {β : Type} {p : β → Bool} : ∀ {l : List β} {t : β}, l.find? p = some t → ∃ a b, l = a ++ t :: b ∧ p t = true ∧ ∀ x ∈ a, p x = false
  | [], t, h => by cases h
  | x :: l, t, h => by
    rw [List.find?_cons] at h
    cases e : p x with
    | true =>
      rw [e] at h
      have e2 : x = t := Option.some.inj h
      subst e2
      exact ⟨[], l, rfl, e, fun _ z => by cases z⟩
    | false =>
      rw [e] at h
      obtain ⟨a, b, e1, e2, e3⟩ := find_cut (l := l) h
      refine ⟨x :: a, b, by rw [e1]; rfl, e2, fun y hy => ?_⟩
      rcases List.mem_cons.mp hy with q | q
      · rw [q]; exact e
      · exact e3 y q
theorem pick_cut {c : List α} {ts : List (α × α)} {t : α × α} (h : pick ts c = some t) :
    t.2 ∈ c ∧ ∃ a b, ts = a ++ t :: b ∧ (∀ x ∈ a, x.2 ≠ t.2) ∧ ts.erase t = a ++ b := by
  obtain ⟨h1, h2⟩ := pick_some h
  obtain ⟨a, b, e1, e2, e3⟩ := find_cut h2
  refine ⟨h1, a, b, e1, fun x hx e => ?_, ?_⟩
  · have q := e3 x hx
    rw [decide_eq_true e] at q
    cases q
  · rw [e1]
    have hn : t ∉ a := fun m => by
      have q := e3 t m
      rw [e2] at q
      cases q
    rw [List.erase_append_right _ hn, List.erase_cons_head]

/-! ### kind by kind -/
/-- the names of a kind -/
def ofKind (k : α) (ts : List (α × α)) : List α := (ts.filter (fun t => decide (t.2 = k))).map (·.1)
/-- the names told, of things of a kind -/
def toldOf (kd : α → α) (k : α) (l : List (Nat × Option α)) : List α := l.filterMap fun p => match p.2 with
  | some n => if kd n = k then some n else none
  | none => none
theorem ofKind_app (k : α) (a b : List (α × α)) : ofKind k (a ++ b) = ofKind k a ++ ofKind k b := by
  simp [ofKind]
theorem ofKind_none (k : α) {a : List (α × α)} (h : ∀ x ∈ a, x.2 ≠ k) : ofKind k a = [] := by
  unfold ofKind
  rw [List.filter_eq_nil_iff.mpr (fun x hx => by simp [h x hx])]
  rfl
theorem step_mem {ts : List (α × α)} {r : Row α} {t : α × α} (h : t ∈ stepT ts r) : t ∈ ts ∨ ∃ n k, r = .put n k ∧ t = (n, k) := by
  cases r with
  | put n k =>
    rcases List.mem_append.mp h with q | q
    · exact .inl q
    · exact .inr ⟨n, k, rfl, List.mem_singleton.mp q⟩
  | call c =>
    have h : t ∈ (match pick ts c with | none => ts | some t => ts.erase t) := h
    cases e : pick ts c with
    | none =>
      rw [e] at h
      exact .inl h
    | some u =>
      rw [e] at h
      exact .inl (List.mem_of_mem_erase h)
  | drop n => exact .inl (List.mem_filter.mp h).1
/-- told, then left: just the names put -/
theorem kinds_told {kd : α → α} {k : α} : ∀ {rs : List (Row α)} {ts : List (α × α)} {i : Nat}, (∀ r ∈ rs, isPlain r = true) → (∀ t ∈ ts, kd t.1 = t.2) → (∀ p ∈ putsOf rs, kd p.1 = p.2) →
    toldOf kd k (toldT i ts rs) ++ ofKind k (endT ts rs) = ofKind k ts ++ ofKind k (putsOf rs)
  | [], ts, i, _, _, _ => by
    show [] ++ ofKind k ts = ofKind k ts ++ []
    simp
  | .put n m :: rs, ts, i, hp, ht, hq => by
    have ih := kinds_told (kd := kd) (k := k) (rs := rs) (ts := ts ++ [(n, m)]) (i := i + 1) (fun r hr => hp r (List.mem_cons_of_mem _ hr)) (fun t h => ?_) (fun p h => hq p (List.mem_cons_of_mem _ h))
    · show toldOf kd k (toldT (i + 1) (ts ++ [(n, m)]) rs) ++ ofKind k (endT (ts ++ [(n, m)]) rs) = ofKind k ts ++ ofKind k ((n, m) :: putsOf rs)
      rw [ih, ofKind_app, List.append_assoc, ← ofKind_app]
      rfl
    · rcases List.mem_append.mp h with q | q
      · exact ht t q
      · have e := List.mem_singleton.mp q
        subst e
        exact hq _ List.mem_cons_self
  | .drop n :: rs, ts, i, hp, _, _ => by
    have q := hp _ List.mem_cons_self
    cases q
  | .call c :: rs, ts, i, hp, ht, hq => by
    have ih := kinds_told (kd := kd) (k := k) (rs := rs) (ts := stepT ts (.call c)) (i := i + 1) (fun r hr => hp r (List.mem_cons_of_mem _ hr)) (fun t h => ?_) (fun p h => hq p h)
    · show toldOf kd k ((i, tell ts (.call c)) :: toldT (i + 1) (stepT ts (.call c)) rs) ++ ofKind k (endT (stepT ts (.call c)) rs) = ofKind k ts ++ ofKind k (putsOf rs)
      cases e : pick ts c with
      | none =>
        have e1 : tell ts (.call c) = none := by
          show (pick ts c).map (·.1) = none
          rw [e]; rfl
        have e2 : stepT ts (.call c) = ts := by
          show (match pick ts c with | none => ts | some t => ts.erase t) = ts
          rw [e]
        rw [e2] at ih
        rw [e1, e2]
        exact ih
      | some t =>
        have e1 : tell ts (.call c) = some t.1 := by
          show (pick ts c).map (·.1) = some t.1
          rw [e]; rfl
        obtain ⟨_, a, b, e3, e4, e5⟩ := pick_cut e
        have e2 : stepT ts (.call c) = a ++ b := by
          show (match pick ts c with | none => ts | some t => ts.erase t) = a ++ b
          rw [e]
          exact e5
        have kt : kd t.1 = t.2 := ht t (by rw [e3]; simp)
        rw [e2] at ih
        rw [e1, e2]
        by_cases hk : t.2 = k
        · have h1 : toldOf kd k ((i, some t.1) :: toldT (i + 1) (a ++ b) rs) = t.1 :: toldOf kd k (toldT (i + 1) (a ++ b) rs) := by
            unfold toldOf
            rw [List.filterMap_cons]
            show (match (if kd t.1 = k then some t.1 else none) with | none => _ | some b => b :: _) = _
            rw [if_pos (kt.trans hk)]
          have h2 : ofKind k a = [] := ofKind_none k fun x hx => by rw [← hk]; exact e4 x hx
          have h3 : ofKind k ts = t.1 :: ofKind k b := by
            rw [e3, ofKind_app, h2]
            show ((t :: b).filter (fun t => decide (t.2 = k))).map (·.1) = _
            rw [List.filter_cons, if_pos (decide_eq_true hk)]
            rfl
          rw [h1, List.cons_append, ih, ofKind_app, h2, h3]
          rfl
        · have h1 : toldOf kd k ((i, some t.1) :: toldT (i + 1) (a ++ b) rs) = toldOf kd k (toldT (i + 1) (a ++ b) rs) := by
            unfold toldOf
            rw [List.filterMap_cons]
            show (match (if kd t.1 = k then some t.1 else none) with | none => _ | some b => b :: _) = _
            rw [if_neg (fun q => hk (kt.symm.trans q))]
          have h3 : ofKind k ts = ofKind k a ++ ofKind k b := by
            rw [e3, ofKind_app]
            congr 1
            show ((t :: b).filter (fun t => decide (t.2 = k))).map (·.1) = _
            rw [List.filter_cons, if_neg (by simp [hk])]
            rfl
          rw [h1, ih, ofKind_app, h3]
    · rcases step_mem h with q | ⟨n, m, q, _⟩
      · exact ht t q
      · cases q

/-! ### with drops: the state that the law keeps -/
/-- ts is there; ps are the names put so far, tl those told -/
structure Kept (ts : List (α × α)) (ps tl : List α) : Prop where
  nd : (ts.map (·.1)).Nodup
  sub : ∀ t ∈ ts, t.1 ∈ ps
  tsub : ∀ n ∈ tl, n ∈ ps
  gone : ∀ n ∈ tl, n ∉ ts.map (·.1)
theorem Kept.nil : Kept ([] : List (α × α)) [] [] := ⟨List.nodup_nil, fun _ h => (nomatch h), fun _ h => (nomatch h), fun _ h => (nomatch h)⟩
theorem Kept.put {ts : List (α × α)} {ps tl : List α} (s : Kept ts ps tl) {n k : α} (h : n ∉ ps) : Kept (ts ++ [(n, k)]) (ps ++ [n]) tl where
  nd := by
    rw [List.map_append]
    refine List.nodup_append.mpr ⟨s.nd, by simp, fun a ha b hb e => ?_⟩
    have eb : b = n := by simpa using hb
    obtain ⟨t, ht, e2⟩ := List.mem_map.mp ha
    exact h (by rw [← eb, ← e, ← e2]; exact s.sub t ht)
  sub := fun t ht => by
    rcases List.mem_append.mp ht with q | q
    · exact List.mem_append_left _ (s.sub t q)
    · rw [List.mem_singleton.mp q]; simp
  tsub := fun m hm => List.mem_append_left _ (s.tsub m hm)
  gone := fun m hm => by
    rw [List.map_append]
    intro q
    rcases List.mem_append.mp q with q | q
    · exact s.gone m hm q
    · have e : m = n := by simpa using q
      exact h (by rw [← e]; exact s.tsub m hm)
theorem Kept.drop {ts : List (α × α)} {ps tl : List α} (s : Kept ts ps tl) (n : α) : Kept (ts.filter (fun t => decide (t.1 ≠ n))) ps tl where
  nd := s.nd.sublist (List.Sublist.map _ List.filter_sublist)
  sub := fun t ht => s.sub t (List.mem_filter.mp ht).1
  tsub := s.tsub
  gone := fun m hm q => s.gone m hm (by
    obtain ⟨t, ht, e⟩ := List.mem_map.mp q
    exact List.mem_map.mpr ⟨t, (List.mem_filter.mp ht).1, e⟩)
theorem Kept.take {ts : List (α × α)} {ps tl : List α} (s : Kept ts ps tl) {c : List α} {t : α × α} (h : pick ts c = some t) : Kept (ts.erase t) ps (tl ++ [t.1]) := by
  obtain ⟨_, a, b, e1, e2, e3⟩ := pick_cut h
  have hm : t ∈ ts := by rw [e1]; simp
  have nd := s.nd
  rw [e1] at nd
  have nd2 : (a.map (·.1) ++ t.1 :: b.map (·.1)).Nodup := by simpa using nd
  have nda := List.nodup_append.mp nd2
  have ndb := List.nodup_cons.mp nda.2.1
  refine ⟨?_, fun u hu => s.sub u (List.mem_of_mem_erase hu), fun m hm' => ?_, fun m hm' q => ?_⟩
  · rw [e3, List.map_append]
    refine List.nodup_append.mpr ⟨nda.1, ndb.2, fun x hx y hy e => nda.2.2 x hx y (List.mem_cons_of_mem _ hy) e⟩
  · rcases List.mem_append.mp hm' with q | q
    · exact s.tsub m q
    · rw [List.mem_singleton.mp q]; exact s.sub t hm
  · rw [e3, List.map_append] at q
    rcases List.mem_append.mp hm' with z | z
    · refine s.gone m z ?_
      rw [e1]
      rcases List.mem_append.mp q with w | w
      · simp [w]
      · simp only [List.map_append, List.map_cons]
        exact List.mem_append_right _ (List.mem_cons_of_mem _ w)
    · have e : m = t.1 := List.mem_singleton.mp z
      rcases List.mem_append.mp q with w | w
      · exact nda.2.2 m w m (by rw [e]; exact List.mem_cons_self) rfl
      · exact ndb.1 (by rw [← e]; exact w)
/-- a thing told was not told before -/
theorem Kept.new {ts : List (α × α)} {ps tl : List α} (s : Kept ts ps tl) {c : List α} {t : α × α} (h : pick ts c = some t) : t.1 ∉ tl := fun m => by
  obtain ⟨_, a, b, e1, _⟩ := pick_cut h
  exact s.gone t.1 m (by rw [e1]; simp)
/-- the end: nothing told is there -/
theorem Kept.end_ {ts : List (α × α)} {ps tl : List α} (s : Kept ts ps tl) : ts.filter (fun t => decide (t.1 ∈ tl)) = [] :=
  List.filter_eq_nil_iff.mpr fun t ht => by
    have q : t.1 ∉ tl := fun m => s.gone t.1 m (List.mem_map.mpr ⟨t, ht, rfl⟩)
    simp [q]
/-- those that a call accepts -/
def some_ (ts : List (α × α)) (c : List α) : List (α × α) := ts.filter fun t => decide (t.2 ∈ c)
theorem some_nil {ts : List (α × α)} {c : List α} : some_ ts c = [] ↔ pick ts c = none := by
  constructor
  · intro h
    cases e : pick ts c with
    | none => rfl
    | some t =>
      obtain ⟨h1, a, b, e1, _⟩ := pick_cut e
      have q := List.filter_eq_nil_iff.mp h t (by rw [e1]; simp)
      exact absurd (decide_eq_true h1) q
  · intro h
    exact List.filter_eq_nil_iff.mpr fun t ht => by simp [pick_none h t ht]
/-- the kind of the thing told, by its name -/
theorem kind_at {ts : List (α × α)} {ps tl : List α} (s : Kept ts ps tl) {c : List α} {t : α × α} (h : pick ts c = some t) :
    ((some_ ts c).filter fun u => decide (u.1 = t.1)) = [t] := by
  obtain ⟨h1, a, b, e1, _⟩ := pick_cut h
  have nd := s.nd
  rw [e1] at nd
  have nd2 : (a.map (·.1) ++ t.1 :: b.map (·.1)).Nodup := by simpa using nd
  have nda := List.nodup_append.mp nd2
  have ndb := List.nodup_cons.mp nda.2.1
  unfold some_
  rw [List.filter_filter, e1, List.filter_append, List.filter_cons]
  rw [if_pos (by simp [h1])]
  rw [List.filter_eq_nil_iff.mpr fun x hx => ?_, List.filter_eq_nil_iff.mpr fun x hx => ?_]
  · rfl
  · have q : x.1 ≠ t.1 := fun e => ndb.1 (by rw [← e]; exact List.mem_map.mpr ⟨x, hx, rfl⟩)
    simp [q]
  · have q : x.1 ≠ t.1 := fun e => nda.2.2 x.1 (List.mem_map.mpr ⟨x, hx, rfl⟩) t.1 List.mem_cons_self e
    simp [q]
/-- the eldest of its kind -/
theorem eldest {ts : List (α × α)} {c : List α} {t : α × α} (h : pick ts c = some t) :
    ∃ r, ((some_ ts c).filter fun u => decide (u.2 = t.2)) = t :: r := by
  obtain ⟨h1, a, b, e1, e2, _⟩ := pick_cut h
  unfold some_
  rw [List.filter_filter, e1, List.filter_append, List.filter_cons]
  rw [if_pos (by simp [h1])]
  rw [List.filter_eq_nil_iff.mpr fun x hx => ?_]
  · exact ⟨_, rfl⟩
  · simp [e2 x hx]
end
end KP
/-! The plain law of the houses: what the drawn numbers and names make. No program in sight. -/
namespace KH
/-! ### ascending lists of ints -/
abbrev Asc (l : List Int) : Prop := l.Pairwise (· < ·)
theorem asc_ext : ∀ {a b : List Int}, Asc a → Asc b → (∀ x, x ∈ a ↔ x ∈ b) → a = b
  | [], [], _, _, _ => rfl
  | [], y :: b, _, _, h => absurd ((h y).mpr List.mem_cons_self) (by simp)
  | x :: a, [], _, _, h => absurd ((h x).mp List.mem_cons_self) (by simp)
  | x :: a, y :: b, ha, hb, h => by
    obtain ⟨ha1, ha2⟩ := List.pairwise_cons.mp ha
    obtain ⟨hb1, hb2⟩ := List.pairwise_cons.mp hb
    have e : x = y := by
      rcases List.mem_cons.mp ((h x).mp List.mem_cons_self) with q | q
      · exact q
      · rcases List.mem_cons.mp ((h y).mpr List.mem_cons_self) with z | z
        · exact z.symm
        · have q1 := hb1 x q
          have q2 := ha1 y z
          omega
    subst e
    congr 1
    refine asc_ext ha2 hb2 fun z => ⟨fun m => ?_, fun m => ?_⟩
    · rcases List.mem_cons.mp ((h z).mp (List.mem_cons_of_mem _ m)) with q | q
      · have := ha1 z m
        omega
      · exact q
    · rcases List.mem_cons.mp ((h z).mpr (List.mem_cons_of_mem _ m)) with q | q
      · have := hb1 z m
        omega
      · exact q
theorem asc_nodup {l : List Int} (h : Asc l) : l.Nodup := h.imp fun q e => by omega
theorem asc_filter {ns c : List Int} (hn : Asc ns) (hc : Asc c) (hs : ∀ x ∈ c, x ∈ ns) : ns.filter (fun x => decide (x ∈ c)) = c :=
  asc_ext (List.Pairwise.sublist List.filter_sublist hn) hc fun x => by
    constructor
    · intro m
      simpa using (List.mem_filter.mp m).2
    · intro m
      exact List.mem_filter.mpr ⟨hs x m, by simpa using m⟩
/-- a sorted row of different ints -/
theorem asc_of_le {l : List Int} (h : l.Pairwise (· ≤ ·)) (hn : l.Nodup) : Asc l := by
  induction l with
  | nil => exact List.Pairwise.nil
  | cons a l ih =>
    obtain ⟨h1, h2⟩ := List.pairwise_cons.mp h
    obtain ⟨n1, n2⟩ := List.nodup_cons.mp hn
    refine List.pairwise_cons.mpr ⟨fun b hb => ?_, ih h2 n2⟩
    have q := h1 b hb
    have : a ≠ b := fun e => n1 (by rw [e]; exact hb)
    omega
/-- calls by numbers below m -/
def CallOk (m : Int) (c : List Int) : Prop := c ≠ [] ∧ Asc c ∧ ∀ k ∈ c, 0 ≤ k ∧ k < m
def FoundOk (m : Int) (fs : List (List Int)) : Prop := fs ≠ [] ∧ ∀ c ∈ fs, CallOk m c
theorem CallOk.len {m : Int} {c : List Int} (h : CallOk m c) : (c.length : Int) ≤ m := by
  obtain ⟨_, h2, h3⟩ := h
  have key : ∀ (l : List Int) (lo : Int), Asc l → (∀ k ∈ l, lo ≤ k ∧ k < m) → lo ≤ m → (l.length : Int) ≤ m - lo := by
    intro l
    induction l with
    | nil => intro lo _ _ h; simp; omega
    | cons a l ih =>
      intro lo ha hb hm
      obtain ⟨q1, q2⟩ := List.pairwise_cons.mp ha
      obtain ⟨b1, b2⟩ := hb a List.mem_cons_self
      have := ih (a + 1) q2 (fun k hk => ⟨by have := q1 k hk; omega, (hb k (List.mem_cons_of_mem _ hk)).2⟩) (by omega)
      simp only [List.length_cons]
      omega
  cases c with
  | nil => cases (‹([] : List Int) ≠ []› rfl)
  | cons a l =>
    have q := h3 a List.mem_cons_self
    have := key (a :: l) 0 h2 h3 (by omega)
    omega
/-! ### the kinds that stand in some call -/
def rng (n : Nat) : List Int := (List.range n).map fun (i : Nat) => (i : Int)
theorem rng_mem {n : Nat} {k : Int} : k ∈ rng n ↔ 0 ≤ k ∧ k < n := by
  unfold rng
  rw [List.mem_map]
  constructor
  · rintro ⟨i, hi, rfl⟩
    have := List.mem_range.mp hi
    omega
  · rintro ⟨h1, h2⟩
    exact ⟨k.toNat, List.mem_range.mpr (by omega), by omega⟩
theorem rng_asc (n : Nat) : Asc (rng n) := by
  unfold rng Asc
  rw [List.pairwise_map]
  exact List.pairwise_lt_range.imp fun h => by omega
theorem rng_len (n : Nat) : (rng n).length = n := by simp [rng]
def numsOf (n : Nat) (kept : List (List Int)) : List Int := (rng n).filter fun k => kept.any fun c => decide (k ∈ c)
theorem nums_mem {n : Nat} {kept : List (List Int)} {k : Int} : k ∈ numsOf n kept ↔ (0 ≤ k ∧ k < n) ∧ ∃ c ∈ kept, k ∈ c := by
  unfold numsOf
  rw [List.mem_filter, rng_mem]
  simp
theorem nums_asc (n : Nat) (kept : List (List Int)) : Asc (numsOf n kept) := List.Pairwise.sublist List.filter_sublist (rng_asc n)
theorem nums_len (n : Nat) (kept : List (List Int)) : (numsOf n kept).length ≤ n := by
  have := List.length_filter_le (fun k => kept.any fun c => decide (k ∈ c)) (rng n)
  rw [rng_len] at this
  exact this
/-! ### houses -/
section
variable {α : Type} [DecidableEq α]
structure HouseOk (nm : α → Prop) (lt : List α → List α → Bool) (ks : List α) (cs : List (List α)) : Prop where
  k1 : 1 ≤ ks.length
  k6 : ks.length ≤ 6
  nd : ks.Nodup
  name : ∀ k ∈ ks, nm k
  c1 : 1 ≤ cs.length
  c8 : cs.length ≤ 8
  call : ∀ c ∈ cs, c ≠ [] ∧ ks.filter (fun k => decide (k ∈ c)) = c
  asc : cs.Pairwise fun a b => lt a b = true
  cov : ∀ k ∈ ks, ∃ c ∈ cs, k ∈ c
theorem HouseOk.sub {nm : α → Prop} {lt : List α → List α → Bool} {ks : List α} {cs : List (List α)} (h : HouseOk nm lt ks cs) {c : List α} (hc : c ∈ cs) : ∀ k ∈ c, k ∈ ks := fun k hk => by
  have e := (h.call c hc).2
  rw [← e] at hk
  exact (List.mem_filter.mp hk).1
theorem HouseOk.clen {nm : α → Prop} {lt : List α → List α → Bool} {ks : List α} {cs : List (List α)} (h : HouseOk nm lt ks cs) {c : List α} (hc : c ∈ cs) : c.length ≤ 6 := by
  have e := (h.call c hc).2
  have := List.length_filter_le (fun k => decide (k ∈ c)) ks
  rw [e] at this
  exact Nat.le_trans this h.k6
/-- a map that tells different members apart -/
def InjOn (f : Int → α) (l : List Int) : Prop := ∀ x ∈ l, ∀ y ∈ l, f x = f y → x = y
theorem mem_map_inj {f : Int → α} {ns c : List Int} (hf : InjOn f ns) (hs : ∀ x ∈ c, x ∈ ns) {x : Int} (hx : x ∈ ns) : f x ∈ c.map f ↔ x ∈ c := by
  constructor
  · intro m
    obtain ⟨y, hy, e⟩ := List.mem_map.mp m
    rw [← hf y (hs y hy) x hx e]
    exact hy
  · intro m
    exact List.mem_map.mpr ⟨x, m, rfl⟩
theorem filter_map_inj {f : Int → α} {ns c : List Int} (hf : InjOn f ns) (hn : Asc ns) (hc : Asc c) (hs : ∀ x ∈ c, x ∈ ns) :
    (ns.map f).filter (fun k => decide (k ∈ c.map f)) = c.map f := by
  rw [List.filter_map]
  congr 1
  rw [← asc_filter hn hc hs]
  refine List.filter_congr fun x hx => ?_
  have q := mem_map_inj hf hs hx
  rw [asc_filter hn hc hs]
  by_cases h : x ∈ c
  · show decide (f x ∈ c.map f) = decide (x ∈ c)
    rw [decide_eq_true (q.mpr h), decide_eq_true h]
  · have : f x ∉ c.map f := fun z => h (q.mp z)
    show decide (f x ∈ c.map f) = decide (x ∈ c)
    rw [decide_eq_false this, decide_eq_false h]
theorem map_inj_on {f : Int → α} {ns : List Int} (hf : InjOn f ns) : ∀ {a b : List Int}, (∀ x ∈ a, x ∈ ns) → (∀ x ∈ b, x ∈ ns) → a.map f = b.map f → a = b
  | [], [], _, _, _ => rfl
  | [], y :: b, _, _, h => by simp at h
  | x :: a, [], _, _, h => by simp at h
  | x :: a, y :: b, ha, hb, h => by
    simp only [List.map_cons, List.cons.injEq] at h
    rw [hf x (ha x List.mem_cons_self) y (hb y List.mem_cons_self) h.1, map_inj_on hf (fun z hz => ha z (List.mem_cons_of_mem _ hz)) (fun z hz => hb z (List.mem_cons_of_mem _ hz)) h.2]
theorem nodup_map_on {β γ : Type} {f : β → γ} : ∀ {l : List β}, l.Nodup → (∀ x ∈ l, ∀ y ∈ l, f x = f y → x = y) → (l.map f).Nodup
  | [], _, _ => List.nodup_nil
  | a :: l, h, hf => by
    obtain ⟨h1, h2⟩ := List.nodup_cons.mp h
    rw [List.map_cons]
    refine List.nodup_cons.mpr ⟨fun m => ?_, nodup_map_on h2 fun x hx y hy => hf x (List.mem_cons_of_mem _ hx) y (List.mem_cons_of_mem _ hy)⟩
    obtain ⟨b, hb, e⟩ := List.mem_map.mp m
    have q := hf b (List.mem_cons_of_mem _ hb) a List.mem_cons_self e
    exact h1 (by rw [← q]; exact hb)
theorem lt_of_sorted {β : Type} {le lt : β → β → Bool} (hlt : ∀ a b, le a b = true → a ≠ b → lt a b = true) : ∀ {l : List β}, l.Nodup → l.Pairwise (fun a b => le a b = true) → l.Pairwise fun a b => lt a b = true
  | [], _, _ => List.Pairwise.nil
  | a :: l, hn, h => by
    obtain ⟨n1, n2⟩ := List.nodup_cons.mp hn
    obtain ⟨h1, h2⟩ := List.pairwise_cons.mp h
    exact List.pairwise_cons.mpr ⟨fun b hb => hlt a b (h1 b hb) fun e => n1 (by rw [e]; exact hb), lt_of_sorted hlt n2 h2⟩
/-- THE HOUSE that _law_named makes -/
theorem named_ok {nm : α → Prop} {lt le : List α → List α → Bool} {n : Nat} {kept : List (List Int)} {f : Int → α} {ks : List α} {cs : List (List α)} (hk : FoundOk n kept) (hnd : kept.Nodup) (h8 : kept.length ≤ 8) (hn6 : n ≤ 6)
    (hf : InjOn f (numsOf n kept)) (eks : ks = (numsOf n kept).map f) (hnm : ∀ k ∈ ks, nm k) (hp : cs.Perm (kept.map (List.map f))) (hs : cs.Pairwise fun a b => le a b = true)
    (hlt : ∀ a b, a ∈ cs → b ∈ cs → le a b = true → a ≠ b → lt a b = true) : HouseOk nm lt ks cs := by
  obtain ⟨hne, hc⟩ := hk
  have sub : ∀ c ∈ kept, ∀ x ∈ c, x ∈ numsOf n kept := fun c h x hx => nums_mem.mpr ⟨(hc c h).2.2 x hx, c, h, hx⟩
  have mem : ∀ c, c ∈ cs → ∃ d ∈ kept, c = d.map f := fun c h => by
    obtain ⟨d, hd, e⟩ := List.mem_map.mp (hp.mem_iff.mp h)
    exact ⟨d, hd, e.symm⟩
  have ndm : (kept.map (List.map f)).Nodup := nodup_map_on hnd fun a ha b hb e => map_inj_on hf (sub a ha) (sub b hb) e
  have len : cs.length = kept.length := by rw [hp.length_eq, List.length_map]
  refine ⟨?_, ?_, ?_, hnm, ?_, by omega, fun c h => ?_, ?_, fun k h => ?_⟩
  · rw [eks, List.length_map]
    cases kept with
    | nil => exact absurd rfl hne
    | cons c r =>
      have q := hc c List.mem_cons_self
      cases c with
      | nil => exact absurd rfl q.1
      | cons x l => exact List.length_pos_of_mem (sub _ List.mem_cons_self x List.mem_cons_self)
  · rw [eks, List.length_map]
    exact Nat.le_trans (nums_len n kept) hn6
  · rw [eks]
    exact nodup_map_on (asc_nodup (nums_asc n kept)) hf
  · rw [len]
    exact List.length_pos_iff.mpr hne
  · obtain ⟨d, hd, rfl⟩ := mem c h
    refine ⟨fun e => (hc d hd).1 (List.map_eq_nil_iff.mp e), ?_⟩
    rw [eks]
    exact filter_map_inj hf (nums_asc n kept) (hc d hd).2.1 (sub d hd)
  · have key : ∀ l : List (List α), (∀ a ∈ l, a ∈ cs) → l.Nodup → l.Pairwise (fun a b => le a b = true) → l.Pairwise fun a b => lt a b = true := by
      intro l
      induction l with
      | nil => intro _ _ _; exact List.Pairwise.nil
      | cons a l ih =>
        intro hm hn h
        obtain ⟨n1, n2⟩ := List.nodup_cons.mp hn
        obtain ⟨h1, h2⟩ := List.pairwise_cons.mp h
        exact List.pairwise_cons.mpr ⟨fun b hb => hlt a b (hm a List.mem_cons_self) (hm b (List.mem_cons_of_mem _ hb)) (h1 b hb) fun e => n1 (by rw [e]; exact hb), ih (fun x hx => hm x (List.mem_cons_of_mem _ hx)) n2 h2⟩
    exact key cs (fun _ h => h) (hp.nodup_iff.mpr ndm) hs
  · rw [eks] at h
    obtain ⟨x, hx, rfl⟩ := List.mem_map.mp h
    obtain ⟨_, c, hc1, hc2⟩ := nums_mem.mp hx
    exact ⟨c.map f, hp.mem_iff.mpr (List.mem_map.mpr ⟨c, hc1, rfl⟩), List.mem_map.mpr ⟨x, hc2, rfl⟩⟩
/-! ### the map of numbers to names -/
def toName (d : α) (ns : List Int) (xs : List α) (k : Int) : α := ((ns.zip xs).lookup k).getD d
theorem lookup_zip {d : α} : ∀ {ns : List Int} {xs : List α}, ns.Nodup → ns.length = xs.length → ns.map (toName d ns xs) = xs
  | [], [], _, _ => rfl
  | [], x :: xs, _, h => by simp at h
  | n :: ns, [], _, h => by simp at h
  | n :: ns, x :: xs, hn, h => by
    obtain ⟨n1, n2⟩ := List.nodup_cons.mp hn
    have ih := lookup_zip (d := d) (ns := ns) (xs := xs) n2 (by simpa using h)
    rw [List.map_cons]
    congr 1
    · unfold toName
      simp [List.zip_cons_cons, List.lookup_cons]
    · conv => rhs; rw [← ih]
      refine List.map_congr_left fun k hk => ?_
      have e : (k == n) = false := by
        rw [beq_eq_false_iff_ne]
        intro q
        exact n1 (by rw [← q]; exact hk)
      unfold toName
      rw [List.zip_cons_cons, List.lookup_cons, e]
theorem toName_inj {d : α} {ns : List Int} {xs : List α} (hn : ns.Nodup) (hx : xs.Nodup) (hl : ns.length = xs.length) : InjOn (toName d ns xs) ns := by
  have e := lookup_zip (d := d) hn hl
  rw [← e] at hx
  intro a ha b hb q
  obtain ⟨i, hi, ea⟩ := List.mem_iff_getElem.mp ha
  obtain ⟨j, hj, eb⟩ := List.mem_iff_getElem.mp hb
  have z : i = j := by
    have hi' : i < (ns.map (toName d ns xs)).length := by simpa using hi
    have hj' : j < (ns.map (toName d ns xs)).length := by simpa using hj
    refine (List.getElem_inj (h₀ := hi') (h₁ := hj') hx).mp ?_
    rw [List.getElem_map, List.getElem_map, ea, eb, q]
  subst z
  rw [← ea, ← eb]
end
/-! ### calls kept once, at most so many -/
def keepOnce (n : Nat) : List (List Int) → List (List Int) → List (List Int)
  | kept, [] => kept
  | kept, c :: r => keepOnce n (if c ∉ kept ∧ kept.length < n then kept ++ [c] else kept) r
theorem keep_ok {m : Int} {n : Nat} : ∀ {fs kept : List (List Int)}, kept.Nodup → kept.length ≤ n → (∀ c ∈ kept, CallOk m c) → (∀ c ∈ fs, CallOk m c) → (kept ≠ [] ∨ (fs ≠ [] ∧ 0 < n)) →
    FoundOk m (keepOnce n kept fs) ∧ (keepOnce n kept fs).Nodup ∧ (keepOnce n kept fs).length ≤ n
  | [], kept, h1, h2, h3, _, h5 => ⟨⟨h5.resolve_right fun q => q.1 rfl, h3⟩, h1, h2⟩
  | c :: r, kept, h1, h2, h3, h4, h5 => by
    unfold keepOnce
    by_cases h : c ∉ kept ∧ kept.length < n
    · rw [if_pos h]
      refine keep_ok ?_ ?_ (fun d hd => ?_) (fun d hd => h4 d (List.mem_cons_of_mem _ hd)) (.inl (by simp))
      · exact List.nodup_append.mpr ⟨h1, by simp, fun a ha b hb e => h.1 (by rw [← List.mem_singleton.mp hb, ← e]; exact ha)⟩
      · rw [List.length_append, List.length_singleton]
        omega
      · rcases List.mem_append.mp hd with q | q
        · exact h3 d q
        · rw [List.mem_singleton.mp q]
          exact h4 c List.mem_cons_self
    · rw [if_neg h]
      refine keep_ok h1 h2 h3 (fun d hd => h4 d (List.mem_cons_of_mem _ hd)) ?_
      cases kept with
      | nil =>
        rcases h5 with q | q
        · exact absurd rfl q
        · exact absurd ⟨by simp, q.2⟩ h
      | cons a l => exact .inl (by simp)
end KH
set_option maxHeartbeats 4000000
/-! The ground: the text by places, what the top leaves (Txt), a def by its name (Dfn), the bag's heap (Bag). -/
namespace KK
open PySem PySem.Spec PyProof.Rows L2
/-! ### the text -/
def top (i : Nat) : Stmt := PySem.Challenge.pw_calledbest_k10_whole_the_eldest_of_a_kin.main.body.getD i (.Pass ⟨0, 0, 0, 0⟩)
def gdef (x : Str) (i : Nat) : He.DefD := ⟨(x, none), x, x, defArgs (top i), defBody (top i), defScope (top i), [], []⟩
def mdef (m q : Str) (j : Nat) : He.DefD := ⟨("Store", some m), m, q, defArgs (inClass (top 22) j), defBody (inClass (top 22) j), defScope (inClass (top 22) j), [], []⟩
/-- a name and its place -/
abbrev at_ (x : Str) (n : Nat) : Str × Nat := (x, n)
def fnL : List (Str × Nat) := [at_ "is_name" 12, at_ "is_tuple_of" 13, at_ "are_names" 14, at_ "in_order" 15, at_ "is_part" 16, at_ "is_house" 17, at_ "is_set" 18, at_ "is_kind" 19, at_ "is_call" 20, at_ "do_row" 24, at_ "store_behind" 25, at_ "told_by" 26, at_ "there_at" 27, at_ "_law_bag" 29, at_ "_law_take" 30, at_ "_law_one" 31, at_ "_law_mixed" 32, at_ "_law_alike" 33, at_ "_law_house" 34, at_ "_law_paths" 35, at_ "_law_bent_call" 36, at_ "_law_any_calls" 37, at_ "_law_named" 38, at_ "_law_forks" 39, at_ "_law_stretch" 40, at_ "_law_thing_names" 41, at_ "_law_log_of" 42, at_ "_law_plain_log" 43, at_ "_law_log" 44, at_ "_law_told_of" 45, at_ "_law_are_first_told" 46, at_ "_law_are_eldest_told" 47, at_ "law" 48]
/-- the methods: name, qualified name, place in the class's body (0 is the row of the slots) -/
def mtL : List (Str × Str × Nat) := [("__init__", "Store.__init__", 1), ("put", "Store.put", 2), ("first_of", "Store.first_of", 3), ("take", "Store.take", 4), ("drop", "Store.drop", 5), ("there", "Store.there", 6)]
def fn : List He.DefD := fnL.map (fun p => gdef p.1 p.2) ++ mtL.map fun p => mdef p.1 p.2.1 p.2.2
def freeL : List Str := ["isinstance", "str", "len", "all", "tuple", "set", "any", "zip", "list", "enumerate", "abs", "int", "repr", "min", "range", "sorted", "dict"]
def fa : List He.Fa := fnL.map (fun p => He.Fa.glo p.1) ++ (freeL.map He.Fa.free ++ [.glo "Store", .int "MOST_SIGNS" 6, .int "MOST_KINDS" 6, .int "MOST_CALLS" 8, .str "LETTERS" "abcdefghijklmnopqrstuvwxyz", .mkr "Store",
  .meth "Store" "put", .meth "Store" "first_of", .meth "Store" "take", .meth "Store" "drop", .meth "Store" "there"])
/-! ### what the top leaves -/
structure Txt (K : PySem.W.Frag) (mg : Str → Option Value) : Prop where
  gl : ∀ x, He.Fa.glo x ∈ fa → mg x = some (.ref (He.ga K x))
  fr : ∀ x, He.Fa.free x ∈ fa → mg x = none
  num : ∀ x i, He.Fa.int x i ∈ fa → ∃ t, mg x = some (.int i t)
  txt : ∀ x z, He.Fa.str x z ∈ fa → ∃ t, mg x = some (.str z t)
  made : Mk K (He.ga K "Store") (He.ma K (He.ga K "Store") "__init__")
  mt : ∀ m, He.Fa.meth "Store" m ∈ fa → Meth K (He.ga K "Store") m (He.ma K (He.ga K "Store") m)
  df : ∀ d ∈ fn, ∃ fd, FunD K d.name d.qual d.params d.body d.scope (d.dvs K) (d.kws K) (He.fAd K d.at_) fd
theorem glo_in {x : Str} (h : (fnL.map (·.1)).contains x = true) : He.Fa.glo x ∈ fa := by
  obtain ⟨p, hp, e⟩ := List.mem_map.mp (List.contains_iff_mem.mp h)
  exact List.mem_append_left _ (List.mem_map.mpr ⟨p, hp, by rw [e]⟩)
theorem free_in {x : Str} (h : freeL.contains x = true) : He.Fa.free x ∈ fa :=
  List.mem_append_right _ (List.mem_append_left _ (List.mem_map.mpr ⟨x, List.contains_iff_mem.mp h, rfl⟩))
section
variable {K : PySem.W.Frag} {mg : Str → Option Value}
theorem Txt.glo (T : Txt K mg) (x : Str) (h : (fnL.map (·.1)).contains x = true := by decide +kernel) : mg x = some (.ref (He.ga K x)) := T.gl x (glo_in h)
theorem Txt.free (T : Txt K mg) (x : Str) (h : freeL.contains x = true := by decide +kernel) : mg x = none := T.fr x (free_in h)
theorem more_in {f : He.Fa} (h : f ∈ ([.glo "Store", .int "MOST_SIGNS" 6, .int "MOST_KINDS" 6, .int "MOST_CALLS" 8, .str "LETTERS" "abcdefghijklmnopqrstuvwxyz", .mkr "Store", .meth "Store" "put", .meth "Store" "first_of", .meth "Store" "take", .meth "Store" "drop",
    .meth "Store" "there"] : List He.Fa)) : f ∈ fa := List.mem_append_right _ (List.mem_append_right _ h)
theorem Txt.signs (T : Txt K mg) : ∃ t, mg "MOST_SIGNS" = some (.int 6 t) := T.num _ _ (more_in (by simp))
theorem Txt.kinds (T : Txt K mg) : ∃ t, mg "MOST_KINDS" = some (.int 6 t) := T.num _ _ (more_in (by simp))
theorem Txt.calls (T : Txt K mg) : ∃ t, mg "MOST_CALLS" = some (.int 8 t) := T.num _ _ (more_in (by simp))
theorem Txt.abc (T : Txt K mg) : ∃ t, mg "LETTERS" = some (.str "abcdefghijklmnopqrstuvwxyz" t) := T.txt _ _ (more_in (by simp))
theorem Txt.store (T : Txt K mg) : mg "Store" = some (.ref (He.ga K "Store")) := T.gl _ (more_in (by simp))
end
/-! ### a def by its name -/
structure Dfn (P : Program) (w : World) (K : PySem.W.Frag) (mg : Str → Option Value) (base : Heap) (k : Nat) (x : Str) (ps : List Str) (sp : Sp) : Prop where
  ex : ∃ fd, FnOk P w K mg base CX0 k (He.ga K x) fd ps sp ∧ Binds K fd ps []
  mg : mg x = some (.ref (He.ga K x))
  kp : PySem.W.keepIn K (.ref (He.ga K x)) = true
/-- a method, as the promise of its positional values -/
abbrev Mtd (P : Program) (w : World) (K : PySem.W.Frag) (mg : Str → Option Value) (base : Heap) (k : Nat) (m : Str) (sp : Sp) : Prop :=
  FnR P w K mg base CX0 k (He.ma K (He.ga K "Store") m) sp
/-- where a def's, a method's body stands -/
abbrev cxG (P : Program) (w : World) (K : PySem.W.Frag) (mg : Str → Option Value) (base : Heap) (N : List Str) (x : Str) (i : Nat) (cdv : Value) (A : Around) (outer : List Env) (s : Shared) (H : Hp) (E : XK) : Cx :=
  (cxOf CX0 P w K mg base N x (defScope (top i)) (He.ga K x) cdv A outer s H E).nox
abbrev cxM (P : Program) (w : World) (K : PySem.W.Frag) (mg : Str → Option Value) (base : Heap) (N : List Str) (m q : Str) (i : Nat) (cdv : Value) (A : Around) (outer : List Env) (s : Shared) (H : Hp) (E : XK) : Cx :=
  (cxOf CX0 P w K mg base N q (defScope (inClass (top 22) i)) (He.ma K (He.ga K "Store") m) cdv A outer s H E).nox
section
variable {P : Program} {w : World} {K : PySem.W.Frag} {mg : Str → Option Value} {base : Heap}
theorem mk_dfn {x : Str} {i j k : Nat} {N ps : List Str} {sp : Sp} (T : Txt K mg) (hj : fnL[j]? = some (x, i)) (S : FnScope N ps (defScope (top i))) (len : ∀ vs H Q E, sp vs H Q E → vs.length = ps.length)
    (hb : ∀ (kV doc pm : Value) (an : Option Addr) (cdv ct : Value) (us : List Value), us.length = ps.length → bindArgs (PySem.W.fnOf x x (defArgs (top i)) (defBody (top i)) (defScope (top i)) .none kV doc pm an cdv ct) ⟨us, []⟩ = pure (ps.zip us))
    (body : ∀ (cdv : Value) (A : Around) (outer : List Env) (s : Shared) (H : Hp) (vs : List V) (Q : VK) (E : XK), Room k (A.deeper (envOfC x (defScope (top i)) s.heap.objs.size (He.ga K x) cdv)) → sp vs H Q E →
      ∃ t, PSs (cxG P w K mg base N x i cdv A outer s H E) (defBody (top i)) t ∧ t { nx := fun _ H' => Q .non H', rt := Q } (start N vs) H) :
    Dfn P w K mg base (k + 1) x ps sp := by
  have hm : (x, i) ∈ fnL := List.mem_of_getElem? hj
  obtain ⟨fd, F⟩ := T.df (gdef x i) (List.mem_append_left _ (List.mem_map.mpr ⟨_, hm, rfl⟩))
  refine ⟨⟨fd, ?_, ?_⟩, T.gl x (List.mem_append_left _ (List.mem_map.mpr ⟨_, hm, rfl⟩)), F.kp⟩
  · exact FunD.ok F S len fun cdv A outer s H vs Q E hr h => by
      obtain ⟨t, h1, h2⟩ := body cdv A outer s H vs Q E hr h
      exact ⟨t, h1.nox, h2⟩
  · obtain ⟨oc, od, dV, kV, doc, pm, an, cdv, ct, osl, rfl, lk, hcd, hd, _⟩ := F.ex
    have e : dV = .none := by
      rcases hd with q | q
      · exact q.2
      · exact absurd rfl q.1
    subst e
    exact Binds.all fun us hl => hb kV doc pm an cdv ct us hl
theorem mk_mtd {m q : Str} {i j k : Nat} {N ps : List Str} {sp : Sp} (T : Txt K mg) (hj : mtL[j]? = some (m, q, i)) (S : FnScope N ps (defScope (inClass (top 22) i))) (len : ∀ vs H Q E, sp vs H Q E → vs.length = ps.length)
    (hb : ∀ (kV doc pm : Value) (an : Option Addr) (cdv ct : Value) (us : List Value), us.length = ps.length → bindArgs (PySem.W.fnOf m q (defArgs (inClass (top 22) i)) (defBody (inClass (top 22) i)) (defScope (inClass (top 22) i)) .none kV doc pm an cdv ct) ⟨us, []⟩ = pure (ps.zip us))
    (body : ∀ (cdv : Value) (A : Around) (outer : List Env) (s : Shared) (H : Hp) (vs : List V) (Q : VK) (E : XK), Room k (A.deeper (envOfC q (defScope (inClass (top 22) i)) s.heap.objs.size (He.ma K (He.ga K "Store") m) cdv)) → sp vs H Q E →
      ∃ t, PSs (cxM P w K mg base N m q i cdv A outer s H E) (defBody (inClass (top 22) i)) t ∧ t { nx := fun _ H' => Q .non H', rt := Q } (start N vs) H) :
    ∃ fd, FnOk P w K mg base CX0 (k + 1) (He.ma K (He.ga K "Store") m) fd ps sp ∧ Binds K fd ps [] := by
  have hm : (m, q, i) ∈ mtL := List.mem_of_getElem? hj
  obtain ⟨fd, F⟩ := T.df (mdef m q i) (List.mem_append_right _ (List.mem_map.mpr ⟨_, hm, rfl⟩))
  refine ⟨fd, ?_, ?_⟩
  · exact FunD.ok F S len fun cdv A outer s H vs Q E hr h => by
      obtain ⟨t, h1, h2⟩ := body cdv A outer s H vs Q E hr h
      exact ⟨t, h1.nox, h2⟩
  · obtain ⟨oc, od, dV, kV, doc, pm, an, cdv, ct, osl, rfl, lk, hcd, hd, _⟩ := F.ex
    have e : dV = .none := by
      rcases hd with q | q
      · exact q.2
      · exact absurd rfl q.1
    subst e
    exact Binds.all fun us hl => hb kV doc pm an cdv ct us hl
end
section
variable {X : Cx} {k : Nat} {x : Str} {ps : List Str} {sp : Sp} {p pos : Pos} {e : Expr} {es : List Expr} {t : TA}
/-- f(e, ..) -/
theorem pe_dfn (D : Dfn X.prog X.w X.K X.mg X.base k x ps sp) (hr : Room k X.A) (ha : PA X (e :: es) t) (hg : Gl X x := by rfl) (hdb : (x == ("__debug__" : Str)) = false := by decide)
    (he : starEach (e :: es) X.env = (false, eval e X.env) :: starEach es X.env := by rfl) (hpl : (backTo pos (starEach es X.env)).any (·.1) = false := by rfl) : PE X (.Call (.Name x p) (e :: es) [] pos) (tCall sp [] E0 t) := by
  obtain ⟨fd, F, b⟩ := D.ex
  exact pe_call F hr hg D.mg D.kp b .nil pass0 ha hdb he hpl
end
/-! ### the bag: [w, s, i, cells] at a, beside Hc -/
theorem Same.upd {Hc H : Hp} (s : Same Hc H) (p : Addr) (o : HO) : Same (L2.upd Hc p o) (L2.upd H p o) := fun b u e => by
  by_cases h : b = p
  · subst h
    rw [upd_same] at e ⊢
    exact e
  · rw [upd_ne h] at e ⊢
    exact s b u e
theorem Same.new {H : Hp} {p : Addr} (h : H p = none) (o : HO) : Same H (L2.upd H p o) := fun b u e => by
  rw [upd_ne (ne_of_none e h)]
  exact e
theorem Same.tail {Hc H : Hp} (s : Same Hc H) {p : Addr} (h : Hc p = none) (o : HO) : Same Hc (L2.upd H p o) := fun b u e => by
  rw [upd_ne (ne_of_none e h)]
  exact s b u e
theorem Same.tup {K : PySem.W.Frag} {H H' : Hp} {a : Addr} {xs : List V} (e : Same H H') (h : SqT K H a xs) : SqT K H' a xs := by
  rcases h with (h | ⟨o, h⟩) | h
  · exact .inl (.inl (e _ _ h))
  · exact .inl (.inr ⟨o, e _ _ h⟩)
  · exact .inr h
structure BagE (Hc H : Hp) (a c : Addr) (w s i : Int) (cs : List Int) : Prop where
  same : Same Hc H
  na : Hc a = none
  nc : Hc c = none
  ha : H a = some (.lst [.int w, .int s, .int i, .ref c])
  hc : H c = some (.lst (cs.map V.int))
  w0 : 0 ≤ w
  s0 : 0 ≤ s
  s1 : s < 2147483647
  i0 : 0 ≤ i
  cs0 : ∀ x ∈ cs, 0 ≤ x
  cs63 : cs.length ≤ 63
def Bag (Hc H : Hp) (a : Addr) : Prop := ∃ c w s i cs, BagE Hc H a c w s i cs
section
variable {Hc H : Hp} {a c p : Addr} {o o' : HO} {w s i : Int} {cs : List Int}
theorem BagE.add (B : BagE Hc H a c w s i cs) (h : H p = none) : BagE (upd Hc p o) (upd H p o) a c w s i cs :=
  { B with same := Same.upd B.same p o, na := (by rw [upd_ne (ne_of_none B.ha h)]; exact B.na), nc := (by rw [upd_ne (ne_of_none B.hc h)]; exact B.nc), ha := (by rw [upd_ne (ne_of_none B.ha h)]; exact B.ha), hc := (by rw [upd_ne (ne_of_none B.hc h)]; exact B.hc) }
theorem BagE.garb (B : BagE Hc H a c w s i cs) (h : H p = none) : BagE Hc (upd H p o) a c w s i cs :=
  { B with same := Same.tail B.same (B.same.free h) o, ha := (by rw [upd_ne (ne_of_none B.ha h)]; exact B.ha), hc := (by rw [upd_ne (ne_of_none B.hc h)]; exact B.hc) }
theorem BagE.set (B : BagE Hc H a c w s i cs) (h : Hc p = some o) : BagE (upd Hc p o') (upd H p o') a c w s i cs := by
  have n1 : a ≠ p := fun e => by have z := B.na; rw [e, h] at z; cases z
  have n2 : c ≠ p := fun e => by have z := B.nc; rw [e, h] at z; cases z
  exact { B with same := Same.upd B.same p o', na := (by rw [upd_ne n1]; exact B.na), nc := (by rw [upd_ne n2]; exact B.nc), ha := (by rw [upd_ne n1]; exact B.ha), hc := (by rw [upd_ne n2]; exact B.hc) }
/-- its four places are written -/
theorem BagE.wr {w' s' i' : Int} (B : BagE Hc H a c w s i cs) (hw : 0 ≤ w') (h0 : 0 ≤ s') (h1 : s' < 2147483647) (hi : 0 ≤ i') : BagE Hc (upd H a (.lst [.int w', .int s', .int i', .ref c])) a c w' s' i' cs := by
  have hne : c ≠ a := fun e => by
    have h3 := B.hc
    rw [e, B.ha] at h3
    have q : [V.int w, V.int s, V.int i, V.ref c] = cs.map V.int := by
      injection h3 with h3
      injection h3
    have m : V.ref c ∈ cs.map V.int := by rw [← q]; simp
    obtain ⟨z, _, z2⟩ := List.mem_map.mp m
    cases z2
  exact { B with same := Same.tail B.same B.na _, ha := upd_same, hc := (by rw [upd_ne hne]; exact B.hc), w0 := hw, s0 := h0, s1 := h1, i0 := hi }
theorem BagE.bag (B : BagE Hc H a c w s i cs) : Bag Hc H a := ⟨c, w, s, i, cs, B⟩
theorem Bag.same (B : Bag Hc H a) : Same Hc H := by obtain ⟨_, _, _, _, _, B⟩ := B; exact B.same
theorem Bag.na (B : Bag Hc H a) : Hc a = none := by obtain ⟨_, _, _, _, _, B⟩ := B; exact B.na
theorem Bag.free (B : Bag Hc H a) (h : H p = none) : Hc p = none := B.same.free h
/-- a new thing that is kept -/
theorem Bag.add (B : Bag Hc H a) (h : H p = none) : Bag (upd Hc p o) (upd H p o) a := by obtain ⟨_, _, _, _, _, B⟩ := B; exact (B.add h).bag
/-- a new thing that is forgotten -/
theorem Bag.garb (B : Bag Hc H a) (h : H p = none) : Bag Hc (upd H p o) a := by obtain ⟨_, _, _, _, _, B⟩ := B; exact (B.garb h).bag
/-- what stands beside is written -/
theorem Bag.set (B : Bag Hc H a) (h : Hc p = some o) : Bag (upd Hc p o') (upd H p o') a := by obtain ⟨_, _, _, _, _, B⟩ := B; exact (B.set h).bag
/-- less is known -/
theorem Bag.weak {Hb : Hp} (B : Bag Hc H a) (h : Same Hb Hc) : Bag Hb H a := by
  obtain ⟨c, w, s, i, cs, B⟩ := B
  exact ⟨c, w, s, i, cs, { B with same := h.trans B.same, na := h.free B.na, nc := h.free B.nc }⟩
end
end KK
set_option maxHeartbeats 4000000
/-! Rules of our own, first part. -/
namespace KK
open PySem PySem.Spec PyProof.Rows L2
section
variable {X : Cx}
/-- xs[i] of a list, 0 ≤ i, where it is read to be stored again -/
def gtL (K : PySem.W.Frag) : V → V → Hp → VK → Prop := fun o i H Q => ∃ (p : Addr) (xs : List V) (j : Nat) (v : V), o = .ref p ∧ i = .int (j : Int) ∧ SqL K H p xs ∧ (j : Int) < 2 ^ 63 ∧ xs[j]? = some v ∧ Q v H
theorem get_listL : PGet X (gtL X.K) := by
  intro pins s σ H o i ov iv Q I ro ri h
  obtain ⟨p, xs, j, v, rfl, rfl, hs, hj, hv, q⟩ := h
  cases ro
  obtain ⟨t, rfl⟩ := ri
  obtain ⟨its, r, pl, hz⟩ := I.list hs
  obtain ⟨u, eu, ru⟩ := r.get hv
  refine wpAny_getItem_list pl.isList (Int.natCast_nonneg j) hj (x := u) ?_ ⟨v, H, I, ru, q⟩
  rw [Int.toNat_natCast, List.getElem?_toArray]
  exact eu
end
theorem ixN_at {n j : Nat} (h : j < n) : ixN n ((j : Nat) : Int) = some j := by
  unfold ixN
  rw [if_pos (Int.natCast_nonneg j), if_pos (by omega)]
  rw [Int.toNat_natCast]
theorem ixN_zero {n : Nat} (h : 0 < n) : ixN n 0 = some 0 := ixN_at h
/-! ### values without a trace -/
section
variable {σ : L2.St} {H : Hp} {K : PySem.W.Frag} {ta tb te : TE} {i j : Int} {p : Addr} {xs : List V} {v x : V} {D : Ends} {g : TG}
abbrev rInt1 : List V → Hp → VK → Prop := fun xs H Q => (∃ i, xs = [.int i] ∧ Q (.int i) H) ∨ ∃ k, xs = [.bl k] ∧ Q (.int (if k then 1 else 0)) H
theorem val_ixL (ha : Val ta σ H (.ref p)) (hb : Val tb σ H (.int i)) (hs : SqL K H p xs) (hv : atI xs i = some v) : Val (tOp (rIxL K) ta tb) σ H v :=
  val_op ha hb fun Q q => ⟨p, xs, i, v, rfl, rfl, hs, hv, q⟩
theorem val_ixT (ha : Val ta σ H (.ref p)) (hb : Val tb σ H (.int i)) (hs : SqT K H p xs) (hv : atI xs i = some v) : Val (tOp (rIxT K) ta tb) σ H v :=
  val_op ha hb fun Q q => ⟨p, xs, i, v, rfl, rfl, hs, hv, q⟩
theorem val_int1 (ha : Val ta σ H (.int i)) : Val (tCB rInt1 (tCons ta tNil)) σ H (.int i) := fun Q q => ha _ (.inl ⟨i, rfl, q⟩)
theorem val_bool1 {b : Bool} (ha : Val ta σ H (.bl b)) : Val (tCB rInt1 (tCons ta tNil)) σ H (.int (if b then 1 else 0)) := fun Q q => ha _ (.inr ⟨b, rfl, q⟩)
theorem val_I0 {f : Int → Int → V} (ha : Val ta σ H (.int i)) (hb : Val tb σ H (.int j)) : Val (tOp (rI0 f) ta tb) σ H (f i j) := val_op ha hb fun Q q => ⟨i, j, rfl, rfl, q⟩
theorem val_I {C : Int → Int → Prop} {f : Int → Int → V} (ha : Val ta σ H (.int i)) (hb : Val tb σ H (.int j)) (hc : C i j) : Val (tOp (rI C f) ta tb) σ H (f i j) := val_op ha hb fun Q q => ⟨i, j, rfl, rfl, hc, q⟩
theorem ans_I0 {f : Int → Int → Bool} {b : Bool} (ha : Val ta σ H (.int i)) (hb : Val tb σ H (.int j)) (e : f i j = b) : Ans (tTest (tOp (rI0 fun i j => .bl (f i j)) ta tb)) σ H b := fun Q q => ha _ (hb _ ⟨i, j, rfl, rfl, b, congrArg V.bl e, q⟩)
/-- xs[i] = e -/
theorem st_setL {k : Nat} (he : Val te σ H v) (ha : Val ta σ H (.ref p)) (hb : Val tb σ H (.int i)) (hp : H p = some (.lst xs)) (hi : ixN xs.length i = some k) (q : D.nx σ (upd H p (.lst (xs.set k v)))) : tAsg te (gSub ta tb rSetL) D σ H :=
  he _ (ha _ (hb _ ⟨p, xs, i, k, rfl, rfl, hp, hi, q⟩))
theorem st_if {c : TT} {t u : TS} {b : Bool} (h : Ans c σ H b) (h1 : b = true → t D σ H) (h2 : b = false → u D σ H) : tIfS c t u D σ H := h _ (by
  cases b with
  | true => exact iteT (h1 rfl)
  | false => exact iteF (h2 rfl))
end
/-! ### statement by statement -/
section
variable {σ : L2.St} {H : Hp} {K : PySem.W.Frag} {ta tb te : TE} {i : Int} {j : Nat} {p : Addr} {xs : List V} {v x : V} {D : Ends} {g : TG} {c : TT} {t t2 u : TS}
theorem sq_set (h : Val te σ H v) (q : u D (σ.set j (some v)) H) : tSeq (tAsg te (gName j)) u D σ H := st_seq (st_set h q)
theorem sq_setL {k : Nat} (he : Val te σ H v) (ha : Val ta σ H (.ref p)) (hb : Val tb σ H (.int i)) (hp : H p = some (.lst xs)) (hi : ixN xs.length i = some k) (q : u D σ (upd H p (.lst (xs.set k v)))) : tSeq (tAsg te (gSub ta tb rSetL)) u D σ H :=
  st_seq (st_setL he ha hb hp hi q)
theorem sq_no (h : Ans c σ H false) (q : u D σ H) : tSeq (tIfS c t tNext) u D σ H := st_seq (st_no h q)
theorem sq_noE (h : Ans c σ H false) (q : t2 { D with nx := u D } σ H) : tSeq (tIfS c t t2) u D σ H := st_seq (st_no h q)
theorem sq_yes (h : Ans c σ H true) (q : t { D with nx := u D } σ H) : tSeq (tIfS c t t2) u D σ H := st_seq (st_yes h q)
theorem st_noN (h : Ans c σ H false) (q : D.nx σ H) : tIfS c t tNext D σ H := st_no h q
end
/-! ### cells -/
/-- the cell that is read: one of the bag's, or 0 -/
theorem cell_at {cs : List Int} (h : ∀ x ∈ cs, 0 ≤ x) (lo hi : Option Int) : ∃ x : Int, 0 ≤ x ∧ atI (cutV (cs.map V.int) lo hi ++ [V.int 0]) 0 = some (.int x) := by
  unfold cutV
  cases e : ((cs.map V.int).drop (HT.sIx (cs.map V.int).length 0 lo)).take (HT.sIx (cs.map V.int).length (cs.map V.int).length hi - HT.sIx (cs.map V.int).length 0 lo) with
  | nil => exact ⟨0, by decide, rfl⟩
  | cons v r =>
    have m : v ∈ cs.map V.int := List.mem_of_mem_drop (List.mem_of_mem_take (by rw [e]; exact List.mem_cons_self))
    obtain ⟨x, hx, rfl⟩ := List.mem_map.mp m
    refine ⟨x, h x hx, ?_⟩
    show (ixN ((V.int x :: r) ++ [V.int 0]).length 0).bind _ = _
    rw [ixN_zero (by simp)]
    rfl
end KK
set_option maxHeartbeats 4000000
namespace KK
open PySem PySem.Spec PyProof.Rows L2
section
variable {P : Program} {w : World} {K : PySem.W.Frag} {mg : Str → Option Value} {base : Heap}
/-- _law_take: some integer below many; the bag goes on -/
def spTake : Sp := fun vs H Q _ => ∃ (Hc : Hp) (a : Addr) (m : Int), vs = [.ref a, .int m] ∧ Bag Hc H a ∧ 0 < m ∧ m < 1073741824 ∧ ∀ (r : Int) (H' : Hp), 0 ≤ r → r < m → Bag Hc H' a → Q (.int r) H'
theorem scTake : FnScope ["_law_bag_here", "_law_many", "_law_cell", "_law_stirred", "_law_value", "_law_begin", "_law_second"] ["_law_bag_here", "_law_many"] (defScope (top 30)) :=
  ⟨rfl, rfl, rfl, by decide +kernel, rfl, by decide +kernel, by decide +kernel⟩
/-- the tail: what is drawn of s -/
theorem d_take (T : Txt K mg) : Dfn P w K mg base 1 "_law_take" ["_law_bag_here", "_law_many"] spTake := by
  refine mk_dfn (j := 14) T rfl scTake (fun vs H Q E h => ?_) (fun _ _ _ _ _ _ us hl => match us, hl with | [_, _], _ => rfl) (fun cdv A outer s H vs Q E hr h => ?_)
  · obtain ⟨_, _, _, rfl, _⟩ := h
    rfl
  · obtain ⟨Hc, a, m, rfl, B, hm0, hm1, k⟩ := h
    obtain ⟨t, ht, hq⟩ : ∃ t, PSs (cxG P w K mg base ["_law_bag_here", "_law_many", "_law_cell", "_law_stirred", "_law_value", "_law_begin", "_law_second"] "_law_take" 30 cdv A outer s H E) ((defBody (top 30)).drop 1) t ∧
        ∀ (v2 v3 : Option V) (H' : Hp), Bag Hc H' a → t { nx := fun _ H' => Q .non H', rt := Q } [some (.ref a), some (.int m), v2, v3, none, none, none] H' := by
      refine ⟨_, (pss_cons (ps_if (pt_cmpR op_gt (pe_ix ix_list (pv 0) pe_int (fun _ _ => rfl)) pe_int (nomark _))
        (pss_cons (ps_set (i := 4) scTake.nd rfl (Or.inl rfl) (pe_op op_mod (pe_callTy call_int1 (by rfl) (T.free "int") (by decide +kernel) (pa_cons (pe_ix ix_list (pv 0) pe_int (fun _ _ => rfl)) pa_nil)) (pv 1)))
        (pss_cons (ps_asg (pe_op op_fdiv (pe_callTy call_int1 (by rfl) (T.free "int") (by decide +kernel) (pa_cons (pe_ix ix_list (pv 0) pe_int (fun _ _ => rfl)) pa_nil)) (pv 1)) (pg_sub (pv 0) pe_int set_list))
        (pss_one (ps_ret (pv 4))))) pss_nil)
      (pss_cons (ps_set (i := 5) scTake.nd rfl (Or.inl rfl) (pe_op op_mod (pe_callTy call_int1 (by rfl) (T.free "int") (by decide +kernel) (pa_cons (pe_op op_mul (pe_op op_add (pe_ix ix_list (pv 0) pe_int (fun _ _ => rfl)) pe_int) pe_int) pa_nil)) pe_int))
      (pss_cons (ps_set (i := 6) scTake.nd rfl (Or.inl rfl) (pe_op op_mod (pe_callTy call_int1 (by rfl) (T.free "int") (by decide +kernel)
          (pa_cons (pe_op op_mul (pe_op op_mod (pe_callTy call_int1 (by rfl) (T.free "int") (by decide +kernel) (pa_cons (pe_op op_mul (pv 5) (pv 5)) pa_nil)) pe_int) pe_int) pa_nil)) pe_int))
      (pss_one (ps_ret (pe_op op_mod (pe_callTy call_int1 (by rfl) (T.free "int") (by decide +kernel) (pa_cons (pe_op op_fdiv (pv 6) pe_int) pa_nil)) (pv 1))))))), fun v2 v3 H' B' => ?_⟩
      obtain ⟨c, w, st, i, cs, BE⟩ := id B'
      have h2 := BE.ha
      have hw := BE.w0
      have hs0 := BE.s0
      have hs1 := BE.s1
      by_cases hw0 : 0 < w
      · refine sq_yes (ans_I0 (val_ixL (val_var rfl) val_c (SqL.of h2) rfl) val_c (decide_eq_true hw0)) ?_
        refine sq_set (val_I (val_int1 (val_ixL (val_var rfl) val_c (SqL.of h2) rfl)) (val_var rfl) hm0 ) ?_
        refine sq_setL (val_I (val_int1 (val_ixL (val_var rfl) val_c (SqL.of h2) rfl)) (val_var rfl) ⟨hm0, hm1⟩) (val_var rfl) val_c h2 (ixN_zero (Nat.zero_lt_succ _)) ?_
        refine st_ret (val_var rfl) ?_
        exact k _ _ (Int.emod_nonneg _ (by omega)) (Int.emod_lt_of_pos _ hm0) (BE.wr (Int.ediv_nonneg hw (by omega)) hs0 hs1 BE.i0).bag
      · refine sq_no (ans_I0 (val_ixL (val_var rfl) val_c (SqL.of h2) rfl) val_c (decide_eq_false hw0)) ?_
        refine sq_set (val_I (val_int1 (val_I (val_I0 (val_ixL (val_var rfl) val_c (SqL.of h2) rfl) val_c) val_c (.inr ⟨by decide, by decide⟩))) val_c (by decide)) ?_
        have b0 : 0 ≤ (st + 1) * 39373 % 1000000007 := Int.emod_nonneg _ (by decide)
        have b1 : (st + 1) * 39373 % 1000000007 < 1000000007 := Int.emod_lt_of_pos _ (by decide)
        refine sq_set (val_I (val_int1 (val_I (val_I (val_int1 (val_I (val_var rfl) (val_var rfl) (.inl ⟨by omega, by omega⟩))) val_c (by decide)) val_c (.inr ⟨by decide, by decide⟩))) val_c (by decide)) ?_
        refine st_ret (val_I (val_int1 (val_I (val_var rfl) val_c ⟨by decide, by decide⟩)) (val_var rfl) hm0) ?_
        exact k _ _ (Int.emod_nonneg _ (by omega)) (Int.emod_lt_of_pos _ hm0) B'
    refine ⟨_, pss_cons (ps_if (pt_cmpR op_eq (pe_ix ix_list (pv 0) pe_int (fun _ _ => rfl)) pe_int (nomark _))
        (pss_cons (ps_set (i := 2) scTake.nd rfl (Or.inl rfl) (pe_ix ix_list (pe_op op_cat (pe_slice sl_list (pe_ix ix_list (pv 0) pe_int (fun _ _ => rfl)) (po_some (pe_ix ix_list (pv 0) pe_int (fun _ _ => rfl))) po_none) (pe_lst (pa_cons pe_int pa_nil))) pe_int (fun _ _ => rfl)))
        (pss_cons (ps_augS (pv 0) pe_int get_listL pe_int ip_add set_list)
        (pss_cons (ps_if (pt_cmpR op_ge (pv 2) (pe_op op_pow pe_int pe_int) (nomark _)) (pss_one (ps_asg (pv 2) (pg_sub (pv 0) pe_int set_list))) pss_nil)
        (pss_cons (ps_set (i := 3) scTake.nd rfl (Or.inl rfl) (pe_op op_add (pe_op op_add (pe_op op_mul (pe_ix ix_list (pv 0) pe_int (fun _ _ => rfl)) pe_int)
            (pe_op op_mod (pe_callTy call_int1 (by rfl) (T.free "int") (by decide +kernel) (pa_cons (pv 2) pa_nil)) pe_int)) (pe_op op_mul pe_int (pe_ix ix_list (pv 0) pe_int (fun _ _ => rfl)))))
        (pss_one (ps_asg (pe_op op_mod (pe_callTy call_int1 (by rfl) (T.free "int") (by decide +kernel) (pa_cons (pv 3) pa_nil)) pe_int) (pg_sub (pv 0) pe_int set_list))))))) pss_nil) ht, ?_⟩
    obtain ⟨c, w, st, i, cs, BE⟩ := id B
    have h2 := BE.ha
    by_cases hw0 : w = 0
    · subst hw0
      refine sq_yes (ans_eq (val_ixL (val_var rfl) val_c (SqL.of h2) rfl) val_c rfl (decide_eq_true rfl)) ?_
      refine ⟨_, rfl, a, _, 3, .ref c, rfl, rfl, SqL.of h2, rfl, _, rfl, a, _, 2, .int i, rfl, rfl, SqL.of h2, rfl, i, rfl, c, _, rfl, SqL.of BE.hc, fun p1 n1 => ?_⟩
      refine ⟨by show 1 ≤ sizeLine; decide, fun p2 n2 => ?_⟩
      have B2 := (BE.garb (o := .lst (cutV (cs.map V.int) (some i) none)) n1).garb (o := .lst [.int 0]) n2
      have hp1 : upd (upd H p1 (.lst (cutV (cs.map V.int) (some i) none))) p2 (.lst [.int 0]) p1 = some (.lst (cutV (cs.map V.int) (some i) none)) := by
        rw [upd_ne (ne_of_none upd_same n2), upd_same]
      refine ⟨p1, p2, _, _, rfl, rfl, hp1, upd_same, ?_, fun p3 n3 => ?_⟩
      · have := cutV_length (cs.map V.int) (some i) none
        rw [List.length_map] at this
        have h63 := BE.cs63
        show _ + 1 ≤ 16777216
        omega
      obtain ⟨x, hx0, hx⟩ := cell_at BE.cs0 (some i) none
      have B3 := B2.garb (o := .lst (cutV (cs.map V.int) (some i) none ++ [.int 0])) n3
      refine ⟨p3, _, 0, .int x, rfl, rfl, SqL.of upd_same, hx, ?_⟩
      -- the index goes on
      refine ⟨_, rfl, a, _, 2, .int i, rfl, rfl, SqL.of B3.ha, by decide, rfl, i, 1, rfl, rfl, a, _, 2, 2, rfl, rfl, B3.ha, rfl, ?_⟩
      have B4 := B3.wr (w' := 0) (s' := st) (i' := i + 1) (by decide) BE.s0 BE.s1 (by have := BE.i0; omega)
      dsimp only
      have e48 : (10 : Int) ^ (18 : Int).toNat = 1000000000000000000 := by decide
      by_cases hx8 : (10 : Int) ^ (18 : Int).toNat ≤ x
      · refine sq_yes (ans_I0 (val_var rfl) (val_I val_c val_c ⟨by decide, by decide, by decide⟩) (decide_eq_true hx8)) ?_
        refine st_setL (val_var rfl) (val_var rfl) val_c B4.ha (ixN_zero (Nat.zero_lt_succ _)) ?_
        have B5 := B4.wr (w' := x) (s' := st) (i' := i + 1) hx0 BE.s0 BE.s1 B4.i0
        dsimp only
        refine sq_set (val_I0 (val_I0 (val_I (val_ixL (val_var rfl) val_c (SqL.of B5.ha) rfl) val_c (.inr ⟨by decide, by decide⟩)) (val_I (val_int1 (val_var rfl)) val_c (by decide)))
          (val_I val_c (val_ixL (val_var rfl) val_c (SqL.of B5.ha) rfl) (.inl ⟨by decide, by decide⟩))) ?_
        refine st_setL (val_I (val_int1 (val_var rfl)) val_c (by decide)) (val_var rfl) val_c B5.ha (k := 1) rfl ?_
        exact hq _ _ _ (B5.wr B5.w0 (Int.emod_nonneg _ (by decide)) (Int.emod_lt_of_pos _ (by decide)) B5.i0).bag
      · refine sq_no (ans_I0 (val_var rfl) (val_I val_c val_c ⟨by decide, by decide, by decide⟩) (decide_eq_false hx8)) ?_
        refine sq_set (val_I0 (val_I0 (val_I (val_ixL (val_var rfl) val_c (SqL.of B4.ha) rfl) val_c (.inr ⟨by decide, by decide⟩)) (val_I (val_int1 (val_var rfl)) val_c (by decide)))
          (val_I val_c (val_ixL (val_var rfl) val_c (SqL.of B4.ha) rfl) (.inl ⟨by decide, by decide⟩))) ?_
        refine st_setL (val_I (val_int1 (val_var rfl)) val_c (by decide)) (val_var rfl) val_c B4.ha (k := 1) rfl ?_
        exact hq _ _ _ (B4.wr B4.w0 (Int.emod_nonneg _ (by decide)) (Int.emod_lt_of_pos _ (by decide)) B4.i0).bag
    · refine sq_no (ans_eq (val_ixL (val_var rfl) val_c (SqL.of h2) rfl) val_c rfl (decide_eq_false fun e => hw0 (by injection e))) ?_
      exact hq none none H B
end
end KK
set_option maxHeartbeats 4000000
/-! Worlds: a known part Hc beside things that go on (the bag, a store); what a reading gives there. -/
namespace KK
open PySem PySem.Spec PyProof.Rows L2 Evl
structure Wld (W : Hp → Hp → Prop) : Prop where
  ex : ∀ {Hc H : Hp}, W Hc H → Ex Hc H
  grow : ∀ {Hc H H' : Hp}, W Hc H → Ex H H' → W Hc H'
  add : ∀ {Hc H H' : Hp} {p : Addr} {o : HO}, W Hc H → H p = none → Ex H H' → H' p = some o → W (upd Hc p o) H'
  set : ∀ {Hc H : Hp} {p : Addr} {o o' : HO}, W Hc H → Hc p = some o → (∀ xs, o ≠ .tup xs) → W (upd Hc p o') (upd H p o')
  know : ∀ {Hc H : Hp} {p : Addr} {xs : List V}, W Hc H → H p = some (.tup xs) → W (upd Hc p (.tup xs)) H
theorem ex_some {H H' : Hp} {a : Addr} {o : HO} (e : Ex H H') (h : H a = some o) : H' a = some o := e a o h
theorem ex_upd {Hc H : Hp} (s : Ex Hc H) (p : Addr) (o : HO) : Ex (upd Hc p o) (upd H p o) := Same.upd s p o
theorem ex_put {Hc H : Hp} {p : Addr} {o : HO} (s : Ex Hc H) (h : H p = some o) : Ex (upd Hc p o) H := fun b u e => by
  by_cases q : b = p
  · subst q
    rw [upd_same] at e
    rw [h]; exact e
  · rw [upd_ne q] at e
    exact s b u e
/-- nothing but the known part and new things -/
theorem pureW : Wld Ex where
  ex := fun h => h
  grow := fun h e => h.trans e
  add := fun h _ e hp => ex_put (h.trans e) hp
  set := fun h _ _ => ex_upd h _ _
  know := fun h q => ex_put h q
theorem bagW (a : Addr) : Wld (fun Hc H => Bag Hc H a) where
  ex := fun B => B.same
  grow := fun B e => by
    obtain ⟨c, w, s, i, cs, B⟩ := B
    exact ⟨c, w, s, i, cs, { B with same := B.same.trans e, ha := e _ _ B.ha, hc := e _ _ B.hc }⟩
  add := fun B hp e ho => by
    obtain ⟨c, w, s, i, cs, B⟩ := B
    exact ⟨c, w, s, i, cs, { B with same := ex_put (B.same.trans e) ho, na := (by rw [upd_ne (ne_of_none B.ha hp)]; exact B.na), nc := (by rw [upd_ne (ne_of_none B.hc hp)]; exact B.nc), ha := e _ _ B.ha, hc := e _ _ B.hc }⟩
  set := fun B h _ => B.set h
  know := fun B q => by
    obtain ⟨c, w, s, i, cs, B⟩ := B
    exact ⟨c, w, s, i, cs, { B with same := ex_put B.same q, na := (by rw [upd_ne (ne_of B.ha q (by intro z; cases z))]; exact B.na), nc := (by rw [upd_ne (ne_of B.hc q (by intro z; cases z))]; exact B.nc) }⟩
section
variable {W : Hp → Hp → Prop} {Hc H : Hp} {σ : L2.St} {ta tb te : TE} {t u : TT} {v x y : V} {xs : List V} {P P' : V → Hp → Prop}
/-- te gives some v of which P holds -/
def EW (W : Hp → Hp → Prop) (te : TE) (σ : L2.St) (Hc : Hp) (P : V → Hp → Prop) : Prop := ∀ H1, W Hc H1 → ∀ Q : VK, (∀ v Hc' H2, Ex Hc Hc' → W Hc' H2 → P v Hc' → Q v H2) → te σ H1 Q
def EWT (W : Hp → Hp → Prop) (t : TT) (σ : L2.St) (Hc : Hp) (P : Bool → Hp → Prop) : Prop := ∀ H1, W Hc H1 → ∀ Q : Bool → Hp → Prop, (∀ b Hc' H2, Ex Hc Hc' → W Hc' H2 → P b Hc' → Q b H2) → t σ H1 Q
def EWA (W : Hp → Hp → Prop) (t : TA) (σ : L2.St) (Hc : Hp) (P : List V → Hp → Prop) : Prop := ∀ H1, W Hc H1 → ∀ Q : List V → Hp → Prop, (∀ vs Hc' H2, Ex Hc Hc' → W Hc' H2 → P vs Hc' → Q vs H2) → t σ H1 Q
/-- an operation, a call on values -/
def RW (W : Hp → Hp → Prop) (r : R2) (x y : V) (Hc : Hp) (P : V → Hp → Prop) : Prop := ∀ H1, W Hc H1 → ∀ Q : VK, (∀ v Hc' H2, Ex Hc Hc' → W Hc' H2 → P v Hc' → Q v H2) → r x y H1 Q
def CW (W : Hp → Hp → Prop) (r : List V → Hp → VK → Prop) (vs : List V) (Hc : Hp) (P : V → Hp → Prop) : Prop := ∀ H1, W Hc H1 → ∀ Q : VK, (∀ v Hc' H2, Ex Hc Hc' → W Hc' H2 → P v Hc' → Q v H2) → r vs H1 Q
def SpW (W : Hp → Hp → Prop) (sp : Sp) (vs : List V) (Hc : Hp) (P : V → Hp → Prop) : Prop := ∀ H1, W Hc H1 → ∀ (Q : VK) (E : XK), (∀ v Hc' H2, Ex Hc Hc' → W Hc' H2 → P v Hc' → Q v H2) → sp vs H1 Q E
abbrev isV (v : V) : V → Hp → Prop := fun v' _ => v' = v
abbrev isL (Hc : Hp) (xs : List V) : V → Hp → Prop := fun v' H' => ∃ p, Hc p = none ∧ v' = .ref p ∧ H' p = some (.lst xs)
abbrev isU (Hc : Hp) (xs : List V) : V → Hp → Prop := fun v' H' => ∃ p, Hc p = none ∧ v' = .ref p ∧ H' p = some (.tup xs)
theorem EW.imp (h : EW W te σ Hc P) (k : ∀ v H', Ex Hc H' → P v H' → P' v H') : EW W te σ Hc P' := fun H1 w Q q => h H1 w Q fun v Hc' H2 e w2 p => q v Hc' H2 e w2 (k v Hc' e p)
theorem SpW.imp {sp : Sp} {vs : List V} (h : SpW W sp vs Hc P) (k : ∀ v H', Ex Hc H' → P v H' → P' v H') : SpW W sp vs Hc P' := fun H1 w Q E q => h H1 w Q E fun v Hc' H2 e w2 p => q v Hc' H2 e w2 (k v Hc' e p)
theorem ew (w : Wld W) (h : Ev te σ Hc v) : EW W te σ Hc (isV v) := fun H1 w1 Q q => h H1 (w.ex w1) Q fun H2 e => q v Hc H2 (Ex.refl _) (w.grow w1 e) rfl
theorem ewL (w : Wld W) (h : EvL te σ Hc xs) : EW W te σ Hc (isL Hc xs) := fun H1 w1 Q q => h H1 (w.ex w1) Q fun p H2 n e hp => by
  have n0 := fresh_back (w.ex w1) n
  exact q (.ref p) _ H2 (Ex.new n0) (w.add w1 n e hp) ⟨p, n0, rfl, upd_same⟩
theorem ewU (w : Wld W) (h : EvU te σ Hc xs) : EW W te σ Hc (isU Hc xs) := fun H1 w1 Q q => h H1 (w.ex w1) Q fun p H2 n e hp => by
  have n0 := fresh_back (w.ex w1) n
  exact q (.ref p) _ H2 (Ex.new n0) (w.add w1 n e hp) ⟨p, n0, rfl, upd_same⟩
theorem ewT (w : Wld W) {b : Bool} (h : EvT t σ Hc b) : EWT W t σ Hc (fun b' _ => b' = b) := fun H1 w1 Q q => h H1 (w.ex w1) Q fun H2 e => q b Hc H2 (Ex.refl _) (w.grow w1 e) rfl
theorem rw_of (w : Wld W) {r : R2} (h : RV r x y Hc v) : RW W r x y Hc (isV v) := fun H1 w1 Q q => h H1 (w.ex w1) Q fun H2 e => q v Hc H2 (Ex.refl _) (w.grow w1 e) rfl
theorem ew_op {r : R2} {P1 : V → Hp → Prop} {P2 : V → V → Hp → Prop} (ha : EW W ta σ Hc P1) (hb : ∀ x H1, Ex Hc H1 → P1 x H1 → EW W tb σ H1 (P2 x)) (hr : ∀ x y H1 H2, Ex Hc H1 → P1 x H1 → Ex H1 H2 → P2 x y H2 → RW W r x y H2 P) : EW W (tOp r ta tb) σ Hc P :=
  fun H1 w1 Q q => ha H1 w1 _ fun x Hc1 H2 e1 w2 p1 => hb x Hc1 e1 p1 H2 w2 _ fun y Hc2 H3 e2 w3 p2 => hr x y Hc1 Hc2 e1 p1 e2 p2 H3 w3 Q fun v Hc3 H4 e3 w4 p => q v Hc3 H4 ((e1.trans e2).trans e3) w4 p
theorem ew_call {sp : Sp} {ts : TA} {E : XK} {P1 : List V → Hp → Prop} (ha : EWA W ts σ Hc P1) (hs : ∀ vs H1, Ex Hc H1 → P1 vs H1 → SpW W sp (vs ++ []) H1 P) : EW W (tCall sp [] E ts) σ Hc P :=
  fun H1 w1 Q q => ha H1 w1 _ fun vs Hc1 H2 e1 w2 p1 => hs vs Hc1 e1 p1 H2 w2 Q E fun v Hc2 H3 e2 w3 p2 => q v Hc2 H3 (e1.trans e2) w3 p2
theorem ew_cb {r : List V → Hp → VK → Prop} {ts : TA} {P1 : List V → Hp → Prop} (ha : EWA W ts σ Hc P1) (hs : ∀ vs H1, Ex Hc H1 → P1 vs H1 → CW W r vs H1 P) : EW W (tCB r ts) σ Hc P :=
  fun H1 w1 Q q => ha H1 w1 _ fun vs Hc1 H2 e1 w2 p1 => hs vs Hc1 e1 p1 H2 w2 Q fun v Hc2 H3 e2 w3 p2 => q v Hc2 H3 (e1.trans e2) w3 p2
theorem ewa_nil : EWA W tNil σ Hc (fun vs _ => vs = []) := fun H1 w1 Q q => q [] Hc H1 (Ex.refl _) w1 rfl
theorem ewa_of (w : Wld W) {ts : TA} {vs : List V} (h : EvA ts σ Hc vs) : EWA W ts σ Hc (fun vs' _ => vs' = vs) := fun H1 w1 Q q => h H1 (w.ex w1) Q fun H2 e => q vs Hc H2 (Ex.refl _) (w.grow w1 e) rfl
theorem ewa_cons {ts : TA} {P1 : V → Hp → Prop} {P2 : V → List V → Hp → Prop} {PL : List V → Hp → Prop} (ha : EW W te σ Hc P1) (hb : ∀ x H1, Ex Hc H1 → P1 x H1 → EWA W ts σ H1 (P2 x)) (k : ∀ x vs H1 H2, Ex Hc H1 → P1 x H1 → Ex H1 H2 → P2 x vs H2 → PL (x :: vs) H2) : EWA W (tCons te ts) σ Hc PL :=
  fun H1 w1 Q q => ha H1 w1 _ fun x Hc1 H2 e1 w2 p1 => hb x Hc1 e1 p1 H2 w2 _ fun vs Hc2 H3 e2 w3 p2 => q (x :: vs) Hc2 H3 (e1.trans e2) w3 (k x vs Hc1 Hc2 e1 p1 e2 p2)
/-! ### statements -/
variable {D : Ends} {tu tw tz : TS} {i : Nat}
theorem w_set (h : EW W te σ Hc P) (w1 : W Hc H) (k : ∀ v Hc' H', Ex Hc Hc' → W Hc' H' → P v Hc' → tz D (σ.set i (some v)) H') : tSeq (tAsg te (gName i)) tz D σ H := h H w1 _ k
theorem w_set1 (h : EW W te σ Hc P) (w1 : W Hc H) (k : ∀ v Hc' H', Ex Hc Hc' → W Hc' H' → P v Hc' → D.nx (σ.set i (some v)) H') : tAsg te (gName i) D σ H := h H w1 _ k
theorem w_ret (h : EW W te σ Hc P) (w1 : W Hc H) (k : ∀ v Hc' H', Ex Hc Hc' → W Hc' H' → P v Hc' → D.rt v H') : tRet te D σ H := h H w1 _ k
theorem w_drop (h : EW W te σ Hc P) (w1 : W Hc H) (k : ∀ v Hc' H', Ex Hc Hc' → W Hc' H' → P v Hc' → tz D σ H') : tSeq (tDrop te) tz D σ H := h H w1 _ k
theorem w_drop1 (h : EW W te σ Hc P) (w1 : W Hc H) (k : ∀ v Hc' H', Ex Hc Hc' → W Hc' H' → P v Hc' → D.nx σ H') : tDrop te D σ H := h H w1 _ k
theorem w_if {PT : Bool → Hp → Prop} (h : EWT W t σ Hc PT) (w1 : W Hc H) (k1 : ∀ Hc' H', Ex Hc Hc' → W Hc' H' → PT true Hc' → tu { D with nx := tz D } σ H') (k2 : ∀ Hc' H', Ex Hc Hc' → W Hc' H' → PT false Hc' → tw { D with nx := tz D } σ H') : tSeq (tIfS t tu tw) tz D σ H :=
  h H w1 _ fun b Hc' H' e w2 p => by
    cases b with
    | true => exact iteT (k1 Hc' H' e w2 p)
    | false => exact iteF (k2 Hc' H' e w2 p)
theorem w_if1 {PT : Bool → Hp → Prop} (h : EWT W t σ Hc PT) (w1 : W Hc H) (k1 : ∀ Hc' H', Ex Hc Hc' → W Hc' H' → PT true Hc' → tu D σ H') (k2 : ∀ Hc' H', Ex Hc Hc' → W Hc' H' → PT false Hc' → tw D σ H') : tIfS t tu tw D σ H :=
  h H w1 _ fun b Hc' H' e w2 p => by
    cases b with
    | true => exact iteT (k1 Hc' H' e w2 p)
    | false => exact iteF (k2 Hc' H' e w2 p)
end
end KK
set_option maxHeartbeats 4000000
/-! Comprehensions and loops in a world. -/
namespace KK
open PySem PySem.Spec PyProof.Rows L2 Evl
/-- tuples stay -/
def TEx (H H' : Hp) : Prop := ∀ b xs, H b = some (.tup xs) → H' b = some (.tup xs)
theorem TEx.of {H H' : Hp} (e : Ex H H') : TEx H H' := fun b xs h => e b _ h
theorem TEx.list {H : Hp} {p : Addr} {xs ys : List V} (h : H p = some (.lst xs)) : TEx H (upd H p (.lst ys)) := fun b zs q => by
  rw [upd_ne (ne_of q h (by intro z; cases z))]
  exact q
theorem TEx.trans {H H1 H2 : Hp} (a : TEx H H1) (b : TEx H1 H2) : TEx H H2 := fun c xs h => b c xs (a c xs h)
/-- what a comprehension has made -/
abbrev MadeL (Hc : Hp) (PA : List V → Hp → Prop) : V → Hp → Prop := fun v H' => ∃ D acc, Hc D = none ∧ v = .ref D ∧ H' D = some (.lst acc) ∧ PA acc H'
/-- within a comprehension: at Dl the list so far -/
def Lw (W : Hp → Hp → Prop) (Hc : Hp) (Dl : Addr) (PA : Nat → List V → Hp → Prop) (i : Nat) (H : Hp) : Prop := ∃ Hk acc, Ex Hc Hk ∧ W Hk H ∧ Hk Dl = some (.lst acc) ∧ acc.length ≤ i ∧ PA i acc Hk
section
variable {W : Hp → Hp → Prop} {K : PySem.W.Frag} {Hc H : Hp} {σ : L2.St} {te tl : TE} {tt : TT} {vs : List Nat} {j : Nat} {PA : Nat → List V → Hp → Prop}
/-- one turn -/
theorem lw_turn (w : Wld W) {Dl : Addr} {i : Nat} {σ2 : L2.St} (hD : Hc Dl = none) (hm : ∀ i acc H H', TEx H H' → PA i acc H → PA i acc H') (hi : i < 50000) (p : Lw W Hc Dl PA i H)
    (h : ∀ acc Hk, Ex Hc Hk → PA i acc Hk → EWT W tt σ2 Hk fun b H2 => if b = true then EW W te σ2 H2 fun y H3 => PA (i + 1) (acc ++ [y]) H3 else PA (i + 1) acc H2) :
    tt σ2 H fun b H3 => if b = true then te σ2 H3 fun y H4 => ∃ acc, H4 Dl = some (.lst acc) ∧ acc.length < sizeLine ∧ Lw W Hc Dl PA (i + 1) (upd H4 Dl (.lst (acc ++ [y]))) else Lw W Hc Dl PA (i + 1) H3 := by
  obtain ⟨Hk, acc, e0, w0, hd, hl, pa⟩ := p
  refine h acc Hk e0 pa H w0 _ fun b Hc1 H1 e1 w1 pb => ?_
  cases b with
  | false =>
    show Lw W Hc Dl PA (i + 1) H1
    exact ⟨Hc1, acc, e0.trans e1, w1, e1 _ _ hd, Nat.le_succ_of_le hl, pb⟩
  | true =>
    show te σ2 H1 fun y H4 => ∃ acc, H4 Dl = some (.lst acc) ∧ acc.length < sizeLine ∧ Lw W Hc Dl PA (i + 1) (upd H4 Dl (.lst (acc ++ [y])))
    refine pb H1 w1 _ fun y Hc2 H2 e2 w2 py => ?_
    have hd2 := e2 _ _ (e1 _ _ hd)
    refine ⟨acc, w.ex w2 _ _ hd2, Nat.lt_of_le_of_lt hl (Nat.lt_trans hi (by decide)), upd Hc2 Dl (.lst (acc ++ [y])), acc ++ [y], ?_, w.set w2 hd2 (fun _ z => by cases z), upd_same, ?_, hm _ _ _ _ (TEx.list hd2) py⟩
    · exact Ex.mut ((e0.trans e1).trans e2) hD
    · rw [List.length_append, List.length_singleton]
      omega
theorem lw_start (w : Wld W) {Hc' : Hp} {Dl : Addr} (e : Ex Hc Hc') (w1 : W Hc' H) (hD : H Dl = none) (h0 : ∀ H', Ex Hc H' → PA 0 [] H') : Lw W Hc' Dl PA 0 (upd H Dl (.lst [])) := by
  have n0 := fresh_back (w.ex w1) hD
  exact ⟨upd Hc' Dl (.lst []), [], Ex.new n0, w.add w1 hD (Ex.new hD) upd_same, upd_same, Nat.le_refl _, h0 _ (e.trans (Ex.new n0))⟩
theorem ew_lcL {a : Addr} {xs : List V} (w : Wld W) (hl : EW W tl σ Hc fun v H' => v = .ref a ∧ SqL K H' a xs) (hz : xs.length < 50000) (hw : ∀ x, wipe ((wipe σ vs).set j (some x)) vs = wipe σ vs) (hm : ∀ i acc H H', TEx H H' → PA i acc H → PA i acc H')
    (h0 : ∀ H', Ex Hc H' → PA 0 [] H')
    (hs : ∀ i x acc Hk, xs[i]? = some x → Ex Hc Hk → PA i acc Hk → EWT W tt ((wipe σ vs).set j (some x)) Hk fun b H2 => if b = true then EW W te ((wipe σ vs).set j (some x)) H2 fun y H3 => PA (i + 1) (acc ++ [y]) H3 else PA (i + 1) acc H2) :
    EW W (tLc (iList K tl) (gName j) tt te vs) σ Hc (MadeL Hc (PA xs.length)) := fun H1 w1 Q q => hl H1 w1 _ fun v Hc1 H2 e1 w2 ⟨ev, hx⟩ => by
  subst ev
  refine ⟨a, rfl, ⟨xs, ex_l (w.ex w2) hx⟩, fun Dl hD => lc_list (xs := xs) (Lw W Hc1 Dl PA) (lw_start w e1 w2 hD h0) (fun i H' _ ⟨Hk, _, e, wk, _⟩ => ex_l (w.ex wk) (ex_l e hx))
    (fun i x H' hi p => ⟨hw x, lw_turn w (fresh_back (w.ex w2) hD) hm (by have := (List.getElem?_eq_some_iff.mp hi).1; omega) p fun acc Hk e pa => hs i x acc Hk hi (e1.trans e) pa⟩) (fun H' ⟨Hk, acc, e, wk, hd, _, pa⟩ => ?_)⟩
  exact q _ Hk H' (e1.trans e) wk ⟨Dl, acc, fresh_back e1 (fresh_back (w.ex w2) hD), rfl, hd, pa⟩
/-- over a list that was just made -/
theorem ew_lcN {xs : List V} (w : Wld W) (hl : EW W tl σ Hc fun v H' => ∃ a, v = .ref a ∧ SqL K H' a xs) (hz : xs.length < 50000) (hw : ∀ x, wipe ((wipe σ vs).set j (some x)) vs = wipe σ vs) (hm : ∀ i acc H H', TEx H H' → PA i acc H → PA i acc H')
    (h0 : ∀ H', Ex Hc H' → PA 0 [] H')
    (hs : ∀ i x acc Hk, xs[i]? = some x → Ex Hc Hk → PA i acc Hk → EWT W tt ((wipe σ vs).set j (some x)) Hk fun b H2 => if b = true then EW W te ((wipe σ vs).set j (some x)) H2 fun y H3 => PA (i + 1) (acc ++ [y]) H3 else PA (i + 1) acc H2) :
    EW W (tLc (iList K tl) (gName j) tt te vs) σ Hc (MadeL Hc (PA xs.length)) := fun H1 w1 Q q => hl H1 w1 _ fun v Hc1 H2 e1 w2 ⟨a, ev, hx⟩ => by
  subst ev
  refine ⟨a, rfl, ⟨xs, ex_l (w.ex w2) hx⟩, fun Dl hD => lc_list (xs := xs) (Lw W Hc1 Dl PA) (lw_start w e1 w2 hD h0) (fun i H' _ ⟨Hk, _, e, wk, _⟩ => ex_l (w.ex wk) (ex_l e hx))
    (fun i x H' hi p => ⟨hw x, lw_turn w (fresh_back (w.ex w2) hD) hm (by have := (List.getElem?_eq_some_iff.mp hi).1; omega) p fun acc Hk e pa => hs i x acc Hk hi (e1.trans e) pa⟩) (fun H' ⟨Hk, acc, e, wk, hd, _, pa⟩ => ?_)⟩
  exact q _ Hk H' (e1.trans e) wk ⟨Dl, acc, fresh_back e1 (fresh_back (w.ex w2) hD), rfl, hd, pa⟩
theorem ew_lcT {a : Addr} {xs : List V} (w : Wld W) (hl : EW W tl σ Hc fun v H' => v = .ref a ∧ SqT K H' a xs) (hz : xs.length < 50000) (hw : ∀ x, wipe ((wipe σ vs).set j (some x)) vs = wipe σ vs) (hm : ∀ i acc H H', TEx H H' → PA i acc H → PA i acc H')
    (h0 : ∀ H', Ex Hc H' → PA 0 [] H')
    (hs : ∀ i x acc Hk, xs[i]? = some x → Ex Hc Hk → PA i acc Hk → EWT W tt ((wipe σ vs).set j (some x)) Hk fun b H2 => if b = true then EW W te ((wipe σ vs).set j (some x)) H2 fun y H3 => PA (i + 1) (acc ++ [y]) H3 else PA (i + 1) acc H2) :
    EW W (tLc (iTup K tl) (gName j) tt te vs) σ Hc (MadeL Hc (PA xs.length)) := fun H1 w1 Q q => hl H1 w1 _ fun v Hc1 H2 e1 w2 ⟨ev, hx⟩ => by
  subst ev
  refine ⟨a, rfl, ⟨xs, ex_t (w.ex w2) hx⟩, fun Dl hD => lc_tup (xs := xs) (Lw W Hc1 Dl PA) (lw_start w e1 w2 hD h0) (fun i H' _ ⟨Hk, _, e, wk, _⟩ => ex_t (w.ex wk) (ex_t e hx))
    (fun i x H' hi p => ⟨hw x, lw_turn w (fresh_back (w.ex w2) hD) hm (by have := (List.getElem?_eq_some_iff.mp hi).1; omega) p fun acc Hk e pa => hs i x acc Hk hi (e1.trans e) pa⟩) (fun H' ⟨Hk, acc, e, wk, hd, _, pa⟩ => ?_)⟩
  exact q _ Hk H' (e1.trans e) wk ⟨Dl, acc, fresh_back e1 (fresh_back (w.ex w2) hD), rfl, hd, pa⟩
theorem ew_lcR {ta : TA} {n : Nat} (w : Wld W) (hl : EWA W ta σ Hc fun us _ => us = [.int (n : Int)]) (hz : n < 50000) (hw : ∀ x, wipe ((wipe σ vs).set j (some x)) vs = wipe σ vs) (hm : ∀ i acc H H', TEx H H' → PA i acc H → PA i acc H')
    (h0 : ∀ H', Ex Hc H' → PA 0 [] H')
    (hs : ∀ (i : Nat) acc Hk, i < n → Ex Hc Hk → PA i acc Hk → EWT W tt ((wipe σ vs).set j (some (.int (i : Int)))) Hk fun b H2 => if b = true then EW W te ((wipe σ vs).set j (some (.int (i : Int)))) H2 fun y H3 => PA (i + 1) (acc ++ [y]) H3 else PA (i + 1) acc H2) :
    EW W (tLc (iRng1 ta) (gName j) tt te vs) σ Hc (MadeL Hc (PA n)) := fun H1 w1 Q q => hl H1 w1 _ fun us Hc1 H2 e1 w2 eu => by
  subst eu
  refine ⟨(n : Int), rfl, by omega, by omega, fun Dl hD => ?_⟩
  refine lc_range (lo := 0) (n := ((n : Int)).toNat) (Lw W Hc1 Dl PA) (lw_start w e1 w2 hD h0)
    (fun i H' hi p => ⟨hw _, ?_⟩) (fun H' ⟨Hk, acc, e, wk, hd, _, pa⟩ => ?_)
  · rw [Int.toNat_natCast] at hi
    have z := lw_turn w (fresh_back (w.ex w2) hD) hm (by omega) p fun acc Hk e pa => hs i acc Hk hi (e1.trans e) pa
    have e0 : (0 : Int) + (i : Int) = (i : Int) := Int.zero_add _
    rw [e0]
    exact z
  · rw [Int.toNat_natCast] at pa
    exact q _ Hk H' (e1.trans e) wk ⟨Dl, acc, fresh_back e1 (fresh_back (w.ex w2) hD), rfl, hd, pa⟩
/-- over a text, sign by sign -/
theorem ew_lcS {z : Str} (w : Wld W) (hl : EW W tl σ Hc fun v _ => v = .str z) (hz : z.cps.size < 50000) (hw : ∀ x, wipe ((wipe σ vs).set j (some x)) vs = wipe σ vs) (hm : ∀ i acc H H', TEx H H' → PA i acc H → PA i acc H')
    (h0 : ∀ H', Ex Hc H' → PA 0 [] H')
    (hs : ∀ i c acc Hk, z.cps[i]? = some c → Ex Hc Hk → PA i acc Hk → EWT W tt ((wipe σ vs).set j (some (.str ⟨#[c]⟩))) Hk fun b H2 => if b = true then EW W te ((wipe σ vs).set j (some (.str ⟨#[c]⟩))) H2 fun y H3 => PA (i + 1) (acc ++ [y]) H3 else PA (i + 1) acc H2) :
    EW W (tLc (iStr tl) (gName j) tt te vs) σ Hc (MadeL Hc (PA z.cps.size)) := fun H1 w1 Q q => hl H1 w1 _ fun v Hc1 H2 e1 w2 ev => by
  subst ev
  refine ⟨z, rfl, fun Dl hD => lc_it walk_str (Lw W Hc1 Dl PA) (lw_start w e1 w2 hD h0) (fun i H' _ _ => True.intro) (fun i x H' H'' hi p hy => ?_) (fun H' ⟨Hk, acc, e, wk, hd, _, pa⟩ => ?_)⟩
  · obtain ⟨rfl, c, hc, rfl⟩ := hy
    exact ⟨hw _, lw_turn w (fresh_back (w.ex w2) hD) hm (by omega) p fun acc Hk e pa => hs i c acc Hk hc (e1.trans e) pa⟩
  · exact q _ Hk H' (e1.trans e) wk ⟨Dl, acc, fresh_back e1 (fresh_back (w.ex w2) hD), rfl, hd, pa⟩
/-! ### loops -/
variable {D : Ends} {tu tz : TS} {g : TG} {Pv : Nat → L2.St → Hp → Prop}
/-- what a turn is to reach -/
abbrev Nxt (W : Hp → Hp → Prop) (Pv : Nat → L2.St → Hp → Prop) (i : Nat) : L2.St → Hp → Prop := fun σ' H' => ∃ Hk, W Hk H' ∧ Pv i σ' Hk
theorem w_forL {a : Addr} {xs : List V} (w : Wld W) (w1 : W Hc H) (hl : EW W tl σ Hc fun v H' => v = .ref a) (h0 : ∀ Hk, Ex Hc Hk → Pv 0 σ Hk) (hk : ∀ i σ' Hk, Pv i σ' Hk → SqL K Hk a xs)
    (hs : ∀ i x σ' Hk H', xs[i]? = some x → Pv i σ' Hk → W Hk H' → tu { D with nx := Nxt W Pv (i + 1), ct := Nxt W Pv (i + 1), bk := tz D } (σ'.set j (some x)) H') (hd : ∀ σ' Hk H', Pv xs.length σ' Hk → W Hk H' → tz D σ' H') :
    tSeq (tFor (iList K tl) (gName j) tu) tz D σ H := hl H w1 _ fun v Hc1 H2 e1 w2 ev => by
  subst ev
  exact ⟨a, rfl, ⟨xs, ex_l (w.ex w2) (hk 0 σ Hc1 (h0 Hc1 e1))⟩, for_list (Nxt W Pv) ⟨Hc1, w2, h0 Hc1 e1⟩ (fun i σ' H' _ ⟨Hk, wk, p⟩ => ex_l (w.ex wk) (hk i σ' Hk p)) (fun i x σ' H' hi ⟨Hk, wk, p⟩ => hs i x σ' Hk H' hi p wk) (fun σ' H' ⟨Hk, wk, p⟩ => hd σ' Hk H' p wk)⟩
/-- over a list that the world holds -/
theorem w_forLW {a : Addr} {xs : List V} (w : Wld W) (w1 : W Hc H) (hl : EW W tl σ Hc fun v H' => v = .ref a) (h0 : ∀ Hk, Ex Hc Hk → Pv 0 σ Hk) (hk : ∀ i σ' Hk H', Pv i σ' Hk → W Hk H' → SqL K H' a xs)
    (hs : ∀ i x σ' Hk H', xs[i]? = some x → Pv i σ' Hk → W Hk H' → tu { D with nx := Nxt W Pv (i + 1), ct := Nxt W Pv (i + 1), bk := tz D } (σ'.set j (some x)) H') (hd : ∀ σ' Hk H', Pv xs.length σ' Hk → W Hk H' → tz D σ' H') :
    tSeq (tFor (iList K tl) (gName j) tu) tz D σ H := hl H w1 _ fun v Hc1 H2 e1 w2 ev => by
  subst ev
  exact ⟨a, rfl, ⟨xs, hk 0 σ Hc1 _ (h0 Hc1 e1) w2⟩, for_list (Nxt W Pv) ⟨Hc1, w2, h0 Hc1 e1⟩ (fun i σ' H' _ ⟨Hk, wk, p⟩ => hk i σ' Hk H' p wk) (fun i x σ' H' hi ⟨Hk, wk, p⟩ => hs i x σ' Hk H' hi p wk) (fun σ' H' ⟨Hk, wk, p⟩ => hd σ' Hk H' p wk)⟩
theorem w_forT {a : Addr} {xs : List V} (w : Wld W) (w1 : W Hc H) (hl : EW W tl σ Hc fun v H' => v = .ref a) (h0 : ∀ Hk, Ex Hc Hk → Pv 0 σ Hk) (hk : ∀ i σ' Hk, Pv i σ' Hk → SqT K Hk a xs)
    (hs : ∀ i x σ' Hk H', xs[i]? = some x → Pv i σ' Hk → W Hk H' → tu { D with nx := Nxt W Pv (i + 1), ct := Nxt W Pv (i + 1), bk := tz D } (σ'.set j (some x)) H') (hd : ∀ σ' Hk H', Pv xs.length σ' Hk → W Hk H' → tz D σ' H') :
    tSeq (tFor (iTup K tl) (gName j) tu) tz D σ H := hl H w1 _ fun v Hc1 H2 e1 w2 ev => by
  subst ev
  exact ⟨a, rfl, ⟨xs, ex_t (w.ex w2) (hk 0 σ Hc1 (h0 Hc1 e1))⟩, for_tup (Nxt W Pv) ⟨Hc1, w2, h0 Hc1 e1⟩ (fun i σ' H' _ ⟨Hk, wk, p⟩ => ex_t (w.ex wk) (hk i σ' Hk p)) (fun i x σ' H' hi ⟨Hk, wk, p⟩ => hs i x σ' Hk H' hi p wk) (fun σ' H' ⟨Hk, wk, p⟩ => hd σ' Hk H' p wk)⟩
theorem w_forR {ta : TA} {n : Nat} (w : Wld W) (w1 : W Hc H) (hl : EWA W ta σ Hc fun us _ => us = [.int (n : Int)]) (hz : n < 50000) (h0 : ∀ Hk, Ex Hc Hk → Pv 0 σ Hk)
    (hs : ∀ (i : Nat) σ' Hk H', i < n → Pv i σ' Hk → W Hk H' → tu { D with nx := Nxt W Pv (i + 1), ct := Nxt W Pv (i + 1), bk := tz D } (σ'.set j (some (.int (i : Int)))) H') (hd : ∀ σ' Hk H', Pv n σ' Hk → W Hk H' → tz D σ' H') :
    tSeq (tFor (iRng1 ta) (gName j) tu) tz D σ H := hl H w1 _ fun us Hc1 H2 e1 w2 eu => by
  subst eu
  refine ⟨(n : Int), rfl, by omega, by omega, for_range (lo := 0) (n := ((n : Int)).toNat) (Nxt W Pv) ⟨Hc1, w2, h0 Hc1 e1⟩ (fun i σ' H' hi ⟨Hk, wk, p⟩ => ?_) (fun σ' H' ⟨Hk, wk, p⟩ => ?_)⟩
  · rw [Int.toNat_natCast] at hi
    have e0 : (0 : Int) + (i : Int) = (i : Int) := Int.zero_add _
    rw [e0]
    exact hs i σ' Hk H' hi p wk
  · rw [Int.toNat_natCast] at p
    exact hd σ' Hk H' p wk
/-- an item appended to a list of one's own -/
theorem w_app {l : Addr} {xs : List V} {ta : TE} {P : V → Hp → Prop} (w : Wld W) (w1 : W Hc H) (ha : Ev ta σ Hc (.ref l)) (hl : Hc l = some (.lst xs)) (he : EW W te σ Hc P) (hz : xs.length < 100000)
    (k : ∀ v Hc' H', Ex Hc Hc' → W Hc' H' → P v Hc' → tz D σ (upd H' l (.lst (xs ++ [v])))) : tSeq (tDrop (tBM K "list" rAppend ta (tCons te tNil))) tz D σ H :=
  ha H (w.ex w1) _ fun H1 e1 => ⟨.inl ⟨rfl, xs, SqL.of (e1 _ _ (w.ex w1 _ _ hl))⟩, he H1 (w.grow w1 e1) _ fun v Hc' H' e w2 p => ⟨l, xs, v, rfl, rfl, w.ex w2 _ _ (e _ _ hl), Nat.lt_of_lt_of_le hz (by decide), k v Hc' H' e w2 p⟩⟩
theorem w_app1 {l : Addr} {xs : List V} {ta : TE} {P : V → Hp → Prop} (w : Wld W) (w1 : W Hc H) (ha : Ev ta σ Hc (.ref l)) (hl : Hc l = some (.lst xs)) (he : EW W te σ Hc P) (hz : xs.length < 100000)
    (k : ∀ v Hc' H', Ex Hc Hc' → W Hc' H' → P v Hc' → D.nx σ (upd H' l (.lst (xs ++ [v])))) : tDrop (tBM K "list" rAppend ta (tCons te tNil)) D σ H :=
  ha H (w.ex w1) _ fun H1 e1 => ⟨.inl ⟨rfl, xs, SqL.of (e1 _ _ (w.ex w1 _ _ hl))⟩, he H1 (w.grow w1 e1) _ fun v Hc' H' e w2 p => ⟨l, xs, v, rfl, rfl, w.ex w2 _ _ (e _ _ hl), Nat.lt_of_lt_of_le hz (by decide), k v Hc' H' e w2 p⟩⟩
end
end KK
set_option maxHeartbeats 4000000
/-! Single expressions: what they give. -/
namespace KK
open PySem PySem.Spec PyProof.Rows L2 Evl
section
variable {W : Hp → Hp → Prop} {K : PySem.W.Frag} {Hc H : Hp} {σ : L2.St} {ta tb tc te : TE} {v x y : V} {xs ys : List V}
/-! ### isinstance -/
theorem ev_isiS {z : Str} (h : Ev ta σ H (.str z)) : Ev (tCB (rIsi K) (tCons ta (tCons (tC (.ty "str")) tNil))) σ H (.bl true) :=
  fun H1 e Q q => h H1 e _ fun H2 e2 => ⟨.str z, .ty "str", .type "str", .type "str", true, rfl, .ty _, .base (.str z), kit_ty (by decide +kernel), q H2 e2⟩
theorem ev_isiT {a : Addr} (h : Ev ta σ H (.ref a)) (ha : H a = some (.tup xs)) : Ev (tCB (rIsi K) (tCons ta (tCons (tC (.ty "tuple")) tNil))) σ H (.bl true) :=
  fun H1 e Q q => h H1 e _ fun H2 e2 => ⟨.ref a, .ty "tuple", .type "tuple", .type "tuple", true, rfl, .ty _, .base (.tup (e2 _ _ (e _ _ ha))), kit_ty (by decide +kernel), q H2 e2⟩
/-! ### 1 <= n <= m -/
theorem et_chainLe {i j l : Int} (ha : Ev ta σ H (.int i)) (hb : Ev tb σ H (.int j)) (hc : Ev tc σ H (.int l)) (h1 : i ≤ j) (h2 : j ≤ l) :
    EvT (tTest (tChain (rI0 fun i j => V.bl (decide (i ≤ j))) (rI0 fun i j => V.bl (decide (i ≤ j))) ta tb tc)) σ H true :=
  fun H1 e Q q => ha H1 e _ fun H2 e2 => hb H2 (e.trans e2) _ fun H3 e3 => ⟨i, j, rfl, rfl, true, congrArg V.bl (decide_eq_true h1), iteT (hc H3 ((e.trans e2).trans e3) _ fun H4 e4 => ⟨j, l, rfl, rfl, true, congrArg V.bl (decide_eq_true h2), q H4 ((e2.trans e3).trans e4)⟩)⟩
abbrev rLenStr : List V → Hp → VK → Prop := fun xs H Q => ∃ z, xs = [.str z] ∧ z.length ≤ sizeLine ∧ Q (.int z.length) H
theorem ev_lenS {z : Str} (h : Ev ta σ H (.str z)) (hz : z.length ≤ sizeLine) : Ev (tCB rLenStr (tCons ta tNil)) σ H (.int z.length) :=
  fun H1 e Q q => h H1 e _ fun H2 e2 => ⟨z, rfl, hz, q H2 e2⟩
abbrev rLenSeq (K : PySem.W.Frag) : List V → Hp → VK → Prop := fun xs H Q => ∃ p ys, xs = [.ref p] ∧ (SqL K H p ys ∨ SqT K H p ys) ∧ Q (.int ys.length) H
theorem ev_lenL {a : Addr} (h : Ev ta σ H (.ref a)) (ha : SqL K H a xs) : Ev (tCB (rLenSeq K) (tCons ta tNil)) σ H (.int (xs.length : Int)) :=
  fun H1 e Q q => h H1 e _ fun H2 e2 => ⟨a, xs, rfl, .inl (ex_l (e.trans e2) ha), q H2 e2⟩
theorem ev_lenT {a : Addr} (h : Ev ta σ H (.ref a)) (ha : SqT K H a xs) : Ev (tCB (rLenSeq K) (tCons ta tNil)) σ H (.int (xs.length : Int)) :=
  fun H1 e Q q => h H1 e _ fun H2 e2 => ⟨a, xs, rfl, .inr (ex_t (e.trans e2) ha), q H2 e2⟩
/-! ### all, any -/
theorem ew_all {PB : List Bool → Prop} (w : Wld W) (h : EW W te σ Hc fun v H' => ∃ p bs, v = .ref p ∧ H' p = some (.lst (bs.map V.bl)) ∧ PB bs) : EW W (tCB (rAll K) (tCons te tNil)) σ Hc fun v _ => ∃ bs, PB bs ∧ v = .bl (bs.all id) :=
  fun H1 w1 Q q => h H1 w1 _ fun v Hc1 H2 e w2 ⟨p, bs, ev, hp, pb⟩ => ⟨p, bs, by rw [ev], SqL.of (w.ex w2 _ _ hp), q _ Hc1 H2 e w2 ⟨bs, pb, rfl⟩⟩
theorem ew_any {PB : List Bool → Prop} (w : Wld W) (h : EW W te σ Hc fun v H' => ∃ p bs, v = .ref p ∧ H' p = some (.lst (bs.map V.bl)) ∧ PB bs) : EW W (tCB (rAny K) (tCons te tNil)) σ Hc fun v _ => ∃ bs, PB bs ∧ v = .bl (bs.any id) :=
  fun H1 w1 Q q => h H1 w1 _ fun v Hc1 H2 e w2 ⟨p, bs, ev, hp, pb⟩ => ⟨p, bs, by rw [ev], SqL.of (w.ex w2 _ _ hp), q _ Hc1 H2 e w2 ⟨bs, pb, rfl⟩⟩
/-- all of a list that is True so many times -/
theorem ew_allT {n : Nat} (w : Wld W) (h : EW W te σ Hc (MadeL Hc fun acc _ => acc = List.replicate n (V.bl true))) : EW W (tCB (rAll K) (tCons te tNil)) σ Hc (isV (.bl true)) := by
  refine (ew_all (PB := fun bs => bs = List.replicate n true) w (h.imp fun v H' _ ⟨D, acc, _, ev, hd, pa⟩ => ⟨D, List.replicate n true, ev, by rw [hd, pa, List.map_replicate], rfl⟩)).imp fun v H' _ ⟨bs, pb, ev⟩ => ?_
  rw [ev, pb]
  show V.bl _ = V.bl true
  congr 1
  rw [List.all_eq_true]
  intro b hb
  rw [(List.mem_replicate.mp hb).2]
  rfl
/-- tests without a trace, elements that may leave one -/
theorem ewt_yes {P : V → Hp → Prop} {R : Hp → Prop} (h : EW W te σ Hc P) : EWT W tYes σ Hc fun b H2 => if b = true then EW W te σ H2 P else R H2 :=
  fun H1 w1 Q q => q true Hc H1 (Ex.refl _) w1 (iteT h)
theorem ewt_dec {tt : TT} {P : V → Hp → Prop} {R : Hp → Prop} {b : Bool} (w : Wld W) (ht : EvT tt σ Hc b) (h1 : b = true → EW W te σ Hc P) (h2 : b = false → R Hc) : EWT W tt σ Hc fun b H2 => if b = true then EW W te σ H2 P else R H2 :=
  fun H1 w1 Q q => ht H1 (w.ex w1) _ fun H2 e => q b Hc H2 (Ex.refl _) (w.grow w1 e) (by
    cases b with
    | true => exact iteT (h1 rfl)
    | false => exact iteF (h2 rfl))
end
end KK
set_option maxHeartbeats 4000000
namespace KK
open PySem PySem.Spec PyProof.Rows L2 Evl
def letters : Str := "abcdefghijklmnopqrstuvwxyz"
def NameOk (z : Str) : Prop := 1 ≤ z.length ∧ z.length ≤ 6 ∧ ∀ c ∈ z.cps.toList, c ∈ letters.cps.toList
section
variable {P : Program} {w : World} {K : PySem.W.Frag} {mg : Str → Option Value} {base : Heap}
def spIsName : Sp := fun vs H Q _ => ∃ z, vs = [.str z] ∧ NameOk z ∧ RetV (.bl true) H Q
abbrev N12 : List Str := ["thing", "sign"]
theorem scIsName : FnScope N12 ["thing"] (defScope (top 12)) := ⟨rfl, rfl, rfl, by decide +kernel, rfl, by decide +kernel, by decide +kernel⟩
theorem d_is_name (T : Txt K mg) : Dfn P w K mg base 1 "is_name" ["thing"] spIsName := by
  refine mk_dfn (j := 0) T rfl scIsName (fun vs H Q E h => ?_) (fun _ _ _ _ _ _ us hl => match us, hl with | [_], _ => rfl) (fun cdv A outer s H vs Q E hr h => ?_)
  · obtain ⟨_, rfl, _⟩ := h
    rfl
  · obtain ⟨z, rfl, ⟨h1, h2, h3⟩, k⟩ := h
    obtain ⟨t6, m6⟩ := T.signs
    obtain ⟨tl, ml⟩ := T.abc
    refine ⟨_, pss_cons (ps_if (PW.pt (pw_or (pt_not (pt_val (pe_callB call_isi (by rfl) (T.free "isinstance") (by decide +kernel) (pa_cons (pv 0) (pa_cons (pe_bltn (v := .ty "str") (by rfl) (T.free "str") (by decide +kernel) rfl) pa_nil)))))
        (pw_or1 (pt_not (pt_chain op_le op_le pe_int (pe_callB call_len_str (by rfl) (T.free "len") (by decide +kernel) (pa_cons (pv 0) pa_nil)) (pe_glob (v := .int 6) (by rfl) m6 ⟨_, rfl⟩)))))) (pss_one (ps_ret pe_bl)) pss_nil)
      (pss_one (ps_ret (pe_callB (cr_all rfl) (by rfl) (T.free "all") (by decide +kernel) (pa_cons
        (pe_lc (own := [("sign", 1)]) rfl scIsName.nd (pi_str (pv 0)) (blkOk_by (N := N12) (sc := defScope (top 12)) (by decide +kernel)) (fun _ _ _ _ _ => pg_name (i := 1) scIsName.nd rfl (Or.inl rfl)) (fun _ _ _ _ _ => pts_nil)
          (fun _ _ _ _ _ => pe_cmpR op_in_sign (pv 1) (pe_glob (v := .str letters) (by rfl) ml ⟨_, rfl⟩) rfl)) pa_nil)))), ?_⟩
    refine w_if (ewT pureW (et_or (et_not (et_B (ev_isiS (ev_var rfl)))) fun _ => et_not (et_chainLe (ev_c (v := .int 1)) (ev_lenS (ev_var rfl) (Nat.le_trans h2 (by decide))) (ev_c (v := .int 6)) (by omega) (by omega)))) (Ex.refl H) (fun Hc' H' e w p => by cases p) (fun Hc' H' e w p => ?_)
    refine w_ret (ew_allT (n := z.cps.size) pureW (ew_lcS (z := z) (PA := fun i acc _ => acc = List.replicate i (V.bl true)) pureW (ew pureW (ev_var rfl)) (Nat.lt_of_le_of_lt h2 (by decide)) (fun _ => rfl) (fun _ _ _ _ _ h => h) (fun _ _ => rfl) ?_)) w (fun v Hc2 H2 e2 w2 ev => ?_)
    · intro i c acc Hk hc e' pa
      refine ewt_yes (EW.imp (ew pureW (v := .bl true) (fun H1 e1 Q q => ⟨_, rfl, c, letters, rfl, rfl, ?ea⟩)) fun v H' _ ev => ?eb)
      case ea => rw [decide_eq_true (h3 c (Array.mem_toList_iff.mpr (Array.mem_of_getElem? hc)))]
                 exact q H1 (Ex.refl _)
      case eb => rw [ev, pa, List.replicate_succ']
    · rw [ev]
      exact k H2 (e.trans (e2.trans w2))
end
end KK
set_option maxHeartbeats 4000000
/-! len(set(t)), t a tuple of different texts: as many as there are. -/
namespace KK
open PySem PySem.Spec PyProof.Rows L2
section
variable {prog : Program} {w : World} {A : Around} {R : Result → Shared → Prop} {I S : Addr} {fp wr : List Addr} {G : Array GenState → Array GenState → Prop} {P : Nat → Value → Prop} {St : Nat → Shared → Prop}
/-- what the walk has put in so far -/
abbrev PutIn (prog : Program) (w : World) (S : Addr) (xs : List Str) (i : Nat) (h : Heap) : Prop := h.SetOf (PySem.strKind prog w) S (fun z => decide (z ∈ xs.take i)) i
theorem PutIn.go {xs : List Str} {i : Nat} {h h' : Heap} (p : PutIn prog w S xs i h) (k : ∀ o, h.get? S = some o → h'.get? S = some o) : PutIn prog w S xs i h' := by
  obtain ⟨o, es, ep, t, ho, r⟩ := p
  exact ⟨o, es, ep, t, k o ho, r⟩
theorem set_fill {xs : List Str} (nd : xs.Nodup) (big : xs.length + 1 < scanBound) (Wk : WalksS prog w A.in1 I fp wr G xs.length P St) (far : S ∉ fp) (val : ∀ (i : Nat) (v : Value), P i v → ∃ z t, xs[i]? = some z ∧ v = .str z t)
    : ∀ (m i : Nat) (s : Shared), i + m = xs.length → St i s → PutIn prog w S xs i s.heap →
      (∀ s', Moved (S :: wr) G s s' → PutIn prog w S xs xs.length s'.heap → R (.ok (.ret .none)) s') → codeAny (model prog w) A (.builtin "set.update.loop" ⟨[.ref S, .ref I], []⟩) R s
  | 0, i, s, e, st, p, k => by
    have ei : i = xs.length := by omega
    subst ei
    refine codeAny_builtin PyProof.Rows.F.entry_set_update_loop ?_
    rw [Around.under_plainId PyProof.Rows.F.plain_set_update_loop _]
    show wpAny (model prog w) A.in1 (pyNext (Value.ref I) >>= _) _ _ s
    refine wpAny_bind (Wk.done s _ _ st fun s2 mv => ?_)
    show wpAny (model prog w) A.in1 (ret Value.none) _ _ s2
    exact wpAny_pure (k s2 (mv.mono fun b hb => List.mem_cons_of_mem _ hb) (p.go fun o ho => mv.heap S o (fun z => far (Wk.sub _ z)) ho))
  | m + 1, i, s, e, st, p, k => by
    have hi : i < xs.length := by omega
    refine codeAny_builtin PyProof.Rows.F.entry_set_update_loop ?_
    rw [Around.under_plainId PyProof.Rows.F.plain_set_update_loop _]
    show wpAny (model prog w) A.in1 (pyNext (Value.ref I) >>= _) _ _ s
    refine wpAny_bind (Wk.item i s _ _ hi st fun v s2 pv st2 mv => ?_)
    obtain ⟨z, t, hz, rfl⟩ := val i v pv
    have p2 : PutIn prog w S xs i s2.heap := p.go fun o ho => mv.heap S o (fun q => far (Wk.sub _ q)) ho
    show wpAny (model prog w) A.in1 (holding [Value.str z t] (setAdd S (Value.str z t)) >>= _) _ _ s2
    refine wpAny_bind (wpAny_holding ?_)
    unfold setAdd
    refine wpAny_holding (wpAny_bind ((PySem.strKind prog w).pyHash (k := z) (strKind_is _ _ _ _) ?_))
    have new : z ∉ xs.take i := fun mz => by
      obtain ⟨j, hj, ej⟩ := List.mem_iff_getElem.mp mz
      rw [List.getElem_take] at ej
      have hj2 : j < i := by rw [List.length_take] at hj; omega
      have e1 : xs[j]? = some z := by rw [List.getElem?_eq_getElem (by omega), ej]
      exact absurd (nd_ix nd e1 hz) (by omega)
    refine wpAny_setAddHashed_of (knd := PySem.strKind prog w) (s := { s2 with toks := s2.toks + 1 }) (strKind_is _ _ _ _) rfl p2 (by omega) fun h' sb q => ?_
    have p3 : PutIn prog w S xs (i + 1) h' := by
      refine SetOf_congr q (fun y => ?_) (by rw [decide_eq_false new]; rfl)
      have et : xs.take (i + 1) = xs.take i ++ [z] := by rw [List.take_add_one, hz]; rfl
      rw [et]
      by_cases h1 : y ∈ xs.take i
      · simp [h1]
      · simp [h1]
    refine wpAny_pure ⟨plainId_quiet PyProof.Rows.F.plain_set_update_loop _, ?_⟩
    refine set_fill nd big Wk far val m (i + 1) _ (by omega) (Wk.frame _ s2 _ _ st2 (Nat.le_succ _) fun b hb o eo => ?_) p3 fun s3 mv3 p4 => ?_
    · rw [sb.2 b (fun z => far (by rw [← z]; exact hb))]
      exact eo
    · refine k s3 (Moved.trans Wk.gtrans ((mv.mono fun b hb => List.mem_cons_of_mem _ hb).then_heap (Nat.le_succ _) fun b o hb eo => ?_) mv3) p4
      rw [sb.2 b (fun z => hb (by rw [z]; exact List.mem_cons_self))]
      exact eo
end
/-- a set without members -/
abbrev noSet (led : Bool) : Obj := { cls := .type "set", dict := none, data := .set #[] 0 (.fresh 0 0 led) }
section
variable {prog : Program} {w : World} {A : Around} {E : Value → Shared → Prop} {s : Shared}
/-- what its __init__ does with a tuple of different texts -/
theorem init_names {l : Addr} {items : Array Value} {xs : List Str} {led : Bool} {R : PySem.Fin → Shared → Prop} (hh : A.handled = none) (hl : s.heap.IsTuple l items) (hv : StrsAre items.toList xs) (nd : xs.Nodup) (big : xs.length + 1 < scanBound)
    (h : ∀ (h' : Heap) (tk : Nat), PutIn prog w s.heap.objs.size xs xs.length h' → (∀ b o, s.heap.get? b = some o → h'.get? b = some o) → R (.done (.ret .none)) { s with heap := h', toks := tk }) :
    wpAny (model prog w) A.in1.in1 (Builtin.«set.__init__» ⟨[.ref s.heap.objs.size, .ref l], []⟩) R E { s with heap := s.heap.push (noSet led) } := by
  have size : xs.length = items.size := by rw [← StrsAre.len_eq hv, Array.length_toList]
  have hl1 : (s.heap.push (noSet led)).IsTuple l items := hl.push _
  obtain ⟨ol, hol, hcl, nl, hdl⟩ := hl
  have hlt : l < s.heap.objs.size := Heap.lt_size hol
  obtain ⟨oc, od, ot, os⟩ := ol
  simp only at hcl hdl
  subst hcl hdl
  have hol1 : (s.heap.push (noSet led)).get? l = some { cls := .type "tuple", dict := od, data := .seq items nl, slots := os } := Heap.get?_push_of_some _ hol
  have hset : (s.heap.push (noSet led)).get? s.heap.objs.size = some (noSet led) := Heap.get?_push_size _ rfl
  have hT : Shared.TypeIs { s with heap := s.heap.push (noSet led) } (.ref s.heap.objs.size) "set" := ⟨_, hset, rfl⟩
  have f1 := PySem.F.sub_tuple_set
  have f2 := PySem.F.sub_tuple_frozenset
  have f3 : (Value.type "tuple" == Value.type "dict") = false := by decide
  unfold Builtin.«set.__init__» noKeywords Builtin.Frozenset.updateFrom
  generalize hPI : pyIter = PI
  wp_walk
  subst hPI
  refine wpAny_pyIter_tuple hl1 (wpAny_bind (wpAny_runValue ?_))
  have sz : (s.heap.push (noSet led)).objs.size = s.heap.objs.size + 1 := Heap.size_push ..
  have apart : l ≠ (s.heap.push (noSet led)).objs.size := by rw [sz]; exact Nat.ne_of_lt (Nat.lt_succ_of_lt hlt)
  have far : s.heap.objs.size ∉ [(s.heap.push (noSet led)).objs.size, l] := by
    rw [sz]
    intro m
    rcases List.mem_cons.mp m with q | q
    · exact absurd q (Nat.ne_of_lt (Nat.lt_succ_self _))
    · exact absurd (List.mem_singleton.mp q) (Nat.ne_of_gt hlt)
  have val : ∀ (i : Nat) (v : Value), items[i]? = some v → ∃ z t, xs[i]? = some z ∧ v = .str z t := fun i v hv2 => by
    obtain ⟨t, e⟩ := SS.strs_at hv i v (by rw [Array.getElem?_toList]; exact hv2)
    have hi : i < xs.length := by rw [size]; exact (Array.getElem?_eq_some_iff.mp hv2).1
    refine ⟨xs[i], t, List.getElem?_eq_getElem hi, ?_⟩
    rw [e, List.getD_eq_getElem?_getD, List.getElem?_eq_getElem hi]
    rfl
  have Wk := (Walks.tuple (prog := prog) (w := w) (show A.in1.in1.in1.handled = none by simp [hh]) (s.heap.push (noSet led)).objs.size l apart items).toS
  rw [← size] at Wk
  refine set_fill nd big Wk far val xs.length 0 _ (by omega) ⟨⟨_, Heap.get?_push_size _ rfl, rfl, rfl⟩, hl1.push _⟩ ?_ fun s2 mv p => ?_
  · refine SetOf_congr ((setObjOf_fresh (knd := PySem.strKind prog w) led).setOf (Heap.get?_push_of_some _ hset) (by unfold scanBound; omega)) (fun y => ?_) rfl
    simp
  · obtain ⟨h2, g2, d2, t2, o2⟩ := s2
    obtain rfl : g2 = s.gens := mv.gens
    obtain rfl : d2 = s.drawn := mv.drawn
    obtain rfl : o2 = s.os := mv.os
    show wpAny _ _ _ _ _ _
    refine wpAny_pure ?_
    show wpAny _ _ (ret Value.none) _ _ _
    refine wpAny_pure (h h2 t2 p fun b o e => ?_)
    have lb : b < s.heap.objs.size := Heap.lt_size e
    refine mv.heap b o (fun m => ?_) (Heap.get?_push_of_some _ (Heap.get?_push_of_some _ e))
    rcases List.mem_cons.mp m with q | q
    · exact absurd q (Nat.ne_of_lt lb)
    · exact absurd (List.mem_singleton.mp q) (by rw [sz]; exact Nat.ne_of_lt (Nat.lt_succ_of_lt lb))
/-- set(t) -/
theorem call_names {l : Addr} {items : Array Value} {xs : List Str} {Q : Value → Shared → Prop} (hh : A.handled = none) (hl : s.heap.IsTuple l items) (hv : StrsAre items.toList xs) (nd : xs.Nodup) (big : xs.length + 1 < scanBound)
    (h : ∀ (h' : Heap) (tk : Nat), PutIn prog w s.heap.objs.size xs xs.length h' → (∀ b o, s.heap.get? b = some o → h'.get? b = some o) → Q (.ref s.heap.objs.size) { s with heap := h', toks := tk }) :
    wpAny (model prog w) A (call (.type "set") [.ref l]) Q E s := by
  obtain ⟨c, tl, hmro⟩ := PySem.F.called_set.mro
  have g1 := PySem.F.called_set.made
  have g2 := PySem.F.called_set.sub
  have g3 := PySem.F.called_set.notType
  have g4 := PySem.F.called_set.canCreate
  have g5 := PySem.F.typeCall_set_1 (.ref l)
  refine wpAny_call (codeAny_of_tree ?_)
  show wpAny _ _ (callAny (.type "set") _) _ _ _
  refine wpAny_pure ⟨Code.quiet_builtin _ (by decide +kernel), codeAny_builtin PySem.F.entry_type_call ?_⟩
  rw [Around.under_plain (weight_type_call_type "set" [.ref l] []) rfl]
  repeat (any_goals (first | assumption | wp_step))
  refine codeAny_mono (code_set_new_1 (.ref l) (E := E) (Q₁ := fun o s1 => ∃ led : Bool, o = .ref s.heap.objs.size ∧ s1 = { s with heap := s.heap.push (noSet led) }) fun led => ⟨led, rfl, rfl⟩) fun r s1 hr => ?_
  cases r with
  | error e => exact hr
  | ok fl =>
    cases fl with
    | ret o =>
      obtain ⟨led, rfl, rfl⟩ := hr
      have hset : (s.heap.push (noSet led)).get? s.heap.objs.size = some (noSet led) := Heap.get?_push_size _ rfl
      have hT : Shared.TypeIs { s with heap := s.heap.push (noSet led) } (.ref s.heap.objs.size) "set" := ⟨_, hset, rfl⟩
      have g6 := PySem.F.called_set.init.lookup
      have g7 := PySem.F.called_set.init.bind (.ref s.heap.objs.size)
      repeat (any_goals (first | assumption | wp_step))
      refine codeAny_mono (codeAny_call_builtin (R := wants (fun r s2 => r = .none ∧ ∃ h2 t2, s2 = { s with heap := h2, toks := t2 } ∧ PutIn prog w s.heap.objs.size xs xs.length h2 ∧ ∀ b o, s.heap.get? b = some o → h2.get? b = some o) E)
        PySem.F.called_set.init.plain PySem.F.entry_set_init (check_set_init_1 hT ?_)) fun r2 s2 hr2 => ?_
      · refine init_names hh hl hv nd big fun h2 t2 p k => ?_
        exact ⟨rfl, h2, t2, rfl, p, k⟩
      · cases r2 with
        | error e => exact hr2
        | ok f2 =>
          cases f2 with
          | ret v2 =>
            obtain ⟨rfl, h2, t2, rfl, p, k⟩ := hr2
            refine wpAny_pure (E := fun e s' => E e s') ?_
            show wpAny _ A.in1 (ret (Value.ref s.heap.objs.size)) _ _ _
            exact wpAny_pure (h h2 t2 p k)
          | _ => exact hr2.elim
    | _ => exact hr.elim
end
/-- len(set(t)) -/
def tLenNames (K : PySem.W.Frag) (ta : TE) : TE := fun σ H Q => ta σ H fun x H1 => ∃ (l : Addr) (xs : List Str), x = .ref l ∧ SqT K H1 l (xs.map V.str) ∧ xs.Nodup ∧ xs.length ≤ 4000 ∧ Q (.int xs.length) H1
theorem pe_lenNames {X : Cx} {a : Expr} {ta : TE} {p p2 q pos : Pos} (hc : X.calm = true) (hm : X.mg "len" = none) (hm2 : X.mg "set" = none) (ha : PE X a ta) (hg : Gl X "len" := by rfl) (hg2 : Gl X "set" := by rfl)
    (na : starEach [a] X.env = (false, eval a X.env) :: starEach [] X.env := by rfl) : PE X (.Call (.Name "len" p) [.Call (.Name "set" p2) [a] [] q] [] pos) (tLenNames X.K ta) := by
  refine ⟨fun pins s σ H Q I h => Call_ (ld_blt I hg hm boot_len ?_)⟩
  refine PyProof.Rows.callWith_builtin1 (PyProof.Rows.args_cons (Call_ (ld_blt I hg2 hm2 boot_set ?_)) rfl) rfl rfl
  refine PyProof.Rows.callWith_type1 (PyProof.Rows.args_cons (thn (ha.run pins s σ H _ I h) fun v s1 ⟨x, H1, I1, rx, l, xs, ex, hs, nd, big, q1⟩ => PyProof.Rows.args_nil ?_) na) na rfl
  subst ex
  obtain rfl : v = Value.ref l := rx
  obtain ⟨its, r, pt, hz⟩ := I1.tuple hs
  refine call_names (I1.ok.hd hc) pt (by simpa using strsAre_of r) nd (by unfold scanBound; omega) fun h2 t2 p k => PyProof.Rows.args_nil ?_
  have I2 : Inv X pins σ H1 { s1 with heap := h2, toks := t2 } := I1.kept k
  obtain ⟨o, es, ep, t, ho, hex, hd, _, _, _, hf, hn⟩ := p
  exact call_len_set ho hex hd hf (by rw [hn]; omega) ⟨.int xs.length, H1, I2.tok _, ⟨_, by rw [hn]⟩, q1⟩
end KK
set_option maxHeartbeats 4000000
/-! Rules of our own for data: less than, in a tuple, sorted. -/
namespace KK
open PySem PySem.Spec PyProof.Rows L2
section
variable {X : Cx}
/-- data that may be compared, not too deep -/
def Flatish (d : PyData) : Prop := d ≠ .none ∧ d.depth ≤ 60
/-- x < y -/
def rLtD (K : PySem.W.Frag) : R2 := fun x y H Q => ∃ d e, Dp K H x d ∧ Dp K H y e ∧ PySem.W.alike d e = true ∧ Flatish d ∧ Q (.bl (PySem.W.dataLt d e)) H
theorem op_ltD (hu : X.A.units + 64 < cLine) : OpR X (compareOp .Lt) (rLtD X.K) := by
  intro pins s σ H x y v u Q I rx ry h
  obtain ⟨d, e, hd, he, al, ⟨nn, dp⟩, q⟩ := h
  obtain ⟨as, r1⟩ := Dp.reads I d x v hd rx
  obtain ⟨bs, r2⟩ := Dp.reads I e y u he ry
  refine PySem.W.rcLt_alike d e X.A s v u as bs r1 r2 al nn ?_ X.prog X.w _ _ ⟨.bl _, H, I, rfl, q⟩
  have := Nat.min_le_left d.depth e.depth
  omega
/-- x in t, t a tuple of data -/
def rInDT (K : PySem.W.Frag) : R2 := fun x y H Q => ∃ d ds, Dp K H x d ∧ Dp K H y (.tuple ds) ∧ SeqAt.shaped d = true ∧ SeqAt.shaped (.tuple ds) = true ∧ Q (.bl (ds.any fun z => PyData.eqv z d)) H
theorem op_inDT (hu : X.A.units + 65 < cLine) : OpR X (compareOp .In) (rInDT X.K) := by
  intro pins s σ H x y v u Q I rx ry h
  obtain ⟨d, ds, hd, he, sd, se, q⟩ := h
  obtain ⟨as, r1⟩ := Dp.reads I d x v hd rx
  obtain ⟨bs, r2⟩ := Dp.reads I (.tuple ds) y u he ry
  exact SeqAt.in_tuple_reads r2 r1 (SeqAt.canLay_of_shaped se) (SeqAt.canLay_of_shaped sd) (room_in_shaped sd hu) ⟨.bl _, H, I, rfl, q⟩
/-! ### sorted -/
theorem each_vals {zs : List (V × PyData)} : ∀ {us : List Value}, Vals (zs.map (·.1)) us → PySem.W.EachIs (fun u z => RelV z.1 u) us zs := by
  induction zs with
  | nil =>
    intro us r
    cases r
    exact .nil
  | cons z zs ih =>
    intro us r
    cases r with
    | cons h t => exact .cons h (ih t)
theorem vals_each {zs : List (V × PyData)} : ∀ {us : List Value}, PySem.W.EachIs (fun u z => RelV z.1 u) us zs → Vals (zs.map (·.1)) us := by
  induction zs with
  | nil =>
    intro us r
    cases r
    exact .nil
  | cons z zs ih =>
    intro us r
    cases r with
    | cons h t => exact .cons h (ih t)
theorem each_reads {pins : List (Addr × Obj)} {σ : L2.St} {H : Hp} {s : Shared} (I : Inv X pins σ H s) : ∀ {zs : List (V × PyData)} {us : List Value}, Vals (zs.map (·.1)) us → (∀ z ∈ zs, Dp X.K H z.1 z.2) → PySem.W.EachIs (fun u z => ∃ as, Reads s.heap u z.2 as) us zs
  | [], us, r, _ => by
    cases r
    exact .nil
  | z :: zs, us, r, h => by
    cases r with
    | cons h1 t => exact .cons (Dp.reads I z.2 z.1 _ (h z List.mem_cons_self) h1) (each_reads I t fun y hy => h y (List.mem_cons_of_mem _ hy))
/-- sorted(xs) of data alike: a new list, in order -/
def rSortedD (K : PySem.W.Frag) : List V → Hp → VK → Prop := fun vs H Q => ∃ (a : Addr) (zs : List (V × PyData)), vs = [.ref a] ∧ SqL K H a (zs.map (·.1)) ∧ (∀ z ∈ zs, Dp K H z.1 z.2) ∧ PySem.W.AllAlike (zs.map (·.2)) ∧ PySem.W.Sortable (zs.map (·.2)) ∧
  (∀ z ∈ zs, z.2.depth ≤ 60) ∧ ∀ p, H p = none → Q (.ref p) (upd H p (.lst ((zs.mergeSort (PySem.W.dataLe false (·.2))).map (·.1))))
theorem cr_sortedD (hu : X.A.units + 64 < cLine) : CallR X (.builtin "sorted") (rSortedD X.K) := by
  intro pins s σ H vs us Q I r h
  obtain ⟨a, zs, rfl, hs, hd, al, so, dp, q⟩ := h
  obtain ⟨its, rv, hl, hz⟩ := I.list hs
  rw [Vals.ref1 r]
  rw [List.length_map] at hz
  refine PySem.W.sorted_data (bs := zs) (enc := (·.2)) (R := fun u z => RelV z.1 u) hl.isList (each_vals rv) (each_reads I rv hd) al so hz (fun z hm => by have := dp z hm; omega) fun out _ ho => ?_
  obtain ⟨ep, he⟩ := PyProof.Rows.sortedAll_at s.heap its out.toArray
  have hlen : ((zs.mergeSort (PySem.W.dataLe false (·.2))).map (·.1)).length ≤ sizeLine := by
    rw [List.length_map, List.length_mergeSort]
    exact hz
  exact ⟨.ref _, upd H (s.heap.objs.size + 1) (.lst ((zs.mergeSort (PySem.W.dataLe false (·.2))).map (·.1))), I.laid (t' := s.toks) (fun _ _ => PyProof.Rows.sortedAll_old) (Nat.le_succ _) ⟨hlen, out, ep, vals_each ho, he⟩, rfl, q _ (I.hok.fresh (Nat.le_succ _))⟩
end
/-! ### sorted of pairs (text, datum): the data are alike where the texts are the same -/
/-- v is a tuple (x, y), y reads as d -/
def TagV (h : Heap) (v : Value) (x : Str) (d : PyData) : Prop := ∃ a o t y n as, v = .ref a ∧ h.get? a = some o ∧ o.cls = .type "tuple" ∧ o.data = .seq #[.str x t, y] n ∧ Reads h y d as
theorem TagV.keeps {h h' : Heap} {v : Value} {x : Str} {d : PyData} (k : ∀ b o, h.get? b = some o → h'.get? b = some o) (p : TagV h v x d) : TagV h' v x d := by
  obtain ⟨a, o, t, y, n, as, e, ho, hc, hd, r⟩ := p
  exact ⟨a, o, t, y, n, as, e, k _ _ ho, hc, hd, Reads.keeps k r⟩
section
variable {prog : Program} {w : World} {A : Around} {E : Value → Shared → Prop} {s : Shared}
theorem tag_tot {vs : List Value} {k : Value → Str × PyData} (hu : A.units + 64 < cLine) (hp : ∀ v ∈ vs, TagV s.heap v (k v).1 (k v).2) (hk : ∀ v ∈ vs, ∀ u ∈ vs, (k v).1 = (k u).1 → PySem.W.alike (k v).2 (k u).2 = true) (hf : ∀ v ∈ vs, Flatish (k v).2) :
    Srt.Tot prog w A s (tuples' true) (fun p => p.1 ∈ vs) := by
  intro p q hm hm'
  obtain ⟨a, o, t, y, n, as, e, ho, hc, hd, r⟩ := hp _ hm
  obtain ⟨a', o', t', y', n', as', e', ho', hc', hd', r'⟩ := hp _ hm'
  have f := hf _ hm
  have ak := hk _ hm _ hm'
  generalize k p.1 = kp at *
  generalize k q.1 = kq at *
  obtain ⟨x, d⟩ := kp
  obtain ⟨x', d'⟩ := kq
  dsimp only at *
  rw [e, e']
  refine ⟨if x = x' then (if PyData.eqv d d' = true then false else PySem.W.dataLt d d') else decide (x.cps.toList < x'.cps.toList), ?_⟩
  refine PySem.W.kat_lt ho hd ho' hd' ?_
  show PySem.W.KatLex prog w A true (decide (2 < 2)) _ [(.str x t, .str x' t'), (y, y')] 0 s
  have dm := Nat.min_le_left d.depth d'.depth
  have fd := f.2
  refine PySem.W.kat_cons (wpAny_eqBool_str (prog := prog) ?_)
  refine PySem.W.kat_go (fun e1 => ?_) (fun e1 => ?_)
  · have ex : x = x' := of_decide_eq_true e1
    refine PySem.W.kat_yes (PySem.W.kat_cons (PySem.W.eqAt_alike d d' A s y y' as as' r r' (ak ex) (by omega) prog w _ _ ?_))
    refine PySem.W.kat_go (fun e2 => ?_) (fun e2 => ?_)
    · exact PySem.W.kat_yes (PySem.W.kat_nil ⟨rfl, by rw [if_pos ex, if_pos e2]; rfl⟩)
    · refine PySem.W.kat_no (PySem.W.oneLt_alike (f := false) (fun z => by cases z) r r' (ak ex) f.1 (by omega) ⟨rfl, ?_⟩)
      rw [if_pos ex, if_neg (by rw [e2]; exact Bool.false_ne_true)]
  · have ex : ¬ x = x' := of_decide_eq_false e1
    refine PySem.W.kat_no (PySem.W.oneLt_alike (da := .str x) (db := .str x') (fun _ xs z => by cases z) (.str x t) (.str x' t') rfl (by intro z; cases z) (by show A.units + min 0 0 < cLine; omega) ⟨rfl, ?_⟩)
    rw [if_neg ex, PySem.W.dataLt_str]
theorem tag_firsts {h : Heap} {k : Value → Str × PyData} : ∀ {vs : List Value}, (∀ v ∈ vs, TagV h v (k v).1 (k v).2) → ∃ fs : List Value, PySem.W.KatTups h vs fs ∧ fs.length = vs.length ∧ ∀ f ∈ fs, ∃ x t, f = Value.str x t
  | [], _ => ⟨[], PySem.W.KatTups.nil, rfl, fun _ hm => by simp at hm⟩
  | v :: vs, hp => by
    obtain ⟨fs, h1, h2, h3⟩ := tag_firsts (k := k) (vs := vs) fun u hm => hp u (List.mem_cons_of_mem _ hm)
    obtain ⟨a, o, t, y, n, as, e, ho, hc, hd, _⟩ := hp v List.mem_cons_self
    rw [e]
    refine ⟨.str (k v).1 t :: fs, PySem.W.KatTups.cons ho hc hd rfl h1, by simp [h2], fun f hm => ?_⟩
    rcases List.mem_cons.mp hm with q | q
    · exact ⟨_, _, q⟩
    · exact h3 f q
theorem sorted_tags {l : Addr} {vs : List Value} {k : Value → Str × PyData} {Q : Value → Shared → Prop} (hu : A.units + 66 < cLine) (hl : s.heap.IsList l vs.toArray) (hz : vs.length ≤ sizeLine) (hp : ∀ v ∈ vs, TagV s.heap v (k v).1 (k v).2)
    (hk : ∀ v ∈ vs, ∀ u ∈ vs, (k v).1 = (k u).1 → PySem.W.alike (k v).2 (k u).2 = true) (hf : ∀ v ∈ vs, Flatish (k v).2) (h : ∀ out : List Value, out.Perm vs → Q (.ref (s.heap.objs.size + 1)) { s with heap := sortedAll s.heap vs out.toArray }) :
    wpAny (model prog w) A (call (.builtin "sorted") [.ref l]) Q E s := by
  refine Srt.sorted_any hl hz (fun h2 h1 a ha keep h' keep' => ?_) h
  have all : ∀ b o, s.heap.get? b = some o → h'.get? b = some o := fun b o e => keep' b o (keep b o e).1 (keep b o e).2
  have hp' : ∀ v ∈ vs, TagV h' v (k v).1 (k v).2 := fun v hm => (hp v hm).keeps all
  obtain ⟨fs, f1, f2, f3⟩ := tag_firsts hp'
  refine ⟨tuples' true, fun Q E hq => ?_, tag_tot (s := { s with heap := h' }) (by show A.units + 1 + 1 + 64 < cLine; omega) hp' hk hf⟩
  refine PySem.W.kat_kind (T := .type "str") f1 (by omega) (fun f hm => ?_) (by rfl) ?_
  · obtain ⟨x, t, rfl⟩ := f3 f hm
    exact PySem.W.Looks.now
  · have e : (Value.type "str" != Value.type "tuple") = true := by decide +kernel
    rw [e]
    exact hq
end
section
variable {X : Cx}
/-- sorted(xs) of such pairs: a new list of the same in some order -/
def rSortedT (K : PySem.W.Frag) : List V → Hp → VK → Prop := fun vs H Q => ∃ (a : Addr) (ts : List Addr) (f : Addr → Str × PyData), vs = [.ref a] ∧ SqL K H a (ts.map V.ref) ∧ (∀ t ∈ ts, ∃ y, SqT K H t [.str (f t).1, y] ∧ Dp K H y (f t).2) ∧
  (∀ t ∈ ts, ∀ u ∈ ts, (f t).1 = (f u).1 → PySem.W.alike (f t).2 (f u).2 = true) ∧ (∀ t ∈ ts, Flatish (f t).2) ∧ ∀ (p : Addr) (us : List Addr), us.Perm ts → H p = none → Q (.ref p) (upd H p (.lst (us.map V.ref)))
def refAd : Value → Addr
  | .ref a => a
  | _ => 0
theorem vals_refl : ∀ ts : List Addr, Vals (ts.map V.ref) (ts.map Value.ref)
  | [] => .nil
  | t :: ts => .cons rfl (vals_refl ts)
theorem cr_sortedT (hu : X.A.units + 66 < cLine) : CallR X (.builtin "sorted") (rSortedT X.K) := by
  intro pins s σ H vs us Q I r h
  obtain ⟨a, ts, f, rfl, hs, ht, hk, hf, q⟩ := h
  obtain ⟨its, rv, hl, hz⟩ := I.list hs
  rw [Vals.ref1 r]
  have ei : its = ts.map Value.ref := refs_at rv
  subst ei
  rw [List.length_map] at hz
  have at_ : ∀ v ∈ ts.map Value.ref, ∃ t ∈ ts, v = .ref t ∧ f (refAd v) = f t := fun v hv => by
    obtain ⟨t, h1, h2⟩ := List.mem_map.mp hv
    exact ⟨t, h1, h2.symm, by rw [← h2]; rfl⟩
  refine sorted_tags (k := fun v => f (refAd v)) hu hl.isList (by rw [List.length_map]; exact hz) (fun v hv => ?_) (fun v hv u hu2 => ?_) (fun v hv => ?_) fun out ho => ?_
  · obtain ⟨t, h1, rfl, h3⟩ := at_ v hv
    obtain ⟨y, hy, dy⟩ := ht t h1
    obtain ⟨ws, rw', pt, _⟩ := I.tuple hy
    obtain ⟨o, ho, hc, n, hd⟩ := pt
    obtain ⟨w1, w2, rfl, r1, r2⟩ := Vals.two rw'
    obtain ⟨t1, rfl⟩ := r1
    obtain ⟨as, rd⟩ := Dp.reads I _ y w2 dy r2
    exact ⟨t, o, t1, w2, n, as, rfl, ho, hc, hd, rd⟩
  · obtain ⟨t, h1, _, h3⟩ := at_ v hv
    obtain ⟨t', h1', _, h3'⟩ := at_ u hu2
    show (f (refAd v)).1 = (f (refAd u)).1 → _
    rw [h3, h3']
    exact hk t h1 t' h1'
  · obtain ⟨t, h1, _, h3⟩ := at_ v hv
    show Flatish (f (refAd v)).2
    rw [h3]
    exact hf t h1
  · obtain ⟨ep, he⟩ := PyProof.Rows.sortedAll_at s.heap (ts.map Value.ref) out.toArray
    have eo : out = (out.map refAd).map Value.ref := by
      rw [List.map_map]
      conv => lhs; rw [← List.map_id out]
      refine List.map_congr_left fun v hv => ?_
      obtain ⟨t, _, e⟩ := List.mem_map.mp (ho.mem_iff.mp hv)
      rw [← e]
      rfl
    have po : (out.map refAd).Perm ts := by
      have z := ho.map refAd
      rw [List.map_map] at z
      have e2 : ts.map (refAd ∘ Value.ref) = ts := by
        conv => rhs; rw [← List.map_id ts]
        exact List.map_congr_left fun _ _ => rfl
      rw [e2] at z
      exact z
    have hlen : ((out.map refAd).map V.ref).length ≤ sizeLine := by
      rw [List.length_map, po.length_eq]
      exact hz
    refine ⟨.ref _, upd H (s.heap.objs.size + 1) (.lst ((out.map refAd).map V.ref)), I.laid (t' := s.toks) (fun _ _ => PyProof.Rows.sortedAll_old) (Nat.le_succ _) ⟨hlen, out, ep, ?_, he⟩, rfl, q _ _ po (I.hok.fresh (Nat.le_succ _))⟩
    have z := vals_refl (out.map refAd)
    rw [← eo] at z
    exact z
end
end KK
set_option maxHeartbeats 4000000
/-! for i, x in enumerate(t), t a tuple. -/
namespace KK
open PySem PySem.Spec PyProof.Rows L2
theorem enum_made {v : Value} {o : Obj} {G : Heap → Prop} (B : Begins v o G) :
    Meets (Builtin.«enumerate.__new__» ⟨[.type "enumerate", v], []⟩) (fun _ R s => G s.heap ∧
      R (.ok (.ret (.ref (s.heap.push o).objs.size))) { s with heap := (s.heap.push o).push { cls := .type "enumerate", data := .fields #[.none, .bool false, .ref s.heap.objs.size, rawInt 0, .none, .none] } }) :=
  .of_wp fun prog w A R s h => by
    obtain ⟨hp, g, d, tk, os⟩ := s
    obtain ⟨hG, h⟩ := h
    have hsub := sub_enumerate
    have it : ∀ {A2 : Around} {E : Value → Shared → Prop} {Q : Value → Shared → Prop}, Q (.ref hp.objs.size) ⟨hp.push o, g, d, tk, os⟩ → wpAny (model prog w) A2 (pyIter v) Q E ⟨hp, g, d, tk, os⟩ := fun q => B.iter prog w _ _ ⟨hp, g, d, tk, os⟩ _ hG q
    wp_walk using it
    refine wpAny_stack_any fun st => wpAny_pure ?_
    split
    · rename_i c _ _ _ _ _
      cases (c == Value.type "enumerate") <;> (wp_walk using it; exact ⟨_, rfl, h⟩)
    · wp_walk using it
      exact ⟨_, rfl, h⟩
section
variable {prog : Program} {w : World} {A : Around} {E : Value → Shared → Prop} {s : Shared}
theorem call_enum {v : Value} {o : Obj} {G : Heap → Prop} {Q : Value → Shared → Prop} (B : Begins v o G) (hG : G s.heap) (hc : checkTypeCall "enumerate" ⟨[v], []⟩ = pure ()) (hn : checkBuiltinCall "enumerate.__new__" ⟨[.type "enumerate", v], []⟩ = pure ()) (ho : ∀ obj, argsOk "object.__init__" ⟨[obj, v], []⟩)
    (h : ∀ h', IsEnum h' (s.heap.objs.size + 1) s.heap.objs.size 0 .none → h'.get? s.heap.objs.size = some o → (∀ b u, s.heap.get? b = some u → h'.get? b = some u) → Q (.ref (s.heap.objs.size + 1)) { s with heap := h' }) :
    wpAny (model prog w) A (call (.type "enumerate") [v]) Q E s := by
  refine callType_new F.called_enumerate (by decide) hc hn ho F.entry_enumerate_new (enum_made B) ⟨hG, ?_⟩
  have hz : (s.heap.push o).objs.size = s.heap.objs.size + 1 := Heap.size_push ..
  have he := Heap.get?_push_size (s.heap.push o) (o := { cls := .type "enumerate", data := .fields #[.none, .bool false, .ref s.heap.objs.size, rawInt 0, .none, .none] }) rfl
  rw [hz] at he
  show _ ∧ _
  rw [hz]
  exact ⟨⟨_, he, rfl⟩, h _ he (Heap.get?_push_of_some _ (Heap.get?_push_size _ B.free)) fun b u x => Heap.get?_push_of_some _ (Heap.get?_push_of_some _ x)⟩
end
/-- each item of the tuple at a in a new pair -/
def IteT (K : PySem.W.Frag) (a : Addr) : It :=
  ⟨fun i H => ∃ (xs : List V) (x : V), SqT K H a xs ∧ xs[i]? = some x, fun i H v H' => ∃ T x, v = .ref T ∧ H T = none ∧ H' = upd H T (.tup [.int (i : Nat), x]) ∧ ∀ xs, SqT K H a xs → xs[i]? = some x, fun i H => ∃ xs : List V, SqT K H a xs ∧ xs.length = i⟩
theorem tup_ne {h : Heap} {a b : Addr} {items : Array Value} {o : Obj} (h1 : h.IsTuple a items) (h2 : h.get? b = some o) (h3 : o.cls ≠ .type "tuple") : a ≠ b := fun e => by
  obtain ⟨u, hu, hc, _⟩ := h1
  rw [e, h2] at hu
  exact h3 (by rw [Option.some.inj hu]; exact hc)
theorem turn_enumT {P : Program} {w : World} {K : PySem.W.Frag} {elts : List Expr} {kk : Nat} {tpos : Pos} (a e it : Addr) :
    Turn P w K (.Tuple elts kk tpos) (IteT K a) [e, it] e (fun i h => (∃ old, IsEnum h e it ((i : Nat) : Int) old) ∧ h.IsTupleIter it a i ∧ e ≠ it) where
  mem := List.mem_cons_self
  obj := fun i h st b hb => by
    obtain ⟨⟨old, he⟩, ⟨o, ho, hc, hd⟩, _⟩ := st
    rcases List.mem_cons.mp hb with z | z
    · rw [z]
      exact ⟨_, he, fun v q => nomatch q⟩
    · exact ⟨o, by rw [List.mem_singleton.mp z]; exact ho, fun v q => by rw [hd] at q; cases q⟩
  keep := fun i h h' st k => by
    obtain ⟨⟨old, he⟩, hi, hne⟩ := st
    exact ⟨⟨old, k e List.mem_cons_self _ he⟩, hi.at fun o q => k it (by simp) o q, hne⟩
  item := by
    intro X hP hw hK hc i pins s σ H E I hf st hg
    subst hP hw hK
    obtain ⟨⟨old, he⟩, hit, hne⟩ := st
    obtain ⟨xs, x, hq, hx⟩ := hg
    obtain ⟨its, rv, pt, hz⟩ := I.tuple hq
    obtain ⟨u, hu, ru⟩ := rv.get hx
    have hel : e < s.heap.objs.size := Heap.lt_size he
    obtain ⟨oi, hoi, hci, _⟩ := id hit
    have hil : it < s.heap.objs.size := Heap.lt_size hoi
    have nit : a ≠ it := tup_ne pt hoi (by rw [hci]; intro z; injection z with z; revert z; decide)
    have ne_ : a ≠ e := tup_ne pt he (by intro z; injection z with z; revert z; decide)
    have hi : i < its.toArray.size := by
      obtain ⟨q, _⟩ := List.getElem?_eq_some_iff.mp hu
      simpa using q
    have D := Draws.tuple (prog := X.prog) (w := X.w) (A := X.A.in1) (show X.A.in1.handled = none by simp [I.ok.hd hc]) it a nit its.toArray
    refine wpAny_pyNext_enum_itemC D he ⟨hit, pt⟩ hi hne (by simp [hne, Ne.symm ne_]) fun y h' tk py ho hst hT hsz hk => ?_
    obtain rfl : u = y := by
      rw [List.getElem?_toArray, hu] at py
      exact Option.some.inj py
    refine ⟨_, rfl, wpAny_letOwnedTupleGo_enum (s := { s with heap := h', toks := tk + 1 }) ho fun h'' he' sb => ?_⟩
    have hT2 : h''.get? s.heap.objs.size = some { cls := .type "tuple", data := .seq #[.int i tk, u] } := (sb.2 _ (Nat.ne_of_gt hel)).trans hT
    have new : ObjOk X.prog X.w (upd H s.heap.objs.size (.tup [.int (i : Nat), x])) h'' s.heap.objs.size (.tup [.int (i : Nat), x]) :=
      ⟨by show 2 ≤ sizeLine; decide, [.int i tk, u], .cons ⟨_, rfl⟩ (.cons ru .nil), ⟨_, hT2, rfl, _, rfl⟩⟩
    have I1 : Inv X pins σ (upd H s.heap.objs.size (.tup [.int (i : Nat), x])) { s with heap := h'', toks := tk + 1 } :=
      I.turnedNew (ch := [e, it]) (fun b ob hb q => (sb.2 b (fun z => hb (by simp [z]))).trans (hk b ob (fun z => hb (by simp [z])) (fun z => hb (by simp [z])) q)) hf (Nat.le_refl _) new
    refine ⟨.ref s.heap.objs.size, _, I1, rfl, ⟨_, x, rfl, I.hok.fresh (Nat.le_refl _), rfl, fun ys hy => by rw [I.tuple_inj hy hq]; exact hx⟩, ⟨⟨u, he'⟩, hst.1.at fun o q => (sb.2 it (Ne.symm hne)).trans q, hne⟩, fun b hb => ?_⟩
    have hb' : b < s.heap.objs.size := by
      rcases List.mem_cons.mp hb with z | z
      · rw [z]; exact hel
      · rw [List.mem_singleton.mp z]; exact hil
    rw [upd_ne (Nat.ne_of_lt hb')]
    exact (hf b hb).1
  done := by
    intro X hP hw hK hc i pins s σ H E I hf st hg
    subst hP hw hK
    obtain ⟨⟨old, he⟩, hit, hne⟩ := st
    obtain ⟨xs, hq, hx⟩ := hg
    obtain ⟨its, rv, pt, hz⟩ := I.tuple hq
    obtain ⟨f0, f1, f2, f3, f4, f5⟩ := hf it (by simp)
    obtain ⟨oi, hoi, hci, _⟩ := id hit
    have nit : a ≠ it := tup_ne pt hoi (by rw [hci]; intro z; injection z with z; revert z; decide)
    have D := Draws.tuple (prog := X.prog) (w := X.w) (A := X.A.in1) (show X.A.in1.handled = none by simp [I.ok.hd hc]) it a nit its.toArray
    have hn : i = its.toArray.size := by
      have z := rv.length
      simp
      omega
    subst hn
    exact wpAny_pyNext_enum_endD D he ⟨hit, pt⟩ fun h' eb => ⟨rfl, I.turned (t' := s.toks) (fun b o hb q => eb b o hb q) f0 f1 f3 f4 f5⟩
  self := fun A i s Q E st h => by
    obtain ⟨⟨_, he⟩, _⟩ := st
    exact wpAny_pyIter_enum he h
def iEnumT (K : PySem.W.Frag) (ta : TA) : TI := fun σ H R => ta σ H fun vs H1 => ∃ a xs, vs = [.ref a] ∧ SqT K H1 a xs ∧ R (IteT K a) H1
theorem pi_enumT {X : Cx} {e : Expr} {ta : TA} {p pos tpos : Pos} {elts : List Expr} {kk : Nat} (hm : X.mg "enumerate" = none) (ha : PA X [e] ta) (hg : Gl X "enumerate" := by rfl) (hs : starEach [e] X.env = [(false, eval e X.env)] := by rfl) :
    PI X (.Tuple elts kk tpos) (.Call (.Name "enumerate" p) [e] [] pos) (iEnumT X.K ta) := by
  refine ⟨fun pins s σ H R I h => Call_ (ld_blt I hg hm boot_enumerate (PyProof.Rows.callWith_type1 (thn (ha.run pos pins s σ H _ I h) fun us s1 ⟨vs, H1, I1, r1, a, xs, ex, hq, q⟩ => ?_) hs rfl))⟩
  subst ex
  rw [Vals.ref1 r1]
  obtain ⟨its, rv, pt, hz⟩ := I1.tuple hq
  refine call_enum (begins_tuple a its.toArray) pt (F.typeCall_enumerate_1 _) (F.newCall_enumerate_1 _) (fun obj => F.args_object_init_2 obj _) fun h' he hi hk => wpAny_pyIter_enum he ?_
  have I2 : Inv X pins σ H1 { s1 with heap := h' } := I1.kept (t' := s1.toks) hk
  refine ⟨s1.heap.objs.size + 1, [s1.heap.objs.size + 1, s1.heap.objs.size], _, _, H1, rfl, I2, turn_enumT a (s1.heap.objs.size + 1) s1.heap.objs.size, ⟨⟨.none, he⟩, ⟨_, hi, rfl, rfl⟩, Nat.succ_ne_self _⟩, fun b hb => ?_, q⟩
  have hle : s1.heap.objs.size ≤ b := by
    rcases List.mem_cons.mp hb with z | z
    · rw [z]; exact Nat.le_succ _
    · rw [List.mem_singleton.mp z]; exact Nat.le_refl _
  exact I1.fpOk hle (I1.hok.fresh hle)
theorem walk_enumT {K : PySem.W.Frag} {a : Addr} {xs : List V} : Walk (IteT K a) xs.length (fun H => SqT K H a xs) (YPair (fun i => some (.int (i : Nat))) (fun i => xs[i]?)) where
  goes := fun i H hi h => ⟨xs, xs[i], h, List.getElem?_eq_getElem hi⟩
  stops := fun H h => ⟨xs, h, rfl⟩
  yields := fun i H v H' hi h y => by
    obtain ⟨T, x, ev, hT, eH, hx⟩ := y
    exact ⟨T, _, x, ev, hT, eH, rfl, hx xs h⟩
end KK
set_option maxHeartbeats 4000000
/-! Tuples of texts, of numbers, as data: equal, alike, in order. -/
namespace KK
open PySem PySem.Spec PyProof.Rows L2 Evl
abbrev dT (c : List Str) : PyData := .tuple (c.map PyData.str)
abbrev dI (c : List Int) : PyData := .tuple (c.map PyData.int)
abbrev TextOk (z : Str) : Prop := PyData.strOk z = true
section
theorem beq_dec {α : Type} [BEq α] [LawfulBEq α] [DecidableEq α] (x y : α) : (x == y) = decide (x = y) := by
  by_cases h : x = y
  · subst h; simp
  · simp [h]
theorem eqvAll_T : ∀ c d : List Str, PyData.eqvAll (c.map .str) (d.map .str) = decide (c = d)
  | [], [] => rfl
  | [], _ :: _ => by simp [PyData.eqvAll]
  | _ :: _, [] => by simp [PyData.eqvAll]
  | x :: xs, y :: ys => by
    rw [List.map_cons, List.map_cons, PySem.W.eqv_all_cons, eqvAll_T xs ys, PyData.eqv, beq_dec]
    simp
theorem eqvAll_I : ∀ c d : List Int, PyData.eqvAll (c.map .int) (d.map .int) = decide (c = d)
  | [], [] => rfl
  | [], _ :: _ => by simp [PyData.eqvAll]
  | _ :: _, [] => by simp [PyData.eqvAll]
  | x :: xs, y :: ys => by
    rw [List.map_cons, List.map_cons, PySem.W.eqv_all_cons, eqvAll_I xs ys, PyData.eqv, beq_dec]
    simp
theorem eqv_T (c d : List Str) : PyData.eqv (dT c) (dT d) = decide (c = d) := by
  rw [PyData.eqv]; exact eqvAll_T c d
theorem eqv_I (c d : List Int) : PyData.eqv (dI c) (dI d) = decide (c = d) := by
  rw [PyData.eqv]; exact eqvAll_I c d
theorem alikeAll_T : ∀ c d : List Str, PySem.W.alikeAll (c.map .str) (d.map .str) = true
  | [], _ => by simp [PySem.W.alikeAll]
  | _ :: _, [] => by simp [PySem.W.alikeAll]
  | x :: xs, y :: ys => by
    rw [List.map_cons, List.map_cons, PySem.W.alikeAll, alikeAll_T xs ys]
    simp [PySem.W.alike]
theorem alike_T (c d : List Str) : PySem.W.alike (dT c) (dT d) = true := by
  rw [PySem.W.alike]; exact alikeAll_T c d
theorem alike_I (c d : List Int) : PySem.W.alike (dI c) (dI d) = true := by
  rw [PySem.W.alike]; exact PySem.W.alike_ints c d
theorem depthAll_T : ∀ c : List Str, PyData.depthAll (c.map .str) = 0
  | [] => by simp [PyData.depthAll]
  | x :: xs => by
    rw [List.map_cons, PyData.depthAll, depthAll_T xs]
    simp [PyData.depth]
theorem depth_T (c : List Str) : (dT c).depth = 1 := by rw [PyData.depth, depthAll_T]
theorem depth_I (c : List Int) : (dI c).depth = 1 := by rw [PyData.depth, PySem.W.depth_ints]
theorem canAll {α : Type} (f : α → PyData) : ∀ {l : List α}, (∀ x ∈ l, (f x).canLay0 = true) → PyData.canLayAll0 (l.map f) = true
  | [], _ => by simp [PyData.canLayAll0]
  | x :: xs, h => by
    rw [List.map_cons, PyData.canLayAll0, h x (by simp), canAll f (fun y hy => h y (by simp [hy]))]
    rfl
theorem depthAll_le {α : Type} (f : α → PyData) {n : Nat} : ∀ {l : List α}, (∀ x ∈ l, (f x).depth ≤ n) → PyData.depthAll (l.map f) ≤ n
  | [], _ => by simp [PyData.depthAll]
  | x :: xs, h => by
    rw [List.map_cons, PyData.depthAll]
    have h1 := h x (by simp)
    have h2 := depthAll_le f (l := xs) (fun y hy => h y (by simp [hy]))
    omega
theorem can_T {c : List Str} (h : ∀ z ∈ c, TextOk z) : (dT c).canLay0 = true := by
  rw [PyData.canLay0]
  exact canAll _ fun z hz => by rw [PyData.canLay0]; exact h z hz
theorem can_I (c : List Int) : (dI c).canLay0 = true := by
  rw [PyData.canLay0]
  exact canAll _ fun z hz => by rw [PyData.canLay0]
theorem shaped_of {d : PyData} (h : d.canLay0 = true) (h2 : d.depth ≤ 64) : SeqAt.shaped d = true := by
  show (d.canLay0 && decide (d.depth ≤ 64)) = true
  rw [h, decide_eq_true h2]; rfl
theorem shaped_T {c : List Str} (h : ∀ z ∈ c, TextOk z) : SeqAt.shaped (dT c) = true := shaped_of (can_T h) (by rw [depth_T]; decide)
theorem shaped_I (c : List Int) : SeqAt.shaped (dI c) = true := shaped_of (can_I c) (by rw [depth_I]; decide)
theorem shaped_str {z : Str} (h : TextOk z) : SeqAt.shaped (.str z) = true := shaped_of (by rw [PyData.canLay0]; exact h) (by rw [PyData.depth]; decide)
theorem shaped_TT {cs : List (List Str)} (h : ∀ c ∈ cs, ∀ z ∈ c, TextOk z) : SeqAt.shaped (.tuple (cs.map dT)) = true := by
  refine shaped_of ?_ ?_
  · rw [PyData.canLay0]; exact canAll _ fun c hc => can_T (h c hc)
  · rw [PyData.depth]
    have := depthAll_le dT (n := 1) (l := cs) (fun c _ => by rw [depth_T]; exact Nat.le_refl _)
    omega
theorem shaped_LI (cs : List (List Int)) : SeqAt.shaped (.list (cs.map dI)) = true := by
  refine shaped_of ?_ ?_
  · rw [PyData.canLay0]; exact canAll _ fun c hc => can_I c
  · rw [PyData.depth]
    have := depthAll_le dI (n := 1) (l := cs) (fun c _ => by rw [depth_I]; exact Nat.le_refl _)
    omega
/-! ### < -/
theorem lt_of_ne {x y : PyData} (al : PySem.W.alike x y = true) (ne : PyData.eqv x y = false) (h : PySem.W.dataLt y x = false) : PySem.W.dataLt x y = true := by
  by_cases h2 : PySem.W.dataLt x y = true
  · exact h2
  · rw [Bool.not_eq_true] at h2
    have e : PySem.W.keyToks x = PySem.W.keyToks y := (PyProof.Rows.listOrd PyProof.Rows.itemOrd).total _ _ h2 h
    have k := (PySem.W.toks_eqv x y al).2 ne
    have k1 := k [] [.inl 0]
    have k2 := k [.inl 0] []
    rw [e] at k1 k2
    rw [PySem.W.lex_pre] at k1 k2
    rw [← k2] at k1
    exact absurd k1 (by decide)
def ltT (a b : List Str) : Bool := PySem.W.dataLt (dT a) (dT b)
def leT (a b : List Str) : Bool := !ltT b a
theorem leT_lt (a b : List Str) (h : leT a b = true) (ne : a ≠ b) : ltT a b = true := by
  unfold leT at h
  rw [Bool.not_eq_true'] at h
  exact lt_of_ne (alike_T a b) (by rw [eqv_T]; exact decide_eq_false ne) h
/-! ### as they stand in the heap -/
variable {K : PySem.W.Frag} {H H' : Hp}
theorem dpAll_str : ∀ c : List Str, DpAll K H (c.map V.str) (c.map .str)
  | [] => .nil
  | x :: xs => .cons (.str x) (dpAll_str xs)
theorem dpAll_int : ∀ c : List Int, DpAll K H (c.map V.int) (c.map .int)
  | [] => .nil
  | x :: xs => .cons (.int x) (dpAll_int xs)
theorem dp_T {a : Addr} {c : List Str} (h : SqT K H a (c.map V.str)) : Dp K H (.ref a) (dT c) := .tup h (dpAll_str c)
theorem dp_I {a : Addr} {c : List Int} (h : SqT K H a (c.map V.int)) : Dp K H (.ref a) (dI c) := .tup h (dpAll_int c)
/-- the objects at ps, one for each member of cs -/
inductive Each {α : Type} (R : Addr → α → Prop) : List Addr → List α → Prop
  | nil : Each R [] []
  | cons {p : Addr} {x : α} {ps : List Addr} {xs : List α} : R p x → Each R ps xs → Each R (p :: ps) (x :: xs)
section
variable {α β : Type} {R S : Addr → α → Prop}
theorem Each.imp (k : ∀ p x, R p x → S p x) : ∀ {ps : List Addr} {xs : List α}, Each R ps xs → Each S ps xs
  | _, _, .nil => .nil
  | _, _, .cons h r => .cons (k _ _ h) (r.imp k)
theorem Each.length : ∀ {ps : List Addr} {xs : List α}, Each R ps xs → ps.length = xs.length
  | _, _, .nil => rfl
  | _, _, .cons h r => congrArg (· + 1) r.length
theorem Each.get : ∀ {ps : List Addr} {xs : List α} {i : Nat} {p : Addr}, Each R ps xs → ps[i]? = some p → ∃ x, xs[i]? = some x ∧ R p x
  | _, _, 0, _, .cons h r, e => ⟨_, rfl, by cases e; exact h⟩
  | _, _, i + 1, _, .cons h r, e => r.get (i := i) e
theorem Each.app : ∀ {ps : List Addr} {xs : List α} {qs : List Addr} {ys : List α}, Each R ps xs → Each R qs ys → Each R (ps ++ qs) (xs ++ ys)
  | _, _, _, _, .nil, h => h
  | _, _, _, _, .cons h r, g => .cons h (r.app g)
theorem Each.mem : ∀ {ps : List Addr} {xs : List α}, Each R ps xs → ∀ p ∈ ps, ∃ x ∈ xs, R p x
  | _, _, .nil, _, m => by cases m
  | _, _, .cons h r, p, m => by
    rcases List.mem_cons.mp m with e | m
    · subst e; exact ⟨_, by simp, h⟩
    · obtain ⟨x, hx, q⟩ := r.mem p m
      exact ⟨x, by simp [hx], q⟩
theorem Each.of (f : Addr → α) : ∀ {ps : List Addr}, (∀ p ∈ ps, R p (f p)) → Each R ps (ps.map f)
  | [], _ => .nil
  | p :: ps, h => .cons (h p (by simp)) (Each.of f fun q hq => h q (by simp [hq]))
theorem Each.take : ∀ {ps : List Addr} {xs : List α} (n : Nat), Each R ps xs → Each R (ps.take n) (xs.take n)
  | _, _, 0, _ => by simpa using Each.nil
  | _, _, _ + 1, .nil => by simpa using Each.nil
  | _, _, n + 1, .cons h r => by simpa using Each.cons h (r.take n)
theorem Each.drop : ∀ {ps : List Addr} {xs : List α} (n : Nat), Each R ps xs → Each R (ps.drop n) (xs.drop n)
  | _, _, 0, h => by simpa using h
  | _, _, _ + 1, .nil => by simpa using Each.nil
  | _, _, n + 1, .cons h r => by simpa using r.drop n
/-- as pairs -/
theorem Each.pairs : ∀ {ps : List Addr} {xs : List α}, Each R ps xs → ∃ zs : List (Addr × α), ps = zs.map (·.1) ∧ xs = zs.map (·.2) ∧ ∀ z ∈ zs, R z.1 z.2
  | _, _, .nil => ⟨[], rfl, rfl, fun z m => by cases m⟩
  | p :: _, x :: _, .cons h r => by
    obtain ⟨zs, e1, e2, k⟩ := r.pairs
    refine ⟨(p, x) :: zs, by rw [e1]; rfl, by rw [e2]; rfl, fun z m => ?_⟩
    rcases List.mem_cons.mp m with e | m
    · subst e; exact h
    · exact k z m
theorem Each.ofPairs {zs : List (Addr × α)} (h : ∀ z ∈ zs, R z.1 z.2) : Each R (zs.map (·.1)) (zs.map (·.2)) := by
  induction zs with
  | nil => exact .nil
  | cons z r ih => exact .cons (h z (by simp)) (ih fun y hy => h y (by simp [hy]))
end
abbrev TupAt (H : Hp) (p : Addr) (c : List Str) : Prop := H p = some (.tup (c.map V.str))
abbrev TupIAt (H : Hp) (p : Addr) (c : List Int) : Prop := H p = some (.tup (c.map V.int))
theorem dpAll_each {α : Type} {f : α → PyData} : ∀ {ps : List Addr} {cs : List α}, Each (fun p c => Dp K H (.ref p) (f c)) ps cs → DpAll K H (ps.map V.ref) (cs.map f)
  | _, _, .nil => .nil
  | _, _, .cons h r => .cons h (dpAll_each r)
theorem dp_TT {b : Addr} {ps : List Addr} {cs : List (List Str)} (h : H b = some (.tup (ps.map V.ref))) (e : Each (TupAt H) ps cs) : Dp K H (.ref b) (.tuple (cs.map dT)) :=
  .tup (.of h) (dpAll_each (e.imp fun p c h => dp_T (.of h)))
theorem dp_LI {b : Addr} {ps : List Addr} {cs : List (List Int)} (h : H b = some (.lst (ps.map V.ref))) (e : Each (TupIAt H) ps cs) : Dp K H (.ref b) (.list (cs.map dI)) :=
  .lst (.of h) (dpAll_each (e.imp fun p c h => dp_I (.of h)))
theorem Each.ex {α : Type} {f : α → HO} (e : Ex H H') {ps : List Addr} {xs : List α} (h : Each (fun p x => H p = some (f x)) ps xs) : Each (fun p x => H' p = some (f x)) ps xs := h.imp fun p x q => e _ _ q
theorem Each.tex {α : Type} {f : α → List V} (e : TEx H H') {ps : List Addr} {xs : List α} (h : Each (fun p x => H p = some (.tup (f x))) ps xs) : Each (fun p x => H' p = some (.tup (f x))) ps xs := h.imp fun p x q => e _ _ q
end
end KK
set_option maxHeartbeats 4000000
/-! More of worlds: comprehensions that sift and turn; tests; pairs. -/
namespace KK
open PySem PySem.Spec PyProof.Rows L2 Evl
section
variable {W : Hp → Hp → Prop} {K : PySem.W.Frag} {Hc H Hc1 H' : Hp} {σ : L2.St} {te ta tb tl : TE} {tt u : TT} {g : TG} {vs : List Nat} {j : Nat} {v : V} {xs : List V} {P P' : V → Hp → Prop}
theorem isL.back (e : Ex Hc Hc1) (h : isL Hc1 xs v H') : isL Hc xs v H' := by
  obtain ⟨p, n, r⟩ := h
  exact ⟨p, fresh_back e n, r⟩
theorem isU.back (e : Ex Hc Hc1) (h : isU Hc1 xs v H') : isU Hc xs v H' := by
  obtain ⟨p, n, r⟩ := h
  exact ⟨p, fresh_back e n, r⟩
theorem ev_of (h : ∀ Hk, Ex Hc Hk → EW Ex te σ Hk (isV v)) : Ev te σ Hc v := fun H1 e Q q => h H1 e H1 (Ex.refl _) Q fun v' Hc' H2 e1 e2 ev => by
  have ev : v' = v := ev
  rw [ev]; exact q H2 (e1.trans e2)
theorem evl_of (h : ∀ Hk, Ex Hc Hk → EW Ex te σ Hk (isL Hk xs)) : EvL te σ Hc xs := fun H1 e Q q => h H1 e H1 (Ex.refl _) Q fun v' Hc' H2 e1 e2 ⟨p, n, ev, hp⟩ => by
  rw [ev]; exact q p H2 n (e1.trans e2) (e2 _ _ hp)
theorem evu_of (h : ∀ Hk, Ex Hc Hk → EW Ex te σ Hk (isU Hk xs)) : EvU te σ Hc xs := fun H1 e Q q => h H1 e H1 (Ex.refl _) Q fun v' Hc' H2 e1 e2 ⟨p, n, ev, hp⟩ => by
  rw [ev]; exact q p H2 n (e1.trans e2) (e2 _ _ hp)
theorem ew_andV (ha : EW W ta σ Hc (isV (.bl true))) (hb : ∀ H1, Ex Hc H1 → EW W tb σ H1 P) : EW W (tAndV ta tb) σ Hc P :=
  fun H1 w1 Q q => ha H1 w1 _ fun v Hc1 H2 e1 w2 ev => ⟨true, ev, iteT (hb Hc1 e1 H2 w2 Q fun v Hc2 H3 e2 w3 p => q v Hc2 H3 (e1.trans e2) w3 p)⟩
theorem ewt_B {PB : Bool → Hp → Prop} (h : EW W te σ Hc fun v H' => ∃ b, v = .bl b ∧ PB b H') : EWT W (tB te) σ Hc PB := fun H1 w1 Q q => h H1 w1 _ fun v Hc1 H2 e1 w2 ⟨b, ev, pb⟩ => ⟨b, ev, q b Hc1 H2 e1 w2 pb⟩
theorem ewt_T {PB : Bool → Hp → Prop} (h : EW W te σ Hc fun v H' => ∃ b, v = .bl b ∧ PB b H') : EWT W (tTest te) σ Hc PB := fun H1 w1 Q q => h H1 w1 _ fun v Hc1 H2 e1 w2 ⟨b, ev, pb⟩ => ⟨b, ev, q b Hc1 H2 e1 w2 pb⟩
abbrev isB (b : Bool) : Bool → Hp → Prop := fun b' _ => b' = b
theorem ewt_Bv {b : Bool} (h : EW W te σ Hc (isV (.bl b))) : EWT W (tB te) σ Hc (isB b) := ewt_B (h.imp fun v H' _ ev => ⟨b, ev, rfl⟩)
theorem ewt_Tv {b : Bool} (h : EW W te σ Hc (isV (.bl b))) : EWT W (tTest te) σ Hc (isB b) := ewt_T (h.imp fun v H' _ ev => ⟨b, ev, rfl⟩)
theorem EWT.imp {PB PB' : Bool → Hp → Prop} (h : EWT W tt σ Hc PB) (k : ∀ b H', Ex Hc H' → PB b H' → PB' b H') : EWT W tt σ Hc PB' := fun H1 w Q q => h H1 w Q fun v Hc' H2 e w2 p => q v Hc' H2 e w2 (k v Hc' e p)
theorem ewt_not {b : Bool} (h : EWT W tt σ Hc (isB b)) : EWT W (tNot tt) σ Hc (isB (!b)) := fun H1 w1 Q q => h H1 w1 _ fun b' Hc1 H2 e1 w2 eb => q _ Hc1 H2 e1 w2 (by
  have eb : b' = b := eb
  rw [eb])
theorem ewt_or {a b : Bool} (h1 : EWT W tt σ Hc (isB a)) (h2 : a = false → ∀ H1, Ex Hc H1 → EWT W u σ H1 (isB b)) : EWT W (tOr tt u) σ Hc (isB (a || b)) := fun H1 w1 Q q => h1 H1 w1 _ fun b' Hc1 H2 e1 w2 eb => by
  have eb : b' = a := eb
  subst eb
  cases b' with
  | true => exact iteT (q true Hc1 H2 e1 w2 rfl)
  | false => exact iteF (h2 rfl Hc1 e1 H2 w2 Q fun b2 Hc2 H3 e2 w3 e => q b2 Hc2 H3 (e1.trans e2) w3 (by
      have e : b2 = b := e
      rw [e, Bool.false_or]))
theorem ewt_and {a b : Bool} (h1 : EWT W tt σ Hc (isB a)) (h2 : a = true → ∀ H1, Ex Hc H1 → EWT W u σ H1 (isB b)) : EWT W (tAnd tt u) σ Hc (isB (a && b)) := fun H1 w1 Q q => h1 H1 w1 _ fun b' Hc1 H2 e1 w2 eb => by
  have eb : b' = a := eb
  subst eb
  cases b' with
  | false => exact iteF (q false Hc1 H2 e1 w2 rfl)
  | true => exact iteT (h2 rfl Hc1 e1 H2 w2 Q fun b2 Hc2 H3 e2 w3 e => q b2 Hc2 H3 (e1.trans e2) w3 (by
      have e : b2 = b := e
      rw [e, Bool.true_and]))
/-- the iterable first, then the rest -/
theorem ew_lcbL (hl : EW W tl σ Hc P) (hk : ∀ v H1, Ex Hc H1 → P v H1 → EW W (tLc (iList K (tC v)) g tt te vs) σ H1 P') : EW W (tLc (iList K tl) g tt te vs) σ Hc P' :=
  fun H1 w1 Q q => hl H1 w1 _ fun v Hc1 H2 e1 w2 p => hk v Hc1 e1 p H2 w2 Q fun v2 Hc2 H3 e2 w3 p3 => q v2 Hc2 H3 (e1.trans e2) w3 p3
theorem ew_lcbT (hl : EW W tl σ Hc P) (hk : ∀ v H1, Ex Hc H1 → P v H1 → EW W (tLc (iTup K (tC v)) g tt te vs) σ H1 P') : EW W (tLc (iTup K tl) g tt te vs) σ Hc P' :=
  fun H1 w1 Q q => hl H1 w1 _ fun v Hc1 H2 e1 w2 p => hk v Hc1 e1 p H2 w2 Q fun v2 Hc2 H3 e2 w3 p3 => q v2 Hc2 H3 (e1.trans e2) w3 p3
section
variable {α : Type} {a : Addr} {ys : List α} {gv h : α → V} {f : α → Bool} {sg : α → L2.St}
theorem fm_step {i : Nat} {y : α} (hy : ys[i]? = some y) : ((ys.take (i + 1)).filter f).map h = ((ys.take i).filter f).map h ++ (if f y = true then [h y] else []) := by
  rw [List.take_add_one, hy, List.filter_append, List.map_append]
  congr 1
  show (List.filter f [y]).map h = _
  by_cases q : f y = true
  · rw [if_pos q]; simp [q]
  · rw [if_neg q]; simp [q]
/-- a turn that sifts -/
theorem fm_turn (w : Wld W) {i : Nat} {y : α} (hy : ys[i]? = some y) {σ2 : L2.St} {Hk : Hp} {acc : List V} (pa : acc = ((ys.take i).filter f).map h) (ht : EvT tt σ2 Hk (f y)) (he : f y = true → Ev te σ2 Hk (h y)) :
    EWT W tt σ2 Hk fun b H2 => if b = true then EW W te σ2 H2 fun v _ => acc ++ [v] = ((ys.take (i + 1)).filter f).map h else acc = ((ys.take (i + 1)).filter f).map h := by
  refine ewt_dec w ht (fun e1 => EW.imp (ew w (he e1)) fun v H' _ ev => ?_) fun e1 => ?_
  · have ev : v = h y := ev
    rw [fm_step hy, if_pos e1, ev, pa]
  · rw [fm_step hy, if_neg (by rw [e1]; decide), List.append_nil, pa]
/-- over a list that the world holds -/
theorem ew_fmLW (w : Wld W) (ha : ∀ Hk H', Ex Hc Hk → W Hk H' → SqL K H' a (ys.map gv)) (hz : ys.length < 50000) (hg : ∀ y ∈ ys, ∀ H' k, Ex Hc H' → k (sg y) H' → g (gv y) (wipe σ vs) H' k) (hw : ∀ y ∈ ys, wipe (sg y) vs = wipe σ vs)
    (ht : ∀ y ∈ ys, ∀ Hk, Ex Hc Hk → EvT tt (sg y) Hk (f y)) (he : ∀ y ∈ ys, ∀ Hk, Ex Hc Hk → f y = true → Ev te (sg y) Hk (h y)) : EW W (tLc (iList K (tC (.ref a))) g tt te vs) σ Hc (isL Hc ((ys.filter f).map h)) := fun H1 w1 Q q => by
  refine ⟨a, rfl, ⟨_, ha Hc H1 (Ex.refl _) w1⟩, fun Dl hD => lc_list (xs := ys.map gv) (Lw W Hc Dl fun i acc _ => acc = ((ys.take i).filter f).map h) (lw_start w (Ex.refl _) w1 hD (fun _ _ => rfl)) (fun i H' _ ⟨Hk, _, e, wk, _⟩ => ha Hk H' e wk) (fun i x H' hi p => ?_) (fun H' ⟨Hk, acc, e, wk, hd, _, pa⟩ => ?_)⟩
  · rw [List.getElem?_map] at hi
    obtain ⟨y, hy, rfl⟩ := Option.map_eq_some_iff.mp hi
    have my : y ∈ ys := List.mem_of_getElem? hy
    obtain ⟨Hk0, _, e0, wk0, _⟩ := id p
    refine hg y my _ _ (e0.trans (w.ex wk0)) ⟨hw y my, lw_turn w (fresh_back (w.ex w1) hD) (fun _ _ _ _ _ h => h) (by have := (List.getElem?_eq_some_iff.mp hy).1; omega) p fun acc Hk e pa => fm_turn w hy pa (ht y my Hk e) (he y my Hk e)⟩
  · rw [List.length_map, List.take_length] at pa
    exact q _ Hk H' e wk ⟨Dl, fresh_back (w.ex w1) hD, rfl, by rw [hd, pa]⟩
theorem ew_fmL (w : Wld W) (ha : SqL K Hc a (ys.map gv)) (hz : ys.length < 50000) (hg : ∀ y ∈ ys, ∀ H' k, Ex Hc H' → k (sg y) H' → g (gv y) (wipe σ vs) H' k) (hw : ∀ y ∈ ys, wipe (sg y) vs = wipe σ vs)
    (ht : ∀ y ∈ ys, ∀ Hk, Ex Hc Hk → EvT tt (sg y) Hk (f y)) (he : ∀ y ∈ ys, ∀ Hk, Ex Hc Hk → f y = true → Ev te (sg y) Hk (h y)) : EW W (tLc (iList K (tC (.ref a))) g tt te vs) σ Hc (isL Hc ((ys.filter f).map h)) :=
  ew_fmLW w (fun Hk H' e wk => ex_l (w.ex wk) (ex_l e ha)) hz hg hw ht he
theorem ew_fmT (w : Wld W) (ha : SqT K Hc a (ys.map gv)) (hz : ys.length < 50000) (hg : ∀ y ∈ ys, ∀ H' k, Ex Hc H' → k (sg y) H' → g (gv y) (wipe σ vs) H' k) (hw : ∀ y ∈ ys, wipe (sg y) vs = wipe σ vs)
    (ht : ∀ y ∈ ys, ∀ Hk, Ex Hc Hk → EvT tt (sg y) Hk (f y)) (he : ∀ y ∈ ys, ∀ Hk, Ex Hc Hk → f y = true → Ev te (sg y) Hk (h y)) : EW W (tLc (iTup K (tC (.ref a))) g tt te vs) σ Hc (isL Hc ((ys.filter f).map h)) := fun H1 w1 Q q => by
  refine ⟨a, rfl, ⟨_, ex_t (w.ex w1) ha⟩, fun Dl hD => lc_tup (xs := ys.map gv) (Lw W Hc Dl fun i acc _ => acc = ((ys.take i).filter f).map h) (lw_start w (Ex.refl _) w1 hD (fun _ _ => rfl)) (fun i H' _ ⟨Hk, _, e, wk, _⟩ => ex_t (w.ex wk) (ex_t e ha)) (fun i x H' hi p => ?_) (fun H' ⟨Hk, acc, e, wk, hd, _, pa⟩ => ?_)⟩
  · rw [List.getElem?_map] at hi
    obtain ⟨y, hy, rfl⟩ := Option.map_eq_some_iff.mp hi
    have my : y ∈ ys := List.mem_of_getElem? hy
    obtain ⟨Hk0, _, e0, wk0, _⟩ := id p
    refine hg y my _ _ (e0.trans (w.ex wk0)) ⟨hw y my, lw_turn w (fresh_back (w.ex w1) hD) (fun _ _ _ _ _ h => h) (by have := (List.getElem?_eq_some_iff.mp hy).1; omega) p fun acc Hk e pa => fm_turn w hy pa (ht y my Hk e) (he y my Hk e)⟩
  · rw [List.length_map, List.take_length] at pa
    exact q _ Hk H' e wk ⟨Dl, fresh_back (w.ex w1) hD, rfl, by rw [hd, pa]⟩
theorem filter_all (l : List α) : l.filter (fun _ => true) = l := List.filter_eq_self.mpr fun _ _ => rfl
theorem ew_mpL (w : Wld W) (ha : SqL K Hc a (ys.map gv)) (hz : ys.length < 50000) (hg : ∀ y ∈ ys, ∀ H' k, Ex Hc H' → k (sg y) H' → g (gv y) (wipe σ vs) H' k) (hw : ∀ y ∈ ys, wipe (sg y) vs = wipe σ vs)
    (he : ∀ y ∈ ys, ∀ Hk, Ex Hc Hk → Ev te (sg y) Hk (h y)) : EW W (tLc (iList K (tC (.ref a))) g tYes te vs) σ Hc (isL Hc (ys.map h)) := by
  have z := ew_fmL (tt := tYes) (f := fun _ => true) (h := h) w ha hz hg hw (fun y _ Hk _ H1 e Q q => q H1 (Ex.refl _)) (fun y my Hk e _ => he y my Hk e)
  rw [filter_all] at z
  exact z
theorem ew_mpT (w : Wld W) (ha : SqT K Hc a (ys.map gv)) (hz : ys.length < 50000) (hg : ∀ y ∈ ys, ∀ H' k, Ex Hc H' → k (sg y) H' → g (gv y) (wipe σ vs) H' k) (hw : ∀ y ∈ ys, wipe (sg y) vs = wipe σ vs)
    (he : ∀ y ∈ ys, ∀ Hk, Ex Hc Hk → Ev te (sg y) Hk (h y)) : EW W (tLc (iTup K (tC (.ref a))) g tYes te vs) σ Hc (isL Hc (ys.map h)) := by
  have z := ew_fmT (tt := tYes) (f := fun _ => true) (h := h) w ha hz hg hw (fun y _ Hk _ H1 e Q q => q H1 (Ex.refl _)) (fun y my Hk e _ => he y my Hk e)
  rw [filter_all] at z
  exact z
theorem ew_allF {p : α → Bool} (w : Wld W) (h : EW W te σ Hc (isL Hc (ys.map fun y => .bl (p y)))) : EW W (tCB (rAll K) (tCons te tNil)) σ Hc (isV (.bl (ys.all p))) := by
  refine (ew_all (PB := fun bs => bs = ys.map p) w (h.imp fun v H' _ ⟨D, _, ev, hd⟩ => ⟨D, ys.map p, ev, by rw [hd, List.map_map]; rfl, rfl⟩)).imp fun v H' _ ⟨bs, pb, ev⟩ => ?_
  rw [ev, pb, List.all_map]
  rfl
theorem ew_anyF {p : α → Bool} (w : Wld W) (h : EW W te σ Hc (isL Hc (ys.map fun y => .bl (p y)))) : EW W (tCB (rAny K) (tCons te tNil)) σ Hc (isV (.bl (ys.any p))) := by
  refine (ew_any (PB := fun bs => bs = ys.map p) w (h.imp fun v H' _ ⟨D, _, ev, hd⟩ => ⟨D, ys.map p, ev, by rw [hd, List.map_map]; rfl, rfl⟩)).imp fun v H' _ ⟨bs, pb, ev⟩ => ?_
  rw [ev, pb, List.any_map]
  rfl
end
/-- tuple(a new list) -/
theorem ew_tupL (w : Wld W) (h : EW W te σ Hc (isL Hc xs)) : EW W (tThen te (kTup K)) σ Hc (isU Hc xs) := fun H1 w1 Q q => h H1 w1 _ fun v Hc1 H2 e1 w2 ⟨p, n, ev, hp⟩ =>
  .inl ⟨p, xs, ev, SqL.of (w.ex w2 _ _ hp), fun r nr => by
    have n0 := fresh_back (w.ex w2) nr
    exact q (.ref r) _ _ (e1.trans (Ex.new n0)) (w.add w2 nr (Ex.new nr) upd_same) ⟨r, fresh_back e1 n0, rfl, upd_same⟩⟩
end
end KK
namespace KK
open PySem PySem.Spec PyProof.Rows L2 Evl
section
variable {W : Hp → Hp → Prop} {K : PySem.W.Frag} {Hc H Hc1 H' : Hp} {σ : L2.St} {te ta tb tl : TE} {tt u : TT} {g : TG} {vs : List Nat} {j : Nat} {v z : V} {xs : List V} {P P' : V → Hp → Prop} {a : Addr}
theorem ew_lcLv (hl : EW W tl σ Hc (isV (.ref a))) (hk : ∀ H1, Ex Hc H1 → EW W (tLc (iList K (tC (.ref a))) g tt te vs) σ H1 (isL H1 xs)) : EW W (tLc (iList K tl) g tt te vs) σ Hc (isL Hc xs) :=
  ew_lcbL hl fun v H1 e ev => by
    have ev : v = .ref a := ev
    rw [ev]
    exact (hk H1 e).imp fun v H' _ h => h.back e
theorem ew_lcTv (hl : EW W tl σ Hc (isV (.ref a))) (hk : ∀ H1, Ex Hc H1 → EW W (tLc (iTup K (tC (.ref a))) g tt te vs) σ H1 (isL H1 xs)) : EW W (tLc (iTup K tl) g tt te vs) σ Hc (isL Hc xs) :=
  ew_lcbT hl fun v H1 e ev => by
    have ev : v = .ref a := ev
    rw [ev]
    exact (hk H1 e).imp fun v H' _ h => h.back e
def SpU (sp : Sp) (vs : List V) (H : Hp) (xs : List V) : Prop := ∀ H1, Ex H H1 → ∀ Q : VK, (∀ p H2, H1 p = none → Ex H1 H2 → H2 p = some (.tup xs) → Q (.ref p) H2) → ∀ E : XK, sp vs H1 Q E
def RetU (xs : List V) (H : Hp) (Q : VK) : Prop := ∀ p H2, H p = none → Ex H H2 → H2 p = some (.tup xs) → Q (.ref p) H2
theorem spw_V (w : Wld W) {sp : Sp} {us : List V} (h : SpV sp us Hc z) : SpW W sp us Hc (isV z) := fun H1 w1 Q E q => h H1 (w.ex w1) Q (fun H2 e => q z Hc H2 (Ex.refl _) (w.grow w1 e) rfl) E
theorem spw_U (w : Wld W) {sp : Sp} {us : List V} (h : SpU sp us Hc xs) : SpW W sp us Hc (isU Hc xs) := fun H1 w1 Q E q => h H1 (w.ex w1) Q (fun p H2 n e hp => by
  have n0 := fresh_back (w.ex w1) n
  exact q (.ref p) _ H2 (Ex.new n0) (w.add w1 n e hp) ⟨p, n0, rfl, upd_same⟩) E
theorem spw_L (w : Wld W) {sp : Sp} {us : List V} (h : SpL sp us Hc xs) : SpW W sp us Hc (isL Hc xs) := fun H1 w1 Q E q => h H1 (w.ex w1) Q (fun p H2 n e hp => by
  have n0 := fresh_back (w.ex w1) n
  exact q (.ref p) _ H2 (Ex.new n0) (w.add w1 n e hp) ⟨p, n0, rfl, upd_same⟩) E
theorem retV_end {Q : VK} (k : RetV v H Q) : ∀ v' Hc' H', Ex H Hc' → Ex Hc' H' → v' = v → Q v' H' := fun v' Hc' H' e1 e2 ev => by rw [ev]; exact k H' (e1.trans e2)
theorem retU_end {Q : VK} (k : RetU xs H Q) : ∀ v' Hc' H', Ex H Hc' → Ex Hc' H' → isU H xs v' Hc' → Q v' H' := fun v' Hc' H' e1 e2 ⟨p, n, ev, hp⟩ => by rw [ev]; exact k p H' n (e1.trans e2) (e2 _ _ hp)
theorem retL_end {Q : VK} (k : RetL xs H Q) : ∀ v' Hc' H', Ex H Hc' → Ex Hc' H' → isL H xs v' Hc' → Q v' H' := fun v' Hc' H' e1 e2 ⟨p, n, ev, hp⟩ => by rw [ev]; exact k p H' n (e1.trans e2) (e2 _ _ hp)
/-! ### the same, the target a name -/
section
variable {α : Type} {ys : List α} {gv h : α → V} {f : α → Bool}
theorem ew_fmLn (w : Wld W) (ha : SqL K Hc a (ys.map gv)) (hz : ys.length < 50000) (hw : ∀ y ∈ ys, wipe ((wipe σ vs).set j (some (gv y))) vs = wipe σ vs)
    (ht : ∀ y ∈ ys, ∀ Hk, Ex Hc Hk → EvT tt ((wipe σ vs).set j (some (gv y))) Hk (f y)) (he : ∀ y ∈ ys, ∀ Hk, Ex Hc Hk → f y = true → Ev te ((wipe σ vs).set j (some (gv y))) Hk (h y)) : EW W (tLc (iList K (tC (.ref a))) (gName j) tt te vs) σ Hc (isL Hc ((ys.filter f).map h)) :=
  ew_fmL (sg := fun y => (wipe σ vs).set j (some (gv y))) w ha hz (fun _ _ _ _ _ h => h) hw ht he
theorem ew_fmTn (w : Wld W) (ha : SqT K Hc a (ys.map gv)) (hz : ys.length < 50000) (hw : ∀ y ∈ ys, wipe ((wipe σ vs).set j (some (gv y))) vs = wipe σ vs)
    (ht : ∀ y ∈ ys, ∀ Hk, Ex Hc Hk → EvT tt ((wipe σ vs).set j (some (gv y))) Hk (f y)) (he : ∀ y ∈ ys, ∀ Hk, Ex Hc Hk → f y = true → Ev te ((wipe σ vs).set j (some (gv y))) Hk (h y)) : EW W (tLc (iTup K (tC (.ref a))) (gName j) tt te vs) σ Hc (isL Hc ((ys.filter f).map h)) :=
  ew_fmT (sg := fun y => (wipe σ vs).set j (some (gv y))) w ha hz (fun _ _ _ _ _ h => h) hw ht he
theorem ew_mpLn (w : Wld W) (ha : SqL K Hc a (ys.map gv)) (hz : ys.length < 50000) (hw : ∀ y ∈ ys, wipe ((wipe σ vs).set j (some (gv y))) vs = wipe σ vs)
    (he : ∀ y ∈ ys, ∀ Hk, Ex Hc Hk → Ev te ((wipe σ vs).set j (some (gv y))) Hk (h y)) : EW W (tLc (iList K (tC (.ref a))) (gName j) tYes te vs) σ Hc (isL Hc (ys.map h)) :=
  ew_mpL (sg := fun y => (wipe σ vs).set j (some (gv y))) w ha hz (fun _ _ _ _ _ h => h) hw he
theorem ew_mpTn (w : Wld W) (ha : SqT K Hc a (ys.map gv)) (hz : ys.length < 50000) (hw : ∀ y ∈ ys, wipe ((wipe σ vs).set j (some (gv y))) vs = wipe σ vs)
    (he : ∀ y ∈ ys, ∀ Hk, Ex Hc Hk → Ev te ((wipe σ vs).set j (some (gv y))) Hk (h y)) : EW W (tLc (iTup K (tC (.ref a))) (gName j) tYes te vs) σ Hc (isL Hc (ys.map h)) :=
  ew_mpT (sg := fun y => (wipe σ vs).set j (some (gv y))) w ha hz (fun _ _ _ _ _ h => h) hw he
end
/-! ### membership among texts, among ints -/
theorem inV_str (z : Str) (ps : List Str) : inV (.str z) (ps.map V.str) = decide (z ∈ ps) := by
  unfold inV
  rw [List.any_map]
  by_cases q : z ∈ ps
  · rw [decide_eq_true q, List.any_eq_true]
    exact ⟨z, q, by show eqV (V.str z) (V.str z) = true; simp [eqV]⟩
  · rw [decide_eq_false q, List.any_eq_false]
    intro x hx e
    have e : eqV (V.str x) (V.str z) = true := e
    simp [eqV] at e
    exact q (by rw [← e]; exact hx)
theorem inV_int (z : Int) (ps : List Int) : inV (.int z) (ps.map V.int) = decide (z ∈ ps) := by
  unfold inV
  rw [List.any_map]
  by_cases q : z ∈ ps
  · rw [decide_eq_true q, List.any_eq_true]
    exact ⟨z, q, by show eqV (V.int z) (V.int z) = true; simp [eqV]⟩
  · rw [decide_eq_false q, List.any_eq_false]
    intro x hx e
    have e : eqV (V.int x) (V.int z) = true := e
    simp [eqV] at e
    exact q (by rw [← e]; exact hx)
theorem flat_strs (ps : List Str) : (ps.map V.str).all flatV = true := by
  rw [List.all_map, List.all_eq_true]
  intro x _
  rfl
theorem flat_ints (ps : List Int) : (ps.map V.int).all flatV = true := by
  rw [List.all_map, List.all_eq_true]
  intro x _
  rfl
theorem rv_strT {p : Addr} {z : Str} {ps : List Str} (h : SqT K H p (ps.map V.str)) : RV (rIn K false) (.str z) (.ref p) H (.bl (decide (z ∈ ps))) := by
  have := rv_isT (K := K) h (x := .str z) rfl (flat_strs ps)
  rwa [inV_str] at this
theorem rv_strL {p : Addr} {z : Str} {ps : List Str} (h : SqL K H p (ps.map V.str)) : RV (rIn K false) (.str z) (.ref p) H (.bl (decide (z ∈ ps))) := by
  have := rv_isL (K := K) h (x := .str z) rfl (flat_strs ps)
  rwa [inV_str] at this
theorem rv_intT {p : Addr} {z : Int} {ps : List Int} (h : SqT K H p (ps.map V.int)) : RV (rIn K false) (.int z) (.ref p) H (.bl (decide (z ∈ ps))) := by
  have := rv_isT (K := K) h (x := .int z) rfl (flat_ints ps)
  rwa [inV_int] at this
theorem rv_intL {p : Addr} {z : Int} {ps : List Int} (h : SqL K H p (ps.map V.int)) : RV (rIn K false) (.int z) (.ref p) H (.bl (decide (z ∈ ps))) := by
  have := rv_isL (K := K) h (x := .int z) rfl (flat_ints ps)
  rwa [inV_int] at this
/-! ### data -/
theorem rv_eqD {x y : V} {d e : PyData} (h1 : Dp K H x d) (h2 : Dp K H y e) (s1 : SeqAt.shaped d = true) (s2 : SeqAt.shaped e = true) (hd : ∀ {H1 : Hp}, Ex H H1 → Dp K H1 x d ∧ Dp K H1 y e) : RV (rEqD K) x y H (.bl (PyData.eqv d e)) :=
  fun H1 e1 Q q => ⟨d, e, (hd e1).1, (hd e1).2, s1, s2, q H1 (Ex.refl _)⟩
end
/-! ### a walk over the pairs of two tuples -/
theorem walk_zipT {K : PySem.W.Frag} {a b : Addr} {xs ys : List V} {n : Nat} (hn : n = min xs.length ys.length) : Walk (RZ.ItzT K a b) n (fun H => SqT K H a xs ∧ SqT K H b ys) (YPair (fun i => xs[i]?) (fun i => ys[i]?)) := by
  subst hn
  refine ⟨fun i _ hi q => ?_, fun _ q => ⟨xs, ys, q.1, q.2, by omega⟩, fun i H v H' _ q y => ?_⟩
  · have h1 : i < xs.length := by omega
    have h2 : i < ys.length := by omega
    exact ⟨xs, ys, xs[i], ys[i], q.1, q.2, by simp [h1], by simp [h2]⟩
  · obtain ⟨T, x, z, h1, h2, h3, h4, h5⟩ := y
    exact ⟨T, x, z, h1, h2, h3, h4 xs q.1, h5 ys q.2⟩
theorem ew_zipT {W : Hp → Hp → Prop} {K : PySem.W.Frag} {Hc : Hp} {σ : L2.St} {te : TE} {ta : TA} {vs : List Nat} {i1 i2 : Nat} {a : Addr} {xs ys : List V} (w : Wld W) (hl : EWA W ta σ Hc fun us H' => ∃ b, us = [.ref a, .ref b] ∧ SqT K H' a xs ∧ SqT K H' b ys) (hz : xs.length < 50000)
    (hw : ∀ x y, wipe (((wipe σ vs).set i1 (some x)).set i2 (some y)) vs = wipe σ vs)
    (he : ∀ (i : Nat) (x y : V) (Hk : Hp), xs[i]? = some x → ys[i]? = some y → Ex Hc Hk → Ev te (((wipe σ vs).set i1 (some x)).set i2 (some y)) Hk (.bl true)) :
    EW W (tLc (RZ.iZipA K ta) (gTup K 2 (gCons (gName i1) (gCons (gName i2) gNil))) tYes te vs) σ Hc (isL Hc ((List.replicate (min xs.length ys.length) ()).map fun _ => V.bl true)) := fun H1 w1 Q q => hl H1 w1 _ fun us Hc1 H2 e1 w2 ⟨b, eu, hx, hy⟩ => by
  subst eu
  refine ⟨a, b, xs, ys, rfl, .inr ⟨ex_t (w.ex w2) hx, ex_t (w.ex w2) hy, fun Dl hD => lc_it (walk_zipT rfl) (Lw W Hc1 Dl fun i acc _ => acc = (List.replicate i ()).map fun _ => V.bl true) (lw_start w (Ex.refl _) w2 hD (fun _ _ => rfl)) (fun i H' _ ⟨Hk, _, e, wk, _⟩ => ⟨ex_t (w.ex wk) (ex_t e hx), ex_t (w.ex wk) (ex_t e hy)⟩) (fun i x H' H'' hi p hyl => ?_) (fun H' ⟨Hk, acc, e, wk, hd, _, pa⟩ => ?_)⟩⟩
  · obtain ⟨T, x1, y1, rfl, nT, rfl, g1, g2⟩ := hyl
    refine ⟨T, [x1, y1], rfl, SqT.of upd_same, rfl, x1, [y1], rfl, y1, [], rfl, rfl, hw x1 y1, ?_⟩
    obtain ⟨Hk, acc, e0, wk, hd, hl, pa⟩ := p
    refine lw_turn w (fresh_back (w.ex w2) hD) (fun _ _ _ _ _ h => h) (by omega) ⟨Hk, acc, e0, w.grow wk (Ex.new nT), hd, hl, pa⟩ fun acc Hk e pa => ?_
    refine ewt_yes (EW.imp (ew w (he i x1 y1 Hk g1 g2 (e1.trans e))) fun v H' _ ev => ?_)
    have ev : v = V.bl true := ev
    rw [ev, pa, List.replicate_succ', List.map_append]
    rfl
  · exact q _ Hk H' (e1.trans e) wk ⟨Dl, fresh_back e1 (fresh_back (w.ex w2) hD), rfl, by rw [hd, pa]⟩
end KK
namespace KK
open PySem PySem.Spec PyProof.Rows L2 Evl
section
variable {W : Hp → Hp → Prop} {Hc H : Hp} {σ : L2.St} {t : TT} {D : Ends} {tu tz : TS} {b : Bool}
/-- an if without else, its test False, True, either -/
theorem w_skip (h : EWT W t σ Hc (isB b)) (eb : b = false) (w1 : W Hc H) (k : ∀ Hc' H', Ex Hc Hc' → W Hc' H' → tz D σ H') : tSeq (tIfS t tu tNext) tz D σ H :=
  h H w1 _ fun b' Hc' H' e w2 p => by
    have p : b' = b := p
    subst p
    subst eb
    exact iteF (k Hc' H' e w2)
theorem w_when {PT : Bool → Hp → Prop} (h : EWT W t σ Hc PT) (w1 : W Hc H) (k1 : ∀ Hc' H', Ex Hc Hc' → W Hc' H' → PT true Hc' → tu { D with nx := tz D } σ H') (k2 : ∀ Hc' H', Ex Hc Hc' → W Hc' H' → PT false Hc' → tz D σ H') : tSeq (tIfS t tu tNext) tz D σ H :=
  h H w1 _ fun b Hc' H' e w2 p => by
    cases b with
    | true => exact iteT (k1 Hc' H' e w2 p)
    | false => exact iteF (k2 Hc' H' e w2 p)
end
end KK
set_option maxHeartbeats 4000000
/-! The checks of names, parts, houses, calls. -/
namespace KK
open PySem PySem.Spec PyProof.Rows L2 Evl
theorem name_text {z : Str} (h : NameOk z) : TextOk z := by
  show z.cps.all (· < 0x110000) = true
  rw [← Array.all_toList, List.all_eq_true]
  intro c hc
  have k : ∀ d ∈ letters.cps.toList, decide (d < 0x110000) = true := by decide +kernel
  exact k c (h.2.2 c hc)
section
variable {P : Program} {w : World} {K : PySem.W.Frag} {mg : Str → Option Value} {base : Heap} {H H1 : Hp} {ta : TE} {σ : L2.St}
theorem ev_lenNames {a : Addr} {xs : List Str} (h : Ev ta σ H (.ref a)) (ha : SqT K H a (xs.map V.str)) (nd : xs.Nodup) (hz : xs.length ≤ 4000) : Ev (tLenNames K ta) σ H (.int xs.length) :=
  fun H1 e Q q => h H1 e _ fun H2 e2 => ⟨a, xs, rfl, ex_t (e.trans e2) ha, nd, hz, q H2 e2⟩
/-! is_tuple_of -/
def spTupOf : Sp := fun vs H Q _ => ∃ (a : Addr) (xs : List V) (m : Nat), vs = [.ref a, .int m] ∧ H a = some (.tup xs) ∧ xs.length = m ∧ RetV (.bl true) H Q
theorem scTupOf : FnScope ["thing", "many"] ["thing", "many"] (defScope (top 13)) := ⟨rfl, rfl, rfl, by decide +kernel, rfl, by decide +kernel, by decide +kernel⟩
theorem d_is_tuple_of (T : Txt K mg) : Dfn P w K mg base 1 "is_tuple_of" ["thing", "many"] spTupOf := by
  refine mk_dfn (j := 1) T rfl scTupOf (fun vs H Q E h => ?_) (fun _ _ _ _ _ _ us hl => match us, hl with | [_, _], _ => rfl) (fun cdv A outer s H vs Q E hr h => ?_)
  · obtain ⟨_, _, _, rfl, _⟩ := h
    rfl
  · obtain ⟨a, xs, m, rfl, ha, hl, k⟩ := h
    refine ⟨_, (pss_one (ps_ret (pe_and (pe_callB call_isi (by rfl) (T.free "isinstance") (by decide +kernel) (pa_cons (pv 0) (pa_cons (pe_bltn (v := .ty "tuple") (by rfl) (T.free "tuple") (by decide +kernel) rfl) pa_nil))) (pe_one (pe_cmpR op_eq (pe_callB call_len_seq (by rfl) (T.free "len") (by decide +kernel) (pa_cons (pv 0) pa_nil)) (pv 1) (nomark _)))))), ?_⟩
    refine w_ret (ew pureW (ev_is (w := .bl true) (ev_andV (ev_isiT (ev_var rfl) ha) fun _ => ev_op (ev_lenT (ev_var rfl) (.of ha)) (ev_var rfl) (rv_eq rfl)) (by rw [hl]; simp))) (Ex.refl H) (retV_end k)
/-! are_names -/
def spAreNames : Sp := fun vs H Q _ => ∃ (a : Addr) (zs : List Str), vs = [.ref a] ∧ H a = some (.tup (zs.map V.str)) ∧ 1 ≤ zs.length ∧ zs.length ≤ 6 ∧ zs.Nodup ∧ (∀ z ∈ zs, NameOk z) ∧ RetV (.bl true) H Q
abbrev N14 : List Str := ["thing", "item"]
theorem scAreNames : FnScope N14 ["thing"] (defScope (top 14)) := ⟨rfl, rfl, rfl, by decide +kernel, rfl, by decide +kernel, by decide +kernel⟩
theorem d_are_names (T : Txt K mg) : Dfn P w K mg base 2 "are_names" ["thing"] spAreNames := by
  refine mk_dfn (j := 2) T rfl scAreNames (fun vs H Q E h => ?_) (fun _ _ _ _ _ _ us hl => match us, hl with | [_], _ => rfl) (fun cdv A outer s H vs Q E hr h => ?_)
  · obtain ⟨_, _, rfl, _⟩ := h
    rfl
  · obtain ⟨a, zs, rfl, ha, h1, h6, nd, hn, k⟩ := h
    obtain ⟨t6, m6⟩ := T.kinds
    refine ⟨_, (pss_cons (ps_if (PW.pt (pw_or (pt_not (pt_val (pe_callB call_isi (by rfl) (T.free "isinstance") (by decide +kernel) (pa_cons (pv 0) (pa_cons (pe_bltn (v := .ty "tuple") (by rfl) (T.free "tuple") (by decide +kernel) rfl) pa_nil))))) (pw_or1 (pt_not (pt_chain op_le op_le pe_int (pe_callB call_len_seq (by rfl) (T.free "len") (by decide +kernel) (pa_cons (pv 0) pa_nil)) (pe_glob (v := .int 6) (by rfl) m6 ⟨_, rfl⟩)))))) (pss_one (ps_ret pe_bl)) pss_nil)
      (pss_one (ps_ret (pe_and (pe_callB (cr_all rfl) (by rfl) (T.free "all") (by decide +kernel) (pa_cons (pe_lc (own := [("item", 1)]) rfl scAreNames.nd (pi_tup (pv 0)) (blkOk_by (N := N14) (sc := defScope (top 14)) (by decide +kernel)) (fun _ _ _ _ _ => (pg_name (i := 1) scAreNames.nd rfl (Or.inl rfl))) (fun _ _ _ _ _ => pts_nil) (fun _ _ _ _ _ => (pe_dfn (d_is_name T) (hr.mono (by decide)) (pa_cons (pv 1) pa_nil)))) pa_nil)) (pe_one (pe_cmpR op_eq (pe_lenNames (by rfl) (T.free "len") (T.free "set") (pv 0)) (pe_callB call_len_seq (by rfl) (T.free "len") (by decide +kernel) (pa_cons (pv 0) pa_nil)) (nomark _))))))), ?_⟩
    refine w_if (ewT pureW (et_or (et_not (et_B (ev_isiT (ev_var rfl) ha))) fun _ => et_not (et_chainLe (ev_c (v := .int 1)) (ev_lenT (ev_var rfl) (.of ha)) (ev_c (v := .int 6)) (by simp; omega) (by simp; omega)))) (Ex.refl H) (fun Hc' H' e w p => by cases p) (fun Hc' H' e w p => ?_)
    refine w_ret (ew_andV (ew_allF (ys := zs) (p := fun _ => true) pureW (ew_lcTv (ew pureW (ev_var rfl)) fun H1 e1 => ew_mpTn (ys := zs) pureW (.of (e1 _ _ (e _ _ ha))) (by omega) (fun _ _ => rfl) fun z hz Hk _ => ev_call (ea_cons (ev_var rfl) ea_nil) (fun H1 e Q q E => ⟨z, rfl, hn z hz, q⟩)) |>.imp ?_)
      (fun H1 e1 => ew pureW (ev_is (w := .bl true) (ev_op (ev_lenNames (ev_var rfl) (.of (e1 _ _ (e _ _ ha))) nd (by omega)) (ev_lenT (ev_var rfl) (.of (e1 _ _ (e _ _ ha)))) (rv_eq rfl)) (by simp)))) w (fun v Hc2 H2 e2 w2 ev => retV_end k v Hc2 H2 (e.trans e2) w2 ev)
    intro v H' _ ev
    have ev : v = V.bl _ := ev
    rw [ev]
    show V.bl _ = V.bl true
    congr 1
    simp
/-! in_order -/
def spInOrder : Sp := fun vs H Q _ => ∃ (a b : Addr) (ks ps : List Str), vs = [.ref a, .ref b] ∧ TupAt H a ks ∧ TupAt H b ps ∧ ks.length ≤ 6 ∧ RetU ((ks.filter fun k => decide (k ∈ ps)).map V.str) H Q
abbrev N15 : List Str := ["kinds", "part", "kind"]
theorem scInOrder : FnScope N15 ["kinds", "part"] (defScope (top 15)) := ⟨rfl, rfl, rfl, by decide +kernel, rfl, by decide +kernel, by decide +kernel⟩
theorem d_in_order (T : Txt K mg) : Dfn P w K mg base 1 "in_order" ["kinds", "part"] spInOrder := by
  refine mk_dfn (j := 3) T rfl scInOrder (fun vs H Q E h => ?_) (fun _ _ _ _ _ _ us hl => match us, hl with | [_, _], _ => rfl) (fun cdv A outer s H vs Q E hr h => ?_)
  · obtain ⟨_, _, _, _, rfl, _⟩ := h
    rfl
  · obtain ⟨a, b, ks, ps, rfl, ha, hb, hz, k⟩ := h
    refine ⟨_, (pss_one (ps_ret (pe_tupleOf (by rfl) (T.free "tuple") (pe_lc (own := [("kind", 2)]) rfl scInOrder.nd (pi_tup (pv 0)) (blkOk_by (N := N15) (sc := defScope (top 15)) (by decide +kernel)) (fun _ _ _ _ _ => (pg_name (i := 2) scInOrder.nd rfl (Or.inl rfl))) (fun _ _ _ _ _ => (pts_one (pt_cmpR (show OpR _ _ (rIn K false) from op_in_seq) (pv 2) (pv 1) rfl))) (fun _ _ _ _ _ => (pv 2)))))), ?_⟩
    refine w_ret (ew_tupL pureW (ew_lcTv (ew pureW (ev_var rfl)) fun H1 e1 => ew_fmTn (ys := ks) (gv := V.str) (h := V.str) (f := fun z => decide (z ∈ ps)) pureW (.of (e1 _ _ ha)) (by omega) (fun _ _ => rfl) (fun z hz Hk e2 => et_test (ev_op (ev_var rfl) (ev_var rfl) (rv_strT (.of (e2 _ _ (e1 _ _ hb)))))) (fun z hz Hk _ _ => ev_var rfl))) (Ex.refl H) (retU_end k)
end
end KK
set_option maxHeartbeats 4000000
/-! is_part, is_house, is_set, is_kind, is_call. -/
namespace KK
open PySem PySem.Spec PyProof.Rows L2 Evl
theorem room65 {k : Nat} {A : Around} (r : Room k A) : A.units + 65 < cLine := by have := r.un; omega
theorem room66 {k : Nat} {A : Around} (r : Room k A) : A.units + 66 < cLine := by have := r.un; omega
/-- a house in the heap -/
def HouseAt (H : Hp) (h : Addr) (ks : List Str) (cs : List (List Str)) : Prop := ∃ a b ps, H h = some (.tup [.ref a, .ref b]) ∧ TupAt H a ks ∧ H b = some (.tup (ps.map V.ref)) ∧ Each (TupAt H) ps cs
theorem HouseAt.tex {H H' : Hp} {h : Addr} {ks : List Str} {cs : List (List Str)} (e : TEx H H') (q : HouseAt H h ks cs) : HouseAt H' h ks cs := by
  obtain ⟨a, b, ps, h1, h2, h3, h4⟩ := q
  exact ⟨a, b, ps, e _ _ h1, e _ _ h2, e _ _ h3, h4.tex e⟩
theorem HouseAt.ex {H H' : Hp} {h : Addr} {ks : List Str} {cs : List (List Str)} (e : Ex H H') (q : HouseAt H h ks cs) : HouseAt H' h ks cs := q.tex (.of e)
abbrev HOk (ks : List Str) (cs : List (List Str)) : Prop := KH.HouseOk NameOk ltT ks cs
theorem retV_go {v : V} {H H1 : Hp} {Q : VK} (k : RetV v H Q) (e : Ex H H1) : ∀ v' Hc' H', Ex H1 Hc' → Ex Hc' H' → v' = v → Q v' H' := fun v' Hc' H' e1 e2 ev => retV_end k v' Hc' H' (e.trans e1) e2 ev
section
variable {P : Program} {w : World} {K : PySem.W.Frag} {mg : Str → Option Value} {base : Heap} {H H1 : Hp} {ta : TE} {σ : L2.St}
theorem flat_T (c : List Str) : Flatish (dT c) := ⟨(fun h => by cases h), by rw [depth_T]; decide⟩
theorem cut_tail {xs : List V} (h : 1 ≤ xs.length) : HT.sIx xs.length 0 (some 1) = 1 ∧ cutV xs (some 1) none = xs.drop 1 := by
  have e : HT.sIx xs.length 0 (some 1) = 1 := by simp [HT.sIx]; omega
  refine ⟨e, ?_⟩
  unfold cutV
  rw [e]
  have e2 : HT.sIx xs.length xs.length none = xs.length := by simp [HT.sIx]
  rw [e2]
  exact List.take_of_length_le (by rw [List.length_drop]; exact Nat.le_refl _)
/-! is_part -/
def spIsPart : Sp := fun vs H Q _ => ∃ (a b : Addr) (ks ps : List Str), vs = [.ref a, .ref b] ∧ TupAt H a ks ∧ TupAt H b ps ∧ ks.length ≤ 6 ∧ ps.length ≤ 6 ∧ (∀ z ∈ ps, TextOk z) ∧ (ks.filter fun k => decide (k ∈ ps)) = ps ∧ RetV (.bl true) H Q
abbrev N16 : List Str := ["kinds", "thing", "item"]
theorem scPart : FnScope N16 ["kinds", "thing"] (defScope (top 16)) := ⟨rfl, rfl, rfl, by decide +kernel, rfl, by decide +kernel, by decide +kernel⟩
theorem d_is_part (T : Txt K mg) : Dfn P w K mg base 2 "is_part" ["kinds", "thing"] spIsPart := by
  refine mk_dfn (j := 4) T rfl scPart (fun vs H Q E h => ?_) (fun _ _ _ _ _ _ us hl => match us, hl with | [_, _], _ => rfl) (fun cdv A outer s H vs Q E hr h => ?_)
  · obtain ⟨_, _, _, _, rfl, _⟩ := h
    rfl
  · obtain ⟨a, b, ks, ps, rfl, ha, hb, hk6, hp6, ht, hf, k⟩ := h
    refine ⟨_, (pss_cons (ps_if (PW.pt (pw_or (pt_not (pt_val (pe_callB call_isi (by rfl) (T.free "isinstance") (by decide +kernel) (pa_cons (pv 1) (pa_cons (pe_bltn (v := .ty "tuple") (by rfl) (T.free "tuple") (by decide +kernel) rfl) pa_nil))))) (pw_or1 (pt_not (pt_val (pe_callB (cr_all rfl) (by rfl) (T.free "all") (by decide +kernel) (pa_cons (pe_lc (own := [("item", 2)]) rfl scPart.nd (pi_tup (pv 1)) (blkOk_by (N := N16) (sc := defScope (top 16)) (by decide +kernel)) (fun _ _ _ _ _ => (pg_name (i := 2) scPart.nd rfl (by first | exact Or.inl rfl | exact Or.inr rfl))) (fun _ _ _ _ _ => pts_nil) (fun _ _ _ _ _ => (pe_callB (show CallR _ _ (rIsi K) from call_isi) (by rfl) (T.free "isinstance") (by decide +kernel) (pa_cons (pv 2) (pa_cons (pe_bltn (v := .ty "str") (by rfl) (T.free "str") (by decide +kernel) rfl) pa_nil))))) pa_nil))))))) (pss_one (ps_ret pe_bl)) pss_nil)
      (pss_one (ps_ret (pe_cmpR (op_eqD hr.units) (pe_dfn (d_in_order T) (hr.mono (by decide)) (pa_cons (pv 0) (pa_cons (pv 1) pa_nil))) (pv 1) (nomark _))))), ?_⟩
    refine w_skip (ewt_or (b := false) (ewT pureW (et_not (et_B (ev_isiT (ev_var rfl) hb)))) fun _ H1 e1 => ewt_not (b := true) (ewt_Bv ((ew_allF (ys := ps) (p := fun _ => true) pureW (ew_lcTv (ew pureW (ev_var rfl)) fun H2 e2 => ew_mpTn (ys := ps) (gv := V.str) pureW (.of (e2 _ _ (e1 _ _ hb))) (by omega) (fun _ _ => rfl) fun z hz Hk _ => ev_isiS (ev_var rfl))).imp ?_))) rfl (Ex.refl H) (fun Hc' H' e w => ?_)
    · intro v H' _ ev
      have ev : v = V.bl _ := ev
      rw [ev]
      show V.bl _ = V.bl true
      congr 1
      simp
    · refine w_ret (P := isV (.bl true)) (ew_op (P1 := isU Hc' (ps.map V.str)) (P2 := fun _ => isV (.ref b)) (ew_call (ewa_of pureW (ea_cons (ev_var rfl) (ea_cons (ev_var rfl) ea_nil))) fun us H1 e1 eu => ?_) (fun x H1 e1 px => ew pureW (ev_var rfl)) fun x y H1 H2 e1 px e2 py => ?_) w (fun v Hc2 H2 e2 w2 ev => retV_end k v Hc2 H2 (e.trans e2) w2 ev)
      · have eu : us = _ := eu
        subst eu
        refine (spw_U pureW fun H3 e3 Q q E => ⟨a, b, ks, ps, rfl, e3 _ _ (e1 _ _ (e _ _ ha)), e3 _ _ (e1 _ _ (e _ _ hb)), hk6, ?_⟩).imp fun v H' _ h => h.back e1
        rw [hf]
        exact q
      · obtain ⟨p, n, rfl, hp⟩ := px
        have py : y = _ := py
        subst py
        refine rw_of pureW fun H3 e3 Q q => ⟨dT ps, dT ps, dp_T (.of (e3 _ _ (e2 _ _ hp))), dp_T (.of (e3 _ _ (e2 _ _ (e1 _ _ (e _ _ hb))))), shaped_T ht, shaped_T ht, ?_⟩
        rw [eqv_T, decide_eq_true rfl]
        exact q H3 (Ex.refl _)
/-! is_house -/
def spIsHouse : Sp := fun vs H Q _ => ∃ (h : Addr) (ks : List Str) (cs : List (List Str)), vs = [.ref h] ∧ HouseAt H h ks cs ∧ HOk ks cs ∧ RetV (.bl true) H Q
abbrev N17 : List Str := ["thing", "kinds", "calls", "call", "one", "other", "kind"]
theorem scHouse : FnScope N17 ["thing"] (defScope (top 17)) := ⟨rfl, rfl, rfl, by decide +kernel, rfl, by decide +kernel, by decide +kernel⟩
theorem hok_text {ks : List Str} {cs : List (List Str)} (hh : HOk ks cs) {c : List Str} (hc : c ∈ cs) : ∀ z ∈ c, TextOk z := fun z hz => name_text (hh.name z (hh.sub hc z hz))
theorem all_true {α : Type} {ys : List α} {p : α → Bool} (h : ∀ y ∈ ys, p y = true) {v : V} (ev : v = .bl (ys.all p)) : v = .bl true := by
  rw [ev, List.all_eq_true.mpr h]
theorem d_is_house (T : Txt K mg) : Dfn P w K mg base 3 "is_house" ["thing"] spIsHouse := by
  refine mk_dfn (j := 5) T rfl scHouse (fun vs H Q E h => ?_) (fun _ _ _ _ _ _ us hl => match us, hl with | [_], _ => rfl) (fun cdv A outer s H vs Q E hr h => ?_)
  · obtain ⟨_, _, _, rfl, _⟩ := h
    rfl
  · obtain ⟨h, ks, cs, rfl, ⟨a, b, ps, h1, h2, h3, h4⟩, hh, k⟩ := h
    obtain ⟨t8, m8⟩ := T.calls
    refine ⟨_, (pss_cons (ps_if (PW.pt (pw_or (pt_not (pt_val (pe_dfn (d_is_tuple_of T) (hr.mono (by decide)) (pa_cons (pv 0) (pa_cons pe_int pa_nil))))) (pw_or1 (pt_not (pt_val (pe_dfn (d_are_names T) (hr.mono (by decide)) (pa_cons (pe_ix ix_tup (pv 0) pe_int (fun _ _ => rfl)) pa_nil))))))) (pss_one (ps_ret pe_bl)) pss_nil)
      (pss_cons (ps_asg (pv 0) (pg_tup rfl (pgs_cons (pg_name (i := 1) scHouse.nd rfl (by first | exact Or.inl rfl | exact Or.inr rfl)) (pgs_cons (pg_name (i := 2) scHouse.nd rfl (by first | exact Or.inl rfl | exact Or.inr rfl)) pgs_nil))))
      (pss_cons (ps_if (PW.pt (pw_or (pt_not (pt_val (pe_callB call_isi (by rfl) (T.free "isinstance") (by decide +kernel) (pa_cons (pv 2) (pa_cons (pe_bltn (v := .ty "tuple") (by rfl) (T.free "tuple") (by decide +kernel) rfl) pa_nil))))) (pw_or1 (pt_not (pt_chain op_le op_le pe_int (pe_callB call_len_seq (by rfl) (T.free "len") (by decide +kernel) (pa_cons (pv 2) pa_nil)) (pe_glob (v := .int 8) (by rfl) m8 ⟨_, rfl⟩)))))) (pss_one (ps_ret pe_bl)) pss_nil)
      (pss_cons (ps_if (pt_not (pt_val (pe_callB (cr_all rfl) (by rfl) (T.free "all") (by decide +kernel) (pa_cons (pe_lc (own := [("call", 3)]) rfl scHouse.nd (pi_tup (pv 2)) (blkOk_by (N := N17) (sc := defScope (top 17)) (by decide +kernel)) (fun _ _ _ _ _ => (pg_name (i := 3) scHouse.nd rfl (by first | exact Or.inl rfl | exact Or.inr rfl))) (fun _ _ _ _ _ => pts_nil) (fun _ _ _ _ _ => (pe_and (pe_dfn (d_is_part T) (hr.mono (by decide)) (pa_cons (pv 1) (pa_cons (pv 3) pa_nil))) (pe_one (pe_cmpR (show OpR _ _ (rNeD K) from (op_neD hr.units)) (pv 3) (pe_tup pa_nil) (nomark _)))))) pa_nil)))) (pss_one (ps_ret pe_bl)) pss_nil)
      (pss_cons (ps_if (pt_not (pt_val (pe_callB (cr_all rfl) (by rfl) (T.free "all") (by decide +kernel) (pa_cons (pe_lc (own := [("one", 4), ("other", 5)]) rfl scHouse.nd (RZ.pi_zipA (by rfl) (T.free "zip") (pa_cons (pv 2) (pa_cons (pe_slice sl_tupA (pv 2) (po_some pe_int) po_none) pa_nil))) (blkOk_by (N := N17) (sc := defScope (top 17)) (by decide +kernel)) (fun _ _ _ _ _ => (show PG _ _ (gTup K 2 _) from pg_tup rfl (pgs_cons (pg_name (i := 4) scHouse.nd rfl (by first | exact Or.inl rfl | exact Or.inr rfl)) (pgs_cons (pg_name (i := 5) scHouse.nd rfl (by first | exact Or.inl rfl | exact Or.inr rfl)) pgs_nil)))) (fun _ _ _ _ _ => pts_nil) (fun _ _ _ _ _ => (pe_cmpR (show OpR _ _ (rLtD K) from (op_ltD hr.units)) (pv 4) (pv 5) (nomark _)))) pa_nil)))) (pss_one (ps_ret pe_bl)) pss_nil)
      (pss_one (ps_ret (pe_callB (cr_all rfl) (by rfl) (T.free "all") (by decide +kernel) (pa_cons (pe_lc (own := [("kind", 6)]) rfl scHouse.nd (pi_tup (pv 1)) (blkOk_by (N := N17) (sc := defScope (top 17)) (by decide +kernel)) (fun _ _ _ _ _ => (pg_name (i := 6) scHouse.nd rfl (by first | exact Or.inl rfl | exact Or.inr rfl))) (fun _ _ _ _ _ => pts_nil) (fun _ _ _ _ _ => (pe_callB (show CallR _ _ (rAny K) from (cr_any rfl)) (by rfl) (T.free "any") (by decide +kernel) (pa_cons (pe_lc (own := [("call", 3)]) rfl scHouse.nd (show PI _ _ _ (iTup K _) from (pi_tup (pv 2))) (blkOk_by (N := N17) (by rfl)) (fun _ _ _ _ _ => (pg_name (i := 3) scHouse.nd rfl (by first | exact Or.inl rfl | exact Or.inr rfl))) (fun _ _ _ _ _ => pts_nil) (fun _ _ _ _ _ => (pe_cmpR (show OpR _ _ (rIn K false) from op_in_seq) (pv 6) (pv 3) rfl))) pa_nil)))) pa_nil))))))))), ?_⟩
    obtain ⟨zs, rfl, rfl, hz⟩ := h4.pairs
    have l8 : zs.length ≤ 8 := by have := hh.c8; rwa [List.length_map] at this
    have l1 : 1 ≤ zs.length := by have := hh.c1; rwa [List.length_map] at this
    have hzc : ∀ z ∈ zs, z.2 ∈ zs.map (·.2) := fun z m => List.mem_map.mpr ⟨z, m, rfl⟩
    have z6 : ∀ z ∈ zs, z.2.length ≤ 6 := fun z m => hh.clen (hzc z m)
    refine w_skip (ewT pureW (et_or (et_not (et_B (ev_call (z := .bl true) (ea_cons (ev_var rfl) (ea_cons ev_c ea_nil)) fun H1 e Q q E => ⟨h, _, 2, rfl, e _ _ h1, rfl, q⟩)))
      fun _ => et_not (et_B (ev_call (z := .bl true) (ea_cons (ev_op (ev_var rfl) (ev_c (v := .int 0)) (rv_ixT (.of h1) rfl)) ea_nil) fun H1 e Q q E => ⟨a, ks, rfl, e _ _ h2, hh.k1, hh.k6, hh.nd, hh.name, q⟩)))) rfl (Ex.refl H) (fun Hc' H' e w => ?_)
    have w := e.trans w
    clear e
    -- the pair
    refine ⟨_, rfl, h, _, rfl, .of (w _ _ h1), rfl, _, _, rfl, _, _, rfl, rfl, ?_⟩
    have w2 := w
    dsimp only
    refine w_skip (ewT pureW (et_or (et_not (et_B (ev_isiT (ev_var rfl) (w2 _ _ h3)))) fun _ => et_not (et_chainLe (ev_c (v := .int 1)) (ev_lenT (ev_var rfl) (.of (w2 _ _ h3))) (ev_c (v := .int 8)) (by simp; omega) (by simp; omega)))) rfl (Ex.refl H') (fun Hc' H' e w => ?_)
    have w3 := w2.trans (e.trans w)
    clear e
    refine w_skip (ewt_not (b := true) (ewt_Bv ((ew_allF (ys := zs) (p := fun _ => true) pureW (ew_lcTv (ew pureW (ev_var rfl)) fun H4 e4 => ew_mpTn (ys := zs) (gv := fun z => V.ref z.1) pureW (.of ?c1) (by omega) (fun _ _ => rfl) fun z hz2 Hk e5 => ?_)).imp fun v H' _ ev => all_true (fun _ _ => rfl) ev))) rfl (Ex.refl H') (fun Hc' H' e w => ?_)
    case c1 => have := e4 _ _ (w3 _ _ h3); rwa [List.map_map] at this
    · have w5 := w3.trans (e4.trans e5)
      refine ev_is (w := .bl true) (ev_andV (a := true) (b := true) (ev_call (z := .bl true) (ea_cons (ev_var rfl) (ea_cons (ev_var rfl) ea_nil)) fun H1 e Q q E => ⟨a, z.1, ks, z.2, rfl, e _ _ (w5 _ _ h2), e _ _ (w5 _ _ (hz z hz2)), hh.k6, z6 z hz2, hok_text hh (hzc z hz2), (hh.call _ (hzc z hz2)).2, q⟩) fun _ => ?_) rfl
      refine ev_opU (ev_var rfl) (eu_tup ea_nil (by decide)) fun q H6 hq e6 H7 e7 Q qq => ⟨dT z.2, dT [], dp_T (.of (e7 _ _ (e6 _ _ (w5 _ _ (hz z hz2))))), dp_T (.of (e7 _ _ hq)), shaped_T (hok_text hh (hzc z hz2)), shaped_T (by simp), ?_⟩
      rw [eqv_T, decide_eq_false (hh.call _ (hzc z hz2)).1]
      exact qq H7 (Ex.refl _)
    have w4 := w3.trans (e.trans w)
    clear e
    refine w_skip (ewt_not (b := true) (ewt_Bv ((ew_allF (p := fun _ => true) pureW (ew_zipT (a := b) (xs := (zs.map (·.1)).map V.ref) (ys := (zs.map (·.1)).map V.ref |>.drop 1) pureW ?_ (by simp; omega) ?_ fun i x y Hk g1 g2 e5 => ?_)).imp fun v H' _ ev => all_true (fun _ _ => rfl) ev))) rfl (Ex.refl _) (fun Hc' H' e w => ?_)
    · intro H1 w1 Q q
      refine ⟨_, rfl, _, rfl, 1, rfl, b, _, rfl, .of (w1 _ _ (w4 _ _ h3)), fun h0 => ?_, fun _ r nr => ?_⟩
      · exfalso
        have := h0.1
        rw [(cut_tail (by simp; omega)).1] at this
        cases this
      · refine q _ (upd H1 r _) _ (w1.trans (Ex.new nr)) (Ex.refl _) ⟨r, rfl, .of (Ex.new nr _ _ (w1 _ _ (w4 _ _ h3))), ?_⟩
        refine SqT.of ?_
        rw [upd_same]
        rw [(cut_tail (by simp; omega)).2]
    · exact fun _ _ => rfl
    · rw [List.map_map, List.getElem?_map] at g1
      rw [List.getElem?_drop, List.map_map, List.getElem?_map] at g2
      obtain ⟨z1, q1, rfl⟩ := Option.map_eq_some_iff.mp g1
      obtain ⟨z2, q2, rfl⟩ := Option.map_eq_some_iff.mp g2
      have m1 := List.mem_of_getElem? q1
      have m2 := List.mem_of_getElem? q2
      refine ev_op (x := .ref z1.1) (y := .ref z2.1) (ev_var rfl) (ev_var rfl) fun H6 e6 Q q => ?_
      have w6 := w4.trans (e5.trans e6)
      refine ⟨dT z1.2, dT z2.2, dp_T (.of (w6 _ _ (hz z1 m1))), dp_T (.of (w6 _ _ (hz z2 m2))), alike_T _ _, flat_T _, ?_⟩
      have lt : PySem.W.dataLt (dT z1.2) (dT z2.2) = true := by
        have := List.pairwise_iff_getElem.mp hh.asc i (1 + i) (by rw [List.length_map]; exact (List.getElem?_eq_some_iff.mp q1).1) (by rw [List.length_map]; exact (List.getElem?_eq_some_iff.mp q2).1) (by omega)
        rw [List.getElem_map, List.getElem_map, (List.getElem?_eq_some_iff.mp q1).2, (List.getElem?_eq_some_iff.mp q2).2] at this
        exact this
      rw [lt]
      exact q H6 (Ex.refl _)
    have w5 := w4.trans (e.trans w)
    clear e
    refine w_ret ((ew_allF (ys := ks) (p := fun x => zs.any fun z => decide (x ∈ z.2)) pureW (ew_lcTv (ew pureW (ev_var rfl)) fun H4 e4 => ew_mpTn (ys := ks) (gv := V.str) pureW (.of (e4 _ _ (w5 _ _ h2))) (by have := hh.k6; omega) (fun _ _ => rfl) fun x hx Hk e5 => ev_of fun Hj e6 =>
      ew_anyF (ys := zs) (p := fun z => decide (x ∈ z.2)) pureW (ew_lcTv (ew pureW (ev_var rfl)) fun H7 e7 => ew_mpTn (ys := zs) (gv := fun z => V.ref z.1) pureW (.of ?_) (by omega) (fun _ _ => rfl) fun z hz2 Hl e8 => ev_op (ev_var rfl) (ev_var rfl) (rv_strT (.of ?_))))).imp ?_) (Ex.refl _) (retV_go k w5)
    · have := e7 _ _ (e6 _ _ (e5 _ _ (e4 _ _ (w5 _ _ h3)))); rwa [List.map_map] at this
    · exact e8 _ _ (e7 _ _ (e6 _ _ (e5 _ _ (e4 _ _ (w5 _ _ (hz z hz2))))))
    · intro v H' _ ev
      refine all_true (fun x hx => ?_) ev
      obtain ⟨c, hc, hx2⟩ := hh.cov x hx
      obtain ⟨z, mz, rfl⟩ := List.mem_map.mp hc
      exact List.any_eq_true.mpr ⟨z, mz, decide_eq_true hx2⟩
/-! is_set, is_kind, is_call -/
def spIsSet : Sp := fun vs H Q _ => ∃ (h b : Addr) (ks : List Str) (cs : List (List Str)) (c : List Str), vs = [.ref h, .ref b] ∧ HouseAt H h ks cs ∧ HOk ks cs ∧ TupAt H b c ∧ c ∈ cs ∧ RetV (.bl true) H Q
def spIsKind : Sp := fun vs H Q _ => ∃ (h : Addr) (ks : List Str) (cs : List (List Str)) (z : Str), vs = [.ref h, .str z] ∧ HouseAt H h ks cs ∧ z ∈ ks ∧ RetV (.bl true) H Q
theorem scSet : FnScope ["house", "thing"] ["house", "thing"] (defScope (top 18)) := ⟨rfl, rfl, rfl, by decide +kernel, rfl, by decide +kernel, by decide +kernel⟩
theorem scKind : FnScope ["house", "thing"] ["house", "thing"] (defScope (top 19)) := ⟨rfl, rfl, rfl, by decide +kernel, rfl, by decide +kernel, by decide +kernel⟩
theorem scCall : FnScope ["house", "thing"] ["house", "thing"] (defScope (top 20)) := ⟨rfl, rfl, rfl, by decide +kernel, rfl, by decide +kernel, by decide +kernel⟩
theorem d_is_set (T : Txt K mg) : Dfn P w K mg base 3 "is_set" ["house", "thing"] spIsSet := by
  refine mk_dfn (j := 6) T rfl scSet (fun vs H Q E h => ?_) (fun _ _ _ _ _ _ us hl => match us, hl with | [_, _], _ => rfl) (fun cdv A outer s H vs Q E hr h => ?_)
  · obtain ⟨_, _, _, _, _, rfl, _⟩ := h
    rfl
  · obtain ⟨h, b, ks, cs, c, rfl, ⟨ka, kb, ps, h1, h2, h3, h4⟩, hh, hb, hc, k⟩ := h
    refine ⟨_, (pss_one (ps_ret (pe_dfn (d_is_part T) (hr.mono (by decide)) (pa_cons (pe_ix ix_tup (pv 0) pe_int (fun _ _ => rfl)) (pa_cons (pv 1) pa_nil))))), ?_⟩
    exact w_ret (ew pureW (ev_call (z := .bl true) (ea_cons (ev_op (ev_var rfl) (ev_c (v := .int 0)) (rv_ixT (.of h1) rfl)) (ea_cons (ev_var rfl) ea_nil)) fun H1 e Q q E => ⟨ka, b, ks, c, rfl, e _ _ h2, e _ _ hb, hh.k6, hh.clen hc, hok_text hh hc, (hh.call _ hc).2, q⟩)) (Ex.refl H) (retV_end k)
theorem d_is_kind (T : Txt K mg) : Dfn P w K mg base 1 "is_kind" ["house", "thing"] spIsKind := by
  refine mk_dfn (j := 7) T rfl scKind (fun vs H Q E h => ?_) (fun _ _ _ _ _ _ us hl => match us, hl with | [_, _], _ => rfl) (fun cdv A outer s H vs Q E hr h => ?_)
  · obtain ⟨_, _, _, _, rfl, _⟩ := h
    rfl
  · obtain ⟨h, ks, cs, z, rfl, ⟨ka, kb, ps, h1, h2, h3, h4⟩, hz, k⟩ := h
    refine ⟨_, (pss_one (ps_ret (pe_and (pe_callB call_isi (by rfl) (T.free "isinstance") (by decide +kernel) (pa_cons (pv 1) (pa_cons (pe_bltn (v := .ty "str") (by rfl) (T.free "str") (by decide +kernel) rfl) pa_nil))) (pe_one (pe_cmpR op_in_seq (pv 1) (pe_ix ix_tup (pv 0) pe_int (fun _ _ => rfl)) rfl))))), ?_⟩
    exact w_ret (ew pureW (ev_is (w := .bl true) (ev_andV (ev_isiS (ev_var rfl)) fun _ => ev_op (ev_var rfl) (ev_op (ev_var rfl) (ev_c (v := .int 0)) (rv_ixT (.of h1) rfl)) (rv_strT (.of h2))) (by rw [decide_eq_true hz]; rfl))) (Ex.refl H) (retV_end k)
theorem d_is_call (T : Txt K mg) : Dfn P w K mg base 4 "is_call" ["house", "thing"] spIsSet := by
  refine mk_dfn (j := 8) T rfl scCall (fun vs H Q E h => ?_) (fun _ _ _ _ _ _ us hl => match us, hl with | [_, _], _ => rfl) (fun cdv A outer s H vs Q E hr h => ?_)
  · obtain ⟨_, _, _, _, _, rfl, _⟩ := h
    rfl
  · obtain ⟨h, b, ks, cs, c, rfl, hat, hh, hb, hc, k⟩ := h
    obtain ⟨ka, kb, ps, h1, h2, h3, h4⟩ := id hat
    refine ⟨_, (pss_one (ps_ret (pe_and (pe_dfn (d_is_set T) (hr.mono (by decide)) (pa_cons (pv 0) (pa_cons (pv 1) pa_nil))) (pe_one (pe_cmpR (op_inDT (room65 hr)) (pv 1) (pe_ix ix_tup (pv 0) pe_int (fun _ _ => rfl)) rfl))))), ?_⟩
    refine w_ret (ew pureW (ev_is (w := .bl true) (ev_andV (a := true) (b := true) (ev_call (z := .bl true) (ea_cons (ev_var rfl) (ea_cons (ev_var rfl) ea_nil)) fun H1 e Q q E => ⟨h, b, ks, cs, c, rfl, hat.ex e, hh, e _ _ hb, hc, q⟩) fun _ =>
      ev_op (ev_var rfl) (ev_op (ev_var rfl) (ev_c (v := .int 1)) (rv_ixT (.of h1) rfl)) fun H1 e Q q => ⟨dT c, cs.map dT, dp_T (.of (e _ _ hb)), dp_TT (e _ _ h3) (h4.ex e), shaped_T (hok_text hh hc), shaped_TT (fun d hd => hok_text hh hd), ?_⟩) rfl)) (Ex.refl H) (retV_end k)
    rw [List.any_map, List.any_eq_true.mpr ⟨c, hc, by show PyData.eqv (dT c) (dT c) = true; rw [eqv_T]; exact decide_eq_true rfl⟩]
    exact q H1 (Ex.refl _)
end
end KK
set_option maxHeartbeats 4000000
/-! Rules of our own: xs.remove(x) over data, o.f as a target, repr(a bool). -/
namespace KK
open PySem PySem.Spec PyProof.Rows L2
section
variable {X : Cx}
/-- xs.remove(x): the first item == x is gone -/
def rRemD (K : PySem.W.Frag) : V → List V → Hp → VK → Prop := fun x vs H Q => ∃ (l : Addr) (xs : List V) (y : V) (ds : List PyData) (d : PyData) (j : Nat), x = .ref l ∧ vs = [y] ∧ H l = some (.lst xs) ∧ DpAll K H xs ds ∧ Dp K H y d ∧
  PyData.plainAll ds = true ∧ d.plain = true ∧ d.depth ≤ 60 ∧ SeqAt.dataPlace ds d = some j ∧ Q .non (upd H l (.lst (xs.eraseIdx j)))
theorem mt_remD (hu : X.A.units + 64 < cLine) : MtM X "list.remove" (rRemD X.K) := by
  intro pins s σ H x vs v us Q I rx rxs h
  obtain ⟨l, xs, y, ds, d, j, rfl, rfl, hH, hds, hy, p1, p2, hdp, hp, q⟩ := h
  cases rx
  obtain ⟨u, rfl, ru⟩ := rxs.one
  obtain ⟨z, its, n, r, hl, e⟩ := I.lstM hH
  obtain ⟨bs, r1⟩ := Dp.reads I d y u hy ru
  obtain ⟨as, h4⟩ := Dp.readsAll I ds _ its hds r
  refine SeqAt.remove_list_data (vs := its.toArray) (xs := ds) (as := as) (d := d) (bs := bs) (j := j) ⟨_, e, rfl, _, rfl⟩ (by simpa using h4) r1 p1 p2 (by have := Nat.min_le_right (PyData.depthAll ds) d.depth; omega) hp (by rw [List.size_toArray]; omega) ?_
  have rr := r.eraseIdx j
  refine ⟨.non, _, I.lset (its' := its.eraseIdx j) (t' := s.toks) hH e ?_ rr ?_, rfl, q⟩
  · show its.toArray.eraseIdxIfInBounds j = (its.eraseIdx j).toArray
    rw [List.eraseIdxIfInBounds_toArray]
  · have := List.length_eraseIdx_le xs j
    omega
/-- o.f = value, as a target -/
def gSl (K : PySem.W.Frag) (ta : TE) (f : Str) : TG := fun v σ H Q => ta σ H fun x H1 => ∃ a C dx p vs i, x = .ref a ∧ SlX.Slt H1 a C dx vs ∧ SlX.SCls K C ∧ SlX.Slot1 K C f p i ∧ Q σ (SlX.slH H1 a C dx (SlX.putS i v vs))
theorem pg_sl {o : Expr} {ta : TE} {f : Str} {pos : Pos} (ho : PE X o ta) : PG X (.Attribute o f pos) (gSl X.K ta f) := by
  refine ⟨fun pins s σ H v u Q I r h => ?_⟩
  have e : assign (.Attribute o f pos) X.env u = (do
      let ov ← holding [u] (eval o X.env)
      standAt pos.atName
      holding [u, ov] (setAttr ov f u)
      release [u, ov] []) := rfl
  rw [e]
  refine wpAny_bind (wpAny_holding (thn (ho.run pins s σ H _ I h) fun ov s1 ⟨x, H1, I1, r1, a, C, dx, p, vs, i, ex, hsl, c, t, q⟩ => ?_))
  subst ex
  obtain rfl : ov = Value.ref a := r1
  refine wpAny_bind (wpAny_standAt (wpAny_bind (wpAny_holding (SlX.setslot_ok I1 hsl c t r fun s3 I3 => ?_))))
  exact wpAny_release ⟨σ, _, I3, q⟩
theorem call_repr_bool : CallR X (.builtin "repr") (fun xs H Q => ∃ b, xs = [.bl b] ∧ Q (.str (if b then "True" else "False")) H) := by
  intro pins s σ H xs us Q I r h
  obtain ⟨b, rfl, q⟩ := h
  obtain ⟨u, rfl, ru⟩ := vals1 r
  have ru : u = Value.bool b := ru
  subst ru
  exact PySem.P.repr_of_bool ⟨.str _, H, I.tok _, ⟨_, rfl⟩, q⟩
end
end KK
set_option maxHeartbeats 4000000
/-! The store in the heap: an instance with slots, its lists, its dict; the world around it. -/
namespace KK
open PySem PySem.Spec PyProof.Rows L2 Evl SlX
/-- what the class's slots are -/
structure SlF (K : PySem.W.Frag) : Prop where
  cls : SCls K (He.ga K "Store")
  sH : ∃ q, Slot1 K (He.ga K "Store") "its_house" q 0
  sR : ∃ q, Slot1 K (He.ga K "Store") "its_rows" q 2
  sT : ∃ q, Slot1 K (He.ga K "Store") "its_things" q 3
  sN : ∃ q, Slot1 K (He.ga K "Store") "its_names" q 1
theorem Txt.meth {K : PySem.W.Frag} {mg : Str → Option Value} (T : Txt K mg) (m : Str) (h : (["put", "first_of", "take", "drop", "there"] : List Str).contains m = true := by decide +kernel) : Meth K (He.ga K "Store") m (He.ma K (He.ga K "Store") m) := by
  refine T.mt m (more_in ?_)
  have h : m ∈ (["put", "first_of", "take", "drop", "there"] : List Str) := List.contains_iff_mem.mp h
  simp only [List.mem_cons, List.not_mem_nil, or_false] at h
  rcases h with rfl | rfl | rfl | rfl | rfl <;> simp
abbrev slV (h R Tl D : Addr) : List (Option V) := [some (.ref h), some (.ref D), some (.ref R), some (.ref Tl)]
abbrev ThAt (H : Hp) (q : Addr) (t : Str × Str) : Prop := H q = some (.tup [.str t.1, .str t.2])
structure StE (C : Addr) (p h dx R Tl D : Addr) (rs : List V) (ps : List Addr) (ts : List (Str × Str)) (kvs : List (Key × V)) (Hc H : Hp) : Prop where
  same : Ex Hc H
  np : Hc p = none
  nx : Hc dx = none
  nR : Hc R = none
  nT : Hc Tl = none
  nD : Hc D = none
  hp : H p = some (SlO p C dx (slV h R Tl D))
  hx : H dx = some (.xd [])
  hR : H R = some (.lst rs)
  hT : H Tl = some (.lst (ps.map V.ref))
  RT : R ≠ Tl
  hD : H D = some (.dK kvs)
  th : Each (ThAt H) ps ts
def StA (C p h : Addr) (ts : List (Str × Str)) (nm : List Str) (n : Nat) (Hc H : Hp) : Prop := ∃ dx R Tl D rs ps kvs, StE C p h dx R Tl D rs ps ts kvs Hc H ∧ kvs.map (·.1) = nm.map Sum.inr ∧ rs.length ≤ n
section
variable {C p h dx R Tl D q a : Addr} {rs : List V} {ps : List Addr} {ts : List (Str × Str)} {kvs : List (Key × V)} {Hc H H' Hb : Hp} {o o' : HO} {xs : List V} {nm : List Str} {n : Nat}
theorem slO_ne_l {vs : List (Option V)} {zs : List V} : SlO p C dx vs ≠ .lst zs := by intro z; unfold SlO at z; cases z
theorem slO_ne_t {vs : List (Option V)} {zs : List V} : SlO p C dx vs ≠ .tup zs := by intro z; unfold SlO at z; cases z
theorem slO_ne_d {vs : List (Option V)} {zs : List (Key × V)} : SlO p C dx vs ≠ .dK zs := by intro z; unfold SlO at z; cases z
theorem upd_th {t : Str × Str} (g : ThAt H a t) (hq : H q = some o) (ne : ∀ xs, o ≠ .tup xs) : ThAt (upd H q o') a t := by
  show upd H q o' a = _
  rw [upd_ne (ne_of g hq (fun z => ne _ z.symm))]; exact g
theorem StE.dxp (S : StE C p h dx R Tl D rs ps ts kvs Hc H) : dx ≠ p := ne_of S.hx S.hp (fun z => slO_not z.symm)
theorem StE.slt (S : StE C p h dx R Tl D rs ps ts kvs Hc H) : Slt H p C dx (slV h R Tl D) := .inr ⟨S.hp, S.hx⟩
theorem StE.grow (S : StE C p h dx R Tl D rs ps ts kvs Hc H) (e : Ex H H') : StE C p h dx R Tl D rs ps ts kvs Hc H' :=
  { S with same := S.same.trans e, hp := e _ _ S.hp, hx := e _ _ S.hx, hR := e _ _ S.hR, hT := e _ _ S.hT, hD := e _ _ S.hD, th := S.th.imp fun p t h => e _ _ h }
theorem StE.weak (S : StE C p h dx R Tl D rs ps ts kvs Hc H) (e : Ex Hb Hc) : StE C p h dx R Tl D rs ps ts kvs Hb H :=
  { S with same := e.trans S.same, np := fresh_back e S.np, nx := fresh_back e S.nx, nR := fresh_back e S.nR, nT := fresh_back e S.nT, nD := fresh_back e S.nD }
/-- a place that the store does not own becomes known -/
theorem StE.at_ (S : StE C p h dx R Tl D rs ps ts kvs Hc H) (hq : H q = some o) (n1 : p ≠ q) (n2 : dx ≠ q) (n3 : R ≠ q) (n4 : Tl ≠ q) (n5 : D ≠ q) : StE C p h dx R Tl D rs ps ts kvs (upd Hc q o) H :=
  { S with same := ex_put S.same hq, np := by rw [upd_ne n1]; exact S.np, nx := by rw [upd_ne n2]; exact S.nx, nR := by rw [upd_ne n3]; exact S.nR, nT := by rw [upd_ne n4]; exact S.nT, nD := by rw [upd_ne n5]; exact S.nD }
theorem StE.add (S : StE C p h dx R Tl D rs ps ts kvs Hc H) (n : H q = none) (e : Ex H H') (hq : H' q = some o) : StE C p h dx R Tl D rs ps ts kvs (upd Hc q o) H' :=
  (S.grow e).at_ hq (ne_of_none S.hp n) (ne_of_none S.hx n) (ne_of_none S.hR n) (ne_of_none S.hT n) (ne_of_none S.hD n)
theorem StE.know (S : StE C p h dx R Tl D rs ps ts kvs Hc H) (hq : H q = some (.tup xs)) : StE C p h dx R Tl D rs ps ts kvs (upd Hc q (.tup xs)) H :=
  S.at_ hq (ne_of S.hp hq slO_ne_t) (ne_of S.hx hq (fun z => by cases z)) (ne_of S.hR hq (fun z => by cases z)) (ne_of S.hT hq (fun z => by cases z)) (ne_of S.hD hq (fun z => by cases z))
theorem StE.set (S : StE C p h dx R Tl D rs ps ts kvs Hc H) (hq : Hc q = some o) (ht : ∀ xs, o ≠ .tup xs) : StE C p h dx R Tl D rs ps ts kvs (upd Hc q o') (upd H q o') := by
  have n1 : p ≠ q := fun e => by have z := S.np; rw [e, hq] at z; cases z
  have n2 : dx ≠ q := fun e => by have z := S.nx; rw [e, hq] at z; cases z
  have n3 : R ≠ q := fun e => by have z := S.nR; rw [e, hq] at z; cases z
  have n4 : Tl ≠ q := fun e => by have z := S.nT; rw [e, hq] at z; cases z
  have n5 : D ≠ q := fun e => by have z := S.nD; rw [e, hq] at z; cases z
  exact { same := ex_upd S.same q o', np := by rw [upd_ne n1]; exact S.np, nx := by rw [upd_ne n2]; exact S.nx, nR := by rw [upd_ne n3]; exact S.nR, nT := by rw [upd_ne n4]; exact S.nT, nD := by rw [upd_ne n5]; exact S.nD,
          hp := by rw [upd_ne n1]; exact S.hp, hx := by rw [upd_ne n2]; exact S.hx, hR := by rw [upd_ne n3]; exact S.hR, hT := by rw [upd_ne n4]; exact S.hT, RT := S.RT, hD := by rw [upd_ne n5]; exact S.hD,
          th := S.th.imp fun p t g => upd_th g (S.same _ _ hq) ht }
theorem steW (C p h dx R Tl D : Addr) (rs : List V) (ps : List Addr) (ts : List (Str × Str)) (kvs : List (Key × V)) : Wld (StE C p h dx R Tl D rs ps ts kvs) where
  ex := fun S => S.same
  grow := fun S e => S.grow e
  add := fun S n e hq => S.add n e hq
  set := fun S hq ht => S.set hq ht
  know := fun S hq => S.know hq
theorem staW (C p h : Addr) (ts : List (Str × Str)) (nm : List Str) (n : Nat) : Wld (StA C p h ts nm n) where
  ex := fun ⟨_, _, _, _, _, _, _, S, _⟩ => S.same
  grow := fun ⟨dx, R, Tl, D, rs, ps, kvs, S, k⟩ e => ⟨dx, R, Tl, D, rs, ps, kvs, S.grow e, k⟩
  add := fun ⟨dx, R, Tl, D, rs, ps, kvs, S, k⟩ n e hq => ⟨dx, R, Tl, D, rs, ps, kvs, S.add n e hq, k⟩
  set := fun ⟨dx, R, Tl, D, rs, ps, kvs, S, k⟩ hq ht => ⟨dx, R, Tl, D, rs, ps, kvs, S.set hq ht, k⟩
  know := fun ⟨dx, R, Tl, D, rs, ps, kvs, S, k⟩ hq => ⟨dx, R, Tl, D, rs, ps, kvs, S.know hq, k⟩
theorem StA.weak (S : StA C p h ts nm n Hc H) (e : Ex Hb Hc) : StA C p h ts nm n Hb H := by
  obtain ⟨dx, R, Tl, D, rs, ps, kvs, S, k⟩ := S
  exact ⟨dx, R, Tl, D, rs, ps, kvs, S.weak e, k⟩
/-- a row is kept -/
theorem StE.row (S : StE C p h dx R Tl D rs ps ts kvs Hc H) (v : V) : StE C p h dx R Tl D (rs ++ [v]) ps ts kvs Hc (upd H R (.lst (rs ++ [v]))) :=
  { S with same := Ex.mut S.same S.nR, hp := by rw [upd_ne (ne_of S.hp S.hR slO_ne_l)]; exact S.hp, hx := by rw [upd_ne (ne_of S.hx S.hR (fun z => by cases z))]; exact S.hx, hR := upd_same, hT := by rw [upd_ne S.RT.symm]; exact S.hT,
           hD := by rw [upd_ne (ne_of S.hD S.hR (fun z => by cases z))]; exact S.hD, th := S.th.imp fun p t g => upd_th g S.hR (fun _ z => by cases z) }
/-- the things are written -/
theorem StE.things {ps' : List Addr} {ts' : List (Str × Str)} (S : StE C p h dx R Tl D rs ps ts kvs Hc H) (e : Each (ThAt H) ps' ts') : StE C p h dx R Tl D rs ps' ts' kvs Hc (upd H Tl (.lst (ps'.map V.ref))) :=
  { S with same := Ex.mut S.same S.nT, hp := by rw [upd_ne (ne_of S.hp S.hT slO_ne_l)]; exact S.hp, hx := by rw [upd_ne (ne_of S.hx S.hT (fun z => by cases z))]; exact S.hx, hT := upd_same, hR := by rw [upd_ne S.RT]; exact S.hR,
           hD := by rw [upd_ne (ne_of S.hD S.hT (fun z => by cases z))]; exact S.hD, th := e.imp fun p t g => upd_th g S.hT (fun _ z => by cases z) }
/-- the names are written -/
theorem StE.names {kvs' : List (Key × V)} (S : StE C p h dx R Tl D rs ps ts kvs Hc H) : StE C p h dx R Tl D rs ps ts kvs' Hc (upd H D (.dK kvs')) :=
  { S with same := Ex.mut S.same S.nD, hp := by rw [upd_ne (ne_of S.hp S.hD slO_ne_d)]; exact S.hp, hx := by rw [upd_ne (ne_of S.hx S.hD (fun z => by cases z))]; exact S.hx, hD := upd_same, hR := by rw [upd_ne (ne_of S.hR S.hD (fun z => by cases z))]; exact S.hR,
           hT := by rw [upd_ne (ne_of S.hT S.hD (fun z => by cases z))]; exact S.hT, th := S.th.imp fun p t g => upd_th g S.hD (fun _ z => by cases z) }
/-- another list of things -/
theorem StE.other {L : Addr} {ps' : List Addr} {ts' : List (Str × Str)} (S : StE C p h dx R Tl D rs ps ts kvs Hc H) (nL : Hc L = none) (hL : H L = some (.lst (ps'.map V.ref))) (RL : R ≠ L) (e : Each (ThAt H) ps' ts') :
    StE C p h dx R L D rs ps' ts' kvs Hc (slH H p C dx (slV h R L D)) := by
  have st : ∀ {b : Addr} {u : HO}, H b = some u → (∀ vs, u ≠ SlO p C dx vs) → u ≠ .xd [] → slH H p C dx (slV h R L D) b = some u := fun {b u} g n1 n2 => by
    rw [slH_ne (ne_of g S.hp (n1 _)) (ne_of g S.hx n2)]; exact g
  refine { S with same := fun b u g => ?_, nT := nL, hp := by unfold slH; rw [upd_same], hx := by unfold slH; rw [upd_ne S.dxp, upd_same], hT := st hL (fun _ z => slO_ne_l z.symm) (fun z => by cases z), hR := st S.hR (fun _ z => slO_ne_l z.symm) (fun z => by cases z), RT := RL,
                  hD := st S.hD (fun _ z => slO_ne_d z.symm) (fun z => by cases z), th := e.imp fun p t g => st g (fun _ z => slO_ne_t z.symm) (fun z => by cases z) }
  rw [slH_ne (ne_of_none g S.np) (ne_of_none g S.nx)]
  exact S.same _ _ g
/-- the things' tuples become known -/
theorem know_each {W : Hp → Hp → Prop} (w : Wld W) {H : Hp} : ∀ {ps : List Addr} {ts : List (Str × Str)} {Hc : Hp}, W Hc H → Each (ThAt H) ps ts → ∃ Hk, Ex Hc Hk ∧ W Hk H ∧ Each (ThAt Hk) ps ts
  | _, _, Hc, w1, .nil => ⟨Hc, Ex.refl _, w1, .nil⟩
  | q :: _, _, Hc, w1, .cons g r => by
    have w2 := w.know w1 g
    obtain ⟨Hk, e, w3, r2⟩ := know_each w w2 r
    have e0 : Ex Hc (upd Hc q (.tup _)) := fun b u hb => by
      by_cases eq : b = q
      · subst eq
        rw [upd_same, ← g, w.ex w1 _ _ hb]
      · rw [upd_ne eq]; exact hb
    exact ⟨Hk, e0.trans e, w3, .cons (e _ _ upd_same) r2⟩
end
end KK
set_option maxHeartbeats 4000000
/-! The methods of the store. -/
namespace KK
open PySem PySem.Spec PyProof.Rows L2 Evl SlX
theorem room1 {k : Nat} {A : Around} (r : Room k A) : A.units + 1 < cLine := by have := r.un; omega
section
variable {P : Program} {w : World} {K : PySem.W.Frag} {mg : Str → Option Value} {base : Heap}
theorem mtd_of {k : Nat} {m : Str} {ps : List Str} {sp : Sp} (h : ∃ fd, FnOk P w K mg base CX0 k (He.ma K (He.ga K "Store") m) fd ps sp ∧ Binds K fd ps []) : Mtd P w K mg base k m sp := by
  obtain ⟨fd, F, b⟩ := h
  exact (F.raw b .nil).imp fun vs H Q E q => by rw [List.append_nil]; exact q
abbrev Cst (K : PySem.W.Frag) : Addr := He.ga K "Store"
/-! __init__ -/
def spInit (K : PySem.W.Frag) : Sp := fun vs H Q _ => ∃ (Hc : Hp) (p h dx : Addr) (ks : List Str) (cs : List (List Str)), vs = [.ref p, .ref h] ∧ H p = some (.ins (Cst K) dx []) ∧ H dx = some (.own p) ∧ Hc p = none ∧ Hc dx = none ∧ Ex Hc H ∧ HouseAt Hc h ks cs ∧ HOk ks cs ∧
  ∀ Hc' H', Ex Hc Hc' → StA (Cst K) p h [] [] 0 Hc' H' → Q .non H'
theorem scInit : FnScope ["self", "house"] ["self", "house"] (defScope (inClass (top 22) 1)) := ⟨rfl, rfl, rfl, by decide +kernel, rfl, by decide +kernel, by decide +kernel⟩
theorem f_init (T : Txt K mg) (S : SlF K) : ∃ fd, FnOk P w K mg base CX0 4 (He.ma K (Cst K) "__init__") fd ["self", "house"] (spInit K) ∧ Binds K fd ["self", "house"] [] := by
  refine mk_mtd (j := 0) T rfl scInit (fun vs H Q E h => ?_) (fun _ _ _ _ _ _ us hl => match us, hl with | [_, _], _ => rfl) (fun cdv A outer s H vs Q E hr h => ?_)
  · obtain ⟨_, _, _, _, _, _, rfl, _⟩ := h
    rfl
  · obtain ⟨Hc, p, h, dx, ks, cs, rfl, hp, hx, np, nx, e0, hh, hk, k⟩ := h
    refine ⟨_, (pss_cons (ps_if (pt_not (pt_val (pe_dfn (d_is_house T) (hr.mono (by decide)) (pa_cons (pv 1) pa_nil)))) pss_never pss_nil)
      (pss_one (ps_asg (pe_tup (pa_cons (pv 1) (pa_cons (pe_lst pa_nil) (pa_cons (pe_lst pa_nil) (pa_cons pe_dnewK pa_nil))))) (pg_tup rfl (pgs_cons (pg_sl (pv 0)) (pgs_cons (pg_sl (pv 0)) (pgs_cons (pg_sl (pv 0)) (pgs_cons (pg_sl (pv 0)) pgs_nil)))))))), ?_⟩
    obtain ⟨q0, s0⟩ := S.sH
    obtain ⟨q1, s1⟩ := S.sR
    obtain ⟨q2, s2⟩ := S.sT
    obtain ⟨q3, s3⟩ := S.sN
    have dxp : dx ≠ p := ne_of hx hp (fun z => by cases z)
    refine w_skip (ewt_not (b := true) (ewt_Bv (ew pureW (ev_call (z := .bl true) (ea_cons (ev_var rfl) ea_nil) fun H1 e Q q E => ⟨h, ks, cs, rfl, hh.ex (e0.trans e), hk, q⟩)))) rfl (Ex.refl H) (fun Hc1 H1 e w => ?_)
    have w1 := e.trans w
    clear e w
    refine ⟨_, rfl, by show 0 ≤ sizeLine; exact Nat.zero_le _, fun R nR => ⟨by show 0 ≤ sizeLine; exact Nat.zero_le _, fun Tl nT D nD => ⟨by show 4 ≤ sizeLine; decide, fun t nt => ?_⟩⟩⟩
    have e5 : Ex H1 (upd (upd (upd (upd H1 R (.lst [])) Tl (.lst [])) D (.dK [])) t (.tup [.ref h, .ref R, .ref Tl, .ref D])) := (Ex.new nR).trans ((Ex.new nT).trans ((Ex.new nD).trans (Ex.new nt)))
    have x1 := (Ex.new (o := HO.lst []) nT).trans ((Ex.new (o := HO.dK []) nD).trans (Ex.new (o := HO.tup [.ref h, .ref R, .ref Tl, .ref D]) nt))
    have aR := x1 R _ upd_same
    have x2 := (Ex.new (o := HO.dK []) nD).trans (Ex.new (o := HO.tup [.ref h, .ref R, .ref Tl, .ref D]) nt)
    have aT := x2 Tl _ upd_same
    have aD := (Ex.new (o := .tup [.ref h, .ref R, .ref Tl, .ref D]) nt) D _ upd_same
    have bR : Hc R = none := fresh_back (e0.trans w1) nR
    have bT : Hc Tl = none := fresh_back ((e0.trans w1).trans (Ex.new nR)) nT
    have bD : Hc D = none := fresh_back (((e0.trans w1).trans (Ex.new nR)).trans (Ex.new nT)) nD
    have RT : R ≠ Tl := ne_of_none upd_same nT
    have et : ∀ H5 : Hp, Ex H1 H5 → H5 R = some (.lst []) → H5 Tl = some (.lst []) → H5 D = some (.dK []) → Q .non (slH H5 p (Cst K) dx (slV h R Tl D)) := fun H5 e5 aR aT aD => by
      have hp5 := e5 _ _ (w1 _ _ hp)
      have hx5 := e5 _ _ (w1 _ _ hx)
      refine k Hc _ (Ex.refl _) ⟨dx, R, Tl, D, [], [], [], { same := fun b u g => ?_, np := np, nx := nx, nR := bR, nT := bT, nD := bD, hp := ?_, hx := ?_, hR := ?_, hT := ?_, RT := RT, hD := ?_, th := .nil }, rfl, Nat.le_refl _⟩
      · rw [slH_ne (ne_of_none g np) (ne_of_none g nx)]
        exact e5 _ _ (w1 _ _ (e0 _ _ g))
      · unfold slH; rw [upd_same]
      · unfold slH; rw [upd_ne dxp, upd_same]
      · rw [slH_ne (ne_of aR hp5 (fun z => by cases z)) (ne_of aR hx5 (fun z => by cases z))]; exact aR
      · rw [slH_ne (ne_of aT hp5 (fun z => by cases z)) (ne_of aT hx5 (fun z => by cases z))]; exact aT
      · rw [slH_ne (ne_of aD hp5 (fun z => by cases z)) (ne_of aD hx5 (fun z => by cases z))]; exact aD
    refine ⟨t, _, rfl, SqT.of upd_same, rfl, _, _, rfl, .ref p, rfl, p, Cst K, dx, q0, [], 0, rfl, .inl ⟨e5 _ _ (w1 _ _ hp), rfl⟩, S.cls, s0, _, _, rfl, .ref p, rfl, p, Cst K, dx, q1, _, 2, rfl, slH_slt dxp, S.cls, s1, _, _, rfl, .ref p, rfl, p, Cst K, dx, q2, _, 3, rfl, slH_slt dxp, S.cls, s2,
      _, _, rfl, .ref p, rfl, p, Cst K, dx, q3, _, 1, rfl, slH_slt dxp, S.cls, s3, rfl, ?_⟩
    rw [slH_twice dxp, slH_twice dxp, slH_twice dxp]
    exact et _ e5 aR aT aD
/-! put -/
abbrev StK (K : PySem.W.Frag) := StA (He.ga K "Store")
def spPut (K : PySem.W.Frag) : Sp := fun vs H Q _ => ∃ (Hc : Hp) (p h : Addr) (ks : List Str) (cs : List (List Str)) (ts : List (Str × Str)) (nm : List Str) (n : Nat) (z k : Str), vs = [.ref p, .str z, .str k] ∧ StK K p h ts nm n Hc H ∧ HouseAt Hc h ks cs ∧ NameOk z ∧ k ∈ ks ∧ z ∉ nm ∧
  n < 40000 ∧ nm.length < 40000 ∧ ts.length < 40000 ∧ ∀ Hc' H', Ex Hc Hc' → StK K p h (ts ++ [(z, k)]) (nm ++ [z]) (n + 1) Hc' H' → Q .non H'
theorem scPut : FnScope ["self", "name", "kind"] ["self", "name", "kind"] (defScope (inClass (top 22) 2)) := ⟨rfl, rfl, rfl, by decide +kernel, rfl, by decide +kernel, by decide +kernel⟩
/-- its_house is read -/
theorem ew_house (S : SlF K) {p h : Addr} {ts : List (Str × Str)} {nm : List Str} {n : Nat} {Hc : Hp} {σ : L2.St} (hσ : σ[0]? = some (some (.ref p))) : EW (StK K p h ts nm n) (SlX.tSl K (tVar 0) "its_house") σ Hc (isV (.ref h)) := fun H1 w1 Q q => by
  obtain ⟨dx, R, Tl, D, rs, ps, kvs, s, k⟩ := id w1
  obtain ⟨q0, s0⟩ := S.sH
  exact ⟨_, hσ, p, _, dx, q0, _, 0, _, rfl, s.slt, S.cls, s0, rfl, q _ Hc H1 (Ex.refl _) w1 rfl⟩
theorem any_key {z : Str} : ∀ {kvs : List (Key × V)} {nm : List Str}, kvs.map (·.1) = nm.map Sum.inr → z ∉ nm → valV kvs (Sum.inr z) = none
  | [], _, _, _ => valV_nil
  | kv :: r, [], e, _ => by cases e
  | kv :: r, a :: nm, e, h => by
    have e2 : kv.1 = Sum.inr a ∧ r.map (·.1) = nm.map Sum.inr := by
      have := e
      simp only [List.map_cons, List.cons.injEq] at this
      exact this
    rw [valV_neg (by rw [e2.1]; intro q; exact h (by injection q with q; rw [q]; simp))]
    exact any_key e2.2 (fun q => h (by simp [q]))
theorem m_put (T : Txt K mg) (S : SlF K) : Mtd P w K mg base 2 "put" (spPut K) := by
  refine mtd_of (mk_mtd (ps := ["self", "name", "kind"]) (j := 1) T rfl scPut (fun vs H Q E h => ?_) (fun _ _ _ _ _ _ us hl => match us, hl with | [_, _, _], _ => rfl) (fun cdv A outer s H vs Q E hr h => ?_))
  · obtain ⟨_, _, _, _, _, _, _, _, _, _, rfl, _⟩ := h
    rfl
  · obtain ⟨Hc, p, h, ks, cs, ts, nm, n, z, k, rfl, st, hh, hz, hk, hn, l1, l2, l3, kk⟩ := h
    refine ⟨_, (pss_cons (ps_if (pt_not (pt_val (pe_dfn (d_is_name T) (hr.mono (by decide)) (pa_cons (pv 1) pa_nil)))) pss_never pss_nil)
      (pss_cons (ps_if (pt_not (pt_val (pe_dfn (d_is_kind T) (hr.mono (by decide)) (pa_cons (SlX.pe_sl (pv 0)) (pa_cons (pv 2) pa_nil))))) pss_never pss_nil)
      (pss_cons (ps_if (pt_cmp (pc_din (room1 hr) (pv 1) (SlX.pe_sl (pv 0))) rfl) pss_never pss_nil)
      (pss_cons (ps_dput (room1 hr) (SlX.pe_sl (pv 0)) (pv 1) pe_bl rfl)
      (pss_cons (ps_expr (pe_bm PySem.F.plainAttrs_list PySem.F.slot_list_append PySem.F.type_list_append mt_append (SlX.pe_sl (pv 0)) (pa_cons (pe_tup (pa_cons (pv 1) (pa_cons (pv 2) pa_nil))) pa_nil)))
      (pss_one (ps_expr (pe_bm PySem.F.plainAttrs_list PySem.F.slot_list_append PySem.F.type_list_append mt_append (SlX.pe_sl (pv 0)) (pa_cons (pe_tup (pa_cons pe_str (pa_cons (pv 1) (pa_cons (pv 2) pa_nil)))) pa_nil))))))))), ?_⟩
    have W := staW (Cst K) p h ts nm n
    refine w_skip (ewt_not (b := true) (ewt_Bv (ew W (ev_call (z := .bl true) (ea_cons (ev_var rfl) ea_nil) fun H1 e Q q E => ⟨z, rfl, hz, q⟩)))) rfl st (fun Hc1 H1 e1 w1 => ?_)
    refine w_skip (ewt_not (b := true) (ewt_Bv (ew_call (ewa_cons (PL := fun vs _ => vs = [.ref h, .str k]) (ew_house S rfl) (fun x H2 _ ex => ewa_of W (ea_cons (ev_var rfl) ea_nil)) (fun x vs H2 H3 _ ex _ ev => by
      have ex : x = _ := ex
      have ev : vs = _ := ev
      rw [ex, ev])) fun vs H2 e2 ev => spw_V W fun H3 e3 Q q E => ⟨h, ks, cs, k, by rw [ev]; rfl, hh.ex (e1.trans (e2.trans e3)), hk, q⟩))) rfl w1 (fun Hc2 H2 e2 w2 => ?_)
    obtain ⟨q1, s1⟩ := S.sR
    obtain ⟨q2, s2⟩ := S.sT
    obtain ⟨q3, s3⟩ := S.sN
    have st2 := w2
    obtain ⟨dx, R, Tl, D, rs, ps, kvs, s, kn, kl⟩ := st2
    have hv := any_key kn hn
    refine w_skip (b := false) (fun H1 w1 Q q => ?_) rfl s (fun Hc3 H3 e3 w3 => ?_)
    · have s' := w1
      refine ⟨_, rfl, _, rfl, p, _, dx, q3, _, 1, _, rfl, StE.slt s', S.cls, s3, rfl, D, none, rfl, ?_, false, rfl, q _ _ _ (Ex.refl _) w1 rfl⟩
      have := DGet.k (k := Sum.inr z) (StE.hD s')
      rw [hv] at this
      exact this
    have s := w3
    have lk : kvs.length = nm.length := by have := congrArg List.length kn; simpa using this
    have lp : ps.length = ts.length := s.th.length
    -- the name
    refine ⟨_, rfl, p, _, dx, q3, _, 1, _, rfl, s.slt, S.cls, s3, rfl, _, rfl, D, _, rfl, DPut.k (k := Sum.inr z) s.hD (Nat.lt_trans (by omega) (by decide : 40000 < sizeLine)), ?_⟩
    rw [putK_new _ hv]
    have s' := s.names (kvs' := kvs ++ [(Sum.inr z, V.bl true)])
    -- the thing
    refine ⟨_, rfl, p, _, dx, q2, _, 3, _, rfl, s'.slt, S.cls, s2, rfl, .inl ⟨rfl, _, .of s'.hT⟩, _, rfl, _, rfl, by show 2 ≤ sizeLine; decide, fun t nt => ⟨Tl, _, _, rfl, rfl, (Ex.new nt) _ _ s'.hT, by rw [List.length_map]; exact Nat.lt_trans (by omega) (by decide : 40000 < sizeLine), ?_⟩⟩
    have s4 := s'.grow (Ex.new (o := .tup [.str z, .str k]) nt)
    have s5 := s4.things (ps' := ps ++ [t]) (ts' := ts ++ [(z, k)]) (s4.th.app (.cons upd_same .nil))
    rw [List.map_append] at s5
    -- the row
    refine ⟨_, rfl, p, _, dx, q1, _, 2, _, rfl, s5.slt, S.cls, s1, rfl, .inl ⟨rfl, _, .of s5.hR⟩, _, rfl, _, rfl, by show 3 ≤ sizeLine; decide, fun u nu => ⟨R, _, _, rfl, rfl, (Ex.new nu) _ _ s5.hR, Nat.lt_of_le_of_lt kl (Nat.lt_trans l1 (by decide : 40000 < sizeLine)), ?_⟩⟩
    have s6 := (s5.grow (Ex.new (o := .tup [.str "put", .str z, .str k]) nu)).row (.ref u)
    refine kk Hc3 _ (e1.trans (e2.trans e3)) ⟨dx, R, Tl, D, _, _, _, s6, ?_, ?_⟩
    · rw [List.map_append, kn, List.map_append]; rfl
    · rw [List.length_append]; exact Nat.succ_le_succ kl
end
end KK
set_option maxHeartbeats 4000000
/-! first_of, take, drop, there. -/
namespace KK
open PySem PySem.Spec PyProof.Rows L2 Evl SlX
theorem seq_last {t : TS} {D : Ends} {σ : L2.St} {H : Hp} (h : tSeq t tNext D σ H) : t D σ H := h
/-! the pick, place by place -/
section
variable {α : Type} [DecidableEq α]
theorem find_yes {β : Type} {p : β → Bool} : ∀ {ts : List β} {j : Nat} {t : β}, ts[j]? = some t → p t = true → (∀ u ∈ ts.take j, p u = false) → ts.find? p = some t
  | [], _, _, h, _, _ => by simp at h
  | a :: r, 0, t, h, ht, _ => by
    have e : a = t := by simpa using h
    rw [e, List.find?_cons, ht]
  | a :: r, j + 1, t, h, ht, hn => by
    rw [List.find?_cons, hn a (by simp)]
    exact find_yes (j := j) (by simpa using h) ht fun u hu => hn u (by simp [hu])
theorem pick_yes {ts : List (α × α)} {k : α} {t : α × α} {j : Nat} (hj : ts[j]? = some t) (ht : t.2 = k) (hn : ∀ u ∈ ts.take j, u.2 ≠ k) : ∀ {c : List α} {i : Nat}, c[i]? = some k → (∀ k' ∈ c.take i, ∀ u ∈ ts, u.2 ≠ k') → KP.pick ts c = some t
  | [], _, h, _ => by simp at h
  | a :: r, 0, h, _ => by
    have e : a = k := by simpa using h
    subst e
    unfold KP.pick
    rw [find_yes hj (decide_eq_true ht) fun u hu => decide_eq_false (hn u hu)]
  | a :: r, i + 1, h, hc => by
    unfold KP.pick
    have z : ts.find? (fun u => decide (u.2 = a)) = none := List.find?_eq_none.mpr fun u hu => by simpa using hc a (by simp) u hu
    rw [z]
    exact pick_yes hj ht hn (i := i) (by simpa using h) fun k' hk' => hc k' (by simp [hk'])
theorem pick_no {ts : List (α × α)} : ∀ {c : List α}, (∀ k ∈ c, ∀ u ∈ ts, u.2 ≠ k) → KP.pick ts c = none
  | [], _ => rfl
  | a :: r, hc => by
    unfold KP.pick
    have z : ts.find? (fun u => decide (u.2 = a)) = none := List.find?_eq_none.mpr fun u hu => by simpa using hc a (by simp) u hu
    rw [z]
    exact pick_no fun k hk => hc k (by simp [hk])
theorem mem_take_succ {β : Type} {l : List β} {i : Nat} {x y : β} (hx : l[i]? = some x) (hy : y ∈ l.take (i + 1)) : y ∈ l.take i ∨ y = x := by
  rw [List.take_add_one, hx] at hy
  rcases List.mem_append.mp hy with h | h
  · exact .inl h
  · exact .inr (by simpa using h)
end
/-- what first_of finds -/
def FirstIs (ps : List Addr) (ts : List (Str × Str)) (c : List Str) (v : V) : Prop :=
  (KP.pick ts c = none ∧ v = .non) ∨ ∃ (j : Nat) (t : Str × Str) (q : Addr), KP.pick ts c = some t ∧ ps[j]? = some q ∧ ts[j]? = some t ∧ (∀ u ∈ ts.take j, u.2 ≠ t.2) ∧ v = .ref q
section
variable {P : Program} {w : World} {K : PySem.W.Frag} {mg : Str → Option Value} {base : Heap}
def spFirst (K : PySem.W.Frag) : Sp := fun vs H Q _ => ∃ (Hc : Hp) (p h dx R Tl D : Addr) (rs : List V) (ps : List Addr) (ts : List (Str × Str)) (kvs : List (Key × V)) (b : Addr) (c : List Str), vs = [.ref p, .ref b] ∧ StE (Cst K) p h dx R Tl D rs ps ts kvs Hc H ∧ TupAt Hc b c ∧
  ∀ v Hc' H', Ex Hc Hc' → StE (Cst K) p h dx R Tl D rs ps ts kvs Hc' H' → FirstIs ps ts c v → Q v H'
theorem scFirst : FnScope ["self", "call", "kind", "thing"] ["self", "call"] (defScope (inClass (top 22) 3)) := ⟨rfl, rfl, rfl, by decide +kernel, rfl, by decide +kernel, by decide +kernel⟩
theorem m_first_of (T : Txt K mg) (S : SlF K) : Mtd P w K mg base 1 "first_of" (spFirst K) := by
  refine mtd_of (mk_mtd (ps := ["self", "call"]) (j := 2) T rfl scFirst (fun vs H Q E h => ?_) (fun _ _ _ _ _ _ us hl => match us, hl with | [_, _], _ => rfl) (fun cdv A outer s H vs Q E hr h => ?_))
  · obtain ⟨_, _, _, _, _, _, _, _, _, _, _, _, _, rfl, _⟩ := h
    rfl
  · obtain ⟨Hc, p, h, dx, R, Tl, D, rs, ps, ts, kvs, b, c, rfl, s, hb, kk⟩ := h
    refine ⟨_, (pss_cons (ps_for PassesOwn.never rfl (pi_tup (pv 1)) (pg_name (i := 2) scFirst.nd rfl (by first | exact Or.inl rfl | exact Or.inr rfl)) (pss_one (ps_for PassesOwn.never rfl (pi_list (SlX.pe_sl (pv 0))) (pg_name (i := 3) scFirst.nd rfl (by first | exact Or.inl rfl | exact Or.inr rfl)) (pss_one (ps_if (pt_cmpR op_eq (pe_ix ix_tup (pv 3) pe_int (fun _ _ => rfl)) (pv 2) (nomark _)) (pss_one (ps_ret (pv 3))) pss_nil)))))
      (pss_one (ps_ret pe_non))), ?_⟩
    obtain ⟨q2, s2⟩ := S.sT
    have W := steW (Cst K) p h dx R Tl D rs ps ts kvs
    obtain ⟨Hk, eK, wK, thK⟩ := know_each W s s.th
    refine w_forT (xs := c.map V.str) (Pv := fun i σ' Hj => ∃ u v, σ' = [some (.ref p), some (.ref b), u, v] ∧ Ex Hk Hj ∧ ∀ k' ∈ c.take i, ∀ t ∈ ts, t.2 ≠ k') W wK (ew W (ev_var rfl)) (fun Hj e => ⟨none, none, rfl, e, fun k' m => by simp at m⟩) (fun i σ' Hj ⟨_, _, _, e, _⟩ => .of (e _ _ (eK _ _ hb))) (fun i x σ' Hj H' hx ⟨u, v, eσ, ej, hno⟩ wj => ?_) (fun σ' Hj H' ⟨u, v, eσ, ej, hno⟩ wj => ?_)
    · subst eσ
      rw [List.getElem?_map] at hx
      obtain ⟨k, hk, rfl⟩ := Option.map_eq_some_iff.mp hx
      refine seq_last (w_forLW (xs := ps.map V.ref) (a := Tl) (Pv := fun j σ'' Hl => ∃ v, σ'' = [some (.ref p), some (.ref b), some (.str k), v] ∧ Ex Hk Hl ∧ ∀ t ∈ ts.take j, t.2 ≠ k) W wj (fun H1 w1 Q q => ⟨_, rfl, p, _, dx, q2, _, 3, _, rfl, w1.slt, S.cls, s2, rfl, q _ _ H1 (Ex.refl _) w1 rfl⟩) (fun Hl e => ⟨v, rfl, ej.trans e, fun t m => by simp at m⟩) (fun j σ'' Hl H'' _ wl => .of wl.hT) (fun j x σ'' Hl H'' hx2 ⟨v2, eσ2, el, hno2⟩ wl => ?_) (fun σ'' Hl H'' ⟨v2, eσ2, el, hno2⟩ wl => ?_))
      · subst eσ2
        rw [List.getElem?_map] at hx2
        obtain ⟨q, hq, rfl⟩ := Option.map_eq_some_iff.mp hx2
        obtain ⟨t, ht, hth⟩ := thK.get hq
        refine w_if1 (ewT W (et_test (ev_op (ev_op (ev_var rfl) (ev_c (v := .int 1)) (rv_ixT (v := .str t.2) (.of (el _ _ hth)) rfl)) (ev_var rfl) (rv_eq rfl)))) wl (fun Hm H3 e3 w3 pt => ?_) (fun Hm H3 e3 w3 pt => ?_)
        · have ek : t.2 = k := by
            have := of_decide_eq_true pt.symm
            injection this
          refine ⟨_, rfl, kk _ Hm H3 (eK.trans (el.trans e3)) w3 (.inr ⟨j, t, q, pick_yes ht ek hno2 hk hno, hq, ht, fun u hu => by rw [ek]; exact hno2 u hu, rfl⟩)⟩
        · have ek : t.2 ≠ k := fun e => of_decide_eq_false pt.symm (by rw [e])
          refine ⟨Hm, w3, _, rfl, el.trans e3, fun u hu => ?_⟩
          rcases mem_take_succ ht hu with hu | hu
          · exact hno2 u hu
          · rw [hu]; exact ek
      · subst eσ2
        refine ⟨Hl, wl, _, _, rfl, el, fun k' hk' u hu => ?_⟩
        rcases mem_take_succ hk hk' with h1 | h1
        · exact hno k' h1 u hu
        · rw [h1]
          rw [List.length_map, s.th.length, List.take_length] at hno2
          exact hno2 u hu
    · subst eσ
      rw [List.length_map, List.take_length] at hno
      exact kk _ Hj H' (eK.trans ej) wj (.inl ⟨pick_no hno, rfl⟩)
end
end KK
set_option maxHeartbeats 4000000
namespace KK
open PySem PySem.Spec PyProof.Rows L2 Evl SlX
def tellV : Option Str → V
  | none => .non
  | some z => .str z
abbrev dP (t : Str × Str) : PyData := dT [t.1, t.2]
theorem Each.eraseIdx {α : Type} {R : Addr → α → Prop} : ∀ {ps : List Addr} {xs : List α} (j : Nat), Each R ps xs → Each R (ps.eraseIdx j) (xs.eraseIdx j)
  | _, _, _, .nil => by simpa using Each.nil
  | _, _, 0, .cons _ r => by simpa using r
  | _, _, j + 1, .cons h r => by simpa using Each.cons h (r.eraseIdx j)
theorem erase_at {α : Type} [BEq α] [LawfulBEq α] : ∀ {ts : List α} {j : Nat} {t : α}, ts[j]? = some t → (∀ u ∈ ts.take j, u ≠ t) → ts.erase t = ts.eraseIdx j
  | [], _, _, h, _ => by simp at h
  | a :: r, 0, t, h, _ => by
    have e : a = t := by simpa using h
    rw [e]; simp
  | a :: r, j + 1, t, h, hn => by
    have ne : a ≠ t := hn a (by simp)
    rw [List.erase_cons_tail (by simpa using ne), List.eraseIdx_cons_succ]
    congr 1
    exact erase_at (by simpa using h) fun u hu => hn u (by simp [hu])
theorem map_eraseAt {α β : Type} (f : α → β) : ∀ (l : List α) (j : Nat), (l.map f).eraseIdx j = (l.eraseIdx j).map f
  | [], j => by simp
  | a :: r, 0 => by simp
  | a :: r, j + 1 => by simp [map_eraseAt f r j]
section
variable {α : Type} [DecidableEq α]
theorem step_none {ts : List (α × α)} {c : List α} (h : KP.pick ts c = none) : KP.stepT ts (.call c) = ts ∧ KP.tell ts (.call c) = none := by
  unfold KP.stepT KP.tell
  simp only [h]
  exact ⟨trivial, rfl⟩
theorem step_some {ts : List (α × α)} {c : List α} {t : α × α} {j : Nat} (h : KP.pick ts c = some t) (ht : ts[j]? = some t) (hn : ∀ u ∈ ts.take j, u ≠ t) : KP.stepT ts (.call c) = ts.eraseIdx j ∧ KP.tell ts (.call c) = some t.1 := by
  unfold KP.stepT KP.tell
  simp only [h]
  exact ⟨erase_at ht hn, rfl⟩
end
theorem place_of {ts : List (Str × Str)} {j : Nat} {t : Str × Str} (h : ts[j]? = some t) (hn : ∀ u ∈ ts.take j, u.2 ≠ t.2) : SeqAt.dataPlace (ts.map dP) (dP t) = some j := by
  unfold SeqAt.dataPlace
  rw [List.findIdx?_eq_some_iff_getElem]
  obtain ⟨h1, h2⟩ := List.getElem?_eq_some_iff.mp h
  refine ⟨by rw [List.length_map]; exact h1, ?_, fun i hi => ?_⟩
  · rw [List.getElem_map, h2, eqv_T]; exact decide_eq_true rfl
  · rw [List.getElem_map, eqv_T]
    have hi2 : i < ts.length := by omega
    have m : ts[i] ∈ ts.take j := List.mem_iff_getElem.mpr ⟨i, by rw [List.length_take]; omega, by rw [List.getElem_take]⟩
    intro e
    have e := of_decide_eq_true e
    simp only [List.cons.injEq, and_true] at e
    exact hn _ m e.2
theorem left_lt {ts : List (Str × Str)} {z : Str} : decide ((ts.filter fun t => decide (t.1 ≠ z)).length < ts.length) = decide (z ∈ ts.map (·.1)) := by
  have key : (ts.filter fun t => decide (t.1 ≠ z)).length < ts.length ↔ z ∈ ts.map (·.1) := by
    constructor
    · intro h
      by_cases m : z ∈ ts.map (·.1)
      · exact m
      · rw [List.filter_eq_self.mpr fun u hu => decide_eq_true (show u.1 ≠ z from fun e => m (List.mem_map.mpr ⟨u, hu, e⟩))] at h
        exact absurd h (Nat.lt_irrefl _)
    · intro m
      obtain ⟨u, hu, e⟩ := List.mem_map.mp m
      rcases Nat.lt_or_ge (ts.filter fun t => decide (t.1 ≠ z)).length ts.length with h | h
      · exact h
      · have := (List.length_filter_eq_length_iff.mp (Nat.le_antisymm (List.length_filter_le _ _) h)) u hu
        exact absurd e (by simpa using this)
  by_cases h : z ∈ ts.map (·.1)
  · rw [decide_eq_true h, decide_eq_true (key.mpr h)]
  · rw [decide_eq_false h, decide_eq_false fun q => h (key.mp q)]
theorem plain_P (ts : List (Str × Str)) : PyData.plainAll (ts.map dP) = true := by
  induction ts with
  | nil => simp [PyData.plainAll]
  | cons a r ih => rw [List.map_cons, PyData.plainAll, ih]; simp [PyData.plain, PyData.plainAll]
theorem dpAll_P {K : PySem.W.Frag} {H : Hp} {ps : List Addr} {ts : List (Str × Str)} (e : Each (ThAt H) ps ts) : DpAll K H (ps.map V.ref) (ts.map dP) :=
  dpAll_each (f := dP) (e.imp fun p t h => dp_T (c := [t.1, t.2]) (.of h))
section
variable {P : Program} {w : World} {K : PySem.W.Frag} {mg : Str → Option Value} {base : Heap}
theorem rv_isN {x : V} {H : Hp} : RV (fun x y H Q => y = .non ∧ Q (.bl (decide (x = .non))) H) x .non H (.bl (decide (x = .non))) := fun H1 e Q q => ⟨rfl, q H1 (Ex.refl _)⟩
theorem rv_notN {x : V} {H : Hp} : RV (fun x y H Q => y = .non ∧ Q (.bl (!decide (x = .non))) H) x .non H (.bl (!decide (x = .non))) := fun H1 e Q q => ⟨rfl, q H1 (Ex.refl _)⟩
def spTakeM (K : PySem.W.Frag) : Sp := fun vs H Q _ => ∃ (Hc : Hp) (p h : Addr) (ks : List Str) (cs : List (List Str)) (ts : List (Str × Str)) (nm : List Str) (n : Nat) (b : Addr) (c : List Str), vs = [.ref p, .ref b] ∧ StK K p h ts nm n Hc H ∧ HouseAt Hc h ks cs ∧ HOk ks cs ∧ TupAt Hc b c ∧ c ∈ cs ∧
  n < 40000 ∧ ts.length < 40000 ∧ ∀ Hc' H', Ex Hc Hc' → StK K p h (KP.stepT ts (.call c)) nm (n + 1) Hc' H' → Q (tellV (KP.tell ts (.call c))) H'
theorem scTakeM : FnScope ["self", "call", "thing"] ["self", "call"] (defScope (inClass (top 22) 4)) := ⟨rfl, rfl, rfl, by decide +kernel, rfl, by decide +kernel, by decide +kernel⟩
theorem m_take (T : Txt K mg) (S : SlF K) : Mtd P w K mg base 5 "take" (spTakeM K) := by
  refine mtd_of (mk_mtd (ps := ["self", "call"]) (j := 3) T rfl scTakeM (fun vs H Q E h => ?_) (fun _ _ _ _ _ _ us hl => match us, hl with | [_, _], _ => rfl) (fun cdv A outer s H vs Q E hr h => ?_))
  · obtain ⟨_, _, _, _, _, _, _, _, _, _, rfl, _⟩ := h
    rfl
  · obtain ⟨Hc, p, h, ks, cs, ts, nm, n, b, c, rfl, st, hh, hk, hb, hc, l1, l2, kk⟩ := h
    refine ⟨_, (pss_cons (ps_if (pt_not (pt_val (pe_dfn (d_is_call T) (hr.mono (by decide)) (pa_cons (SlX.pe_sl (pv 0)) (pa_cons (pv 1) pa_nil))))) pss_never pss_nil)
      (pss_cons (ps_expr (pe_bm PySem.F.plainAttrs_list PySem.F.slot_list_append PySem.F.type_list_append mt_append (SlX.pe_sl (pv 0)) (pa_cons (pe_tup (pa_cons pe_str (pa_cons (pv 1) pa_nil))) pa_nil)))
      (pss_cons (ps_set (i := 2) scTakeM.nd rfl (by first | exact Or.inl rfl | exact Or.inr rfl) (SlX.pe_methSl (E := E0) (pv 0) S.cls (T.meth "first_of") (m_first_of T S) (hr.mono (by decide)) pass0 (pa_cons (pv 1) pa_nil)))
      (pss_cons (ps_if (pt_cmpR op_isN (pv 2) pe_non (nomark _)) (pss_one (ps_ret pe_non)) pss_nil)
      (pss_cons (ps_expr (pe_bm PySem.F.plainAttrs_list PySem.F.slot_list_remove PySem.F.type_list_remove (mt_remD hr.units) (SlX.pe_sl (pv 0)) (pa_cons (pv 2) pa_nil)))
      (pss_one (ps_ret (pe_ix ix_tup (pv 2) pe_int (fun _ _ => rfl))))))))), ?_⟩
    have W := staW (Cst K) p h ts nm n
    obtain ⟨q1, s1⟩ := S.sR
    obtain ⟨q2, s2⟩ := S.sT
    refine w_skip (ewt_not (b := true) (ewt_Bv (ew_call (ewa_cons (PL := fun vs _ => vs = [.ref h, .ref b]) (ew_house S rfl) (fun x H2 _ ex => ewa_of W (ea_cons (ev_var rfl) ea_nil)) (fun x vs H2 H3 _ ex _ ev => by
      have ex : x = _ := ex
      have ev : vs = _ := ev
      rw [ex, ev])) fun vs H2 e2 ev => spw_V W fun H3 e3 Q q E => ⟨h, b, ks, cs, c, by rw [ev]; rfl, hh.ex (e2.trans e3), hk, e3 _ _ (e2 _ _ hb), hc, q⟩))) rfl st (fun Hc2 H2 e2 w2 => ?_)
    obtain ⟨dx, R, Tl, D, rs, ps, kvs, s, kn, kl⟩ := w2
    refine ⟨_, rfl, p, _, dx, q1, _, 2, _, rfl, s.slt, S.cls, s1, rfl, .inl ⟨rfl, _, .of s.hR⟩, _, rfl, by show 2 ≤ sizeLine; decide, fun u nu => ⟨R, _, _, rfl, rfl, (Ex.new nu) _ _ s.hR, Nat.lt_of_le_of_lt kl (Nat.lt_trans l1 (by decide : 40000 < sizeLine)), ?_⟩⟩
    have s5 := (s.grow (Ex.new (o := .tup [.str "call", .ref b]) nu)).row (.ref u)
    refine ⟨_, rfl, p, dx, _, rfl, s5.slt, _, rfl, Hc2, p, h, dx, R, Tl, D, _, ps, ts, kvs, b, c, rfl, s5, e2 _ _ hb, fun v Hc3 H3 e3 s6 first => ?_⟩
    have W6 := steW (Cst K) p h dx R Tl D (rs ++ [.ref u]) ps ts kvs
    have kl' : (rs ++ [V.ref u]).length ≤ n + 1 := by rw [List.length_append]; exact Nat.succ_le_succ kl
    rcases first with ⟨pk, rfl⟩ | ⟨j, t, q, pk, hq, ht, hno, rfl⟩
    · refine w_when (ewT W6 (et_test (ev_op (ev_var rfl) ev_c rv_isN))) s6 (fun Hc4 H4 e4 w4 pt => ?_) (fun Hc4 H4 e4 w4 pt => by cases pt)
      have := kk Hc4 H4 (e2.trans (e3.trans e4))
      rw [(step_none pk).1, (step_none pk).2] at this
      exact this ⟨dx, R, Tl, D, _, ps, kvs, w4, kn, kl'⟩
    · refine w_when (ewT W6 (et_test (ev_op (ev_var rfl) ev_c rv_isN))) s6 (fun Hc4 H4 e4 w4 pt => by cases pt) (fun Hc4 H4 e4 w4 pt => ?_)
      obtain ⟨t', ht', hth⟩ := w4.th.get hq
      have et : t' = t := by rw [ht] at ht'; injection ht' with z; exact z.symm
      subst et
      refine ⟨_, rfl, p, _, dx, q2, _, 3, _, rfl, w4.slt, S.cls, s2, rfl, .inl ⟨rfl, _, .of w4.hT⟩, _, rfl, Tl, _, .ref q, ts.map dP, dP t', j, rfl, rfl, w4.hT, dpAll_P w4.th, dp_T (c := [t'.1, t'.2]) (.of hth), plain_P ts, by simp [PyData.plain, PyData.plainAll], by rw [depth_T]; decide, place_of ht hno, ?_⟩
      have s7 := w4.things (w4.th.eraseIdx j)
      rw [← map_eraseAt] at s7
      have hth7 : upd H4 Tl (.lst ((ps.map V.ref).eraseIdx j)) q = some (.tup [.str t'.1, .str t'.2]) := upd_th hth w4.hT (fun _ z => by cases z)
      refine ⟨_, rfl, q, _, 0, .str t'.1, rfl, rfl, SqT.of hth7, rfl, ?_⟩
      have := kk Hc4 (upd H4 Tl (.lst ((ps.map V.ref).eraseIdx j))) (e2.trans (e3.trans e4))
      have sp := step_some pk ht (fun u hu e => hno u hu (by rw [e]))
      rw [sp.1, sp.2] at this
      refine this ⟨dx, R, Tl, D, _, _, kvs, s7, kn, kl'⟩
/-! drop -/
def spDrop (K : PySem.W.Frag) : Sp := fun vs H Q _ => ∃ (Hc : Hp) (p h : Addr) (ts : List (Str × Str)) (nm : List Str) (n : Nat) (z : Str), vs = [.ref p, .str z] ∧ StK K p h ts nm n Hc H ∧ NameOk z ∧
  n < 40000 ∧ ts.length < 40000 ∧ ∀ Hc' H', Ex Hc Hc' → StK K p h (KP.stepT ts (.drop z)) nm (n + 1) Hc' H' → Q (.bl (decide (z ∈ ts.map (·.1)))) H'
abbrev NDrop : List Str := ["self", "name", "left", "thing", "was_there"]
theorem scDrop : FnScope NDrop ["self", "name"] (defScope (inClass (top 22) 5)) := ⟨rfl, rfl, rfl, by decide +kernel, rfl, by decide +kernel, by decide +kernel⟩
theorem m_drop (T : Txt K mg) (S : SlF K) : Mtd P w K mg base 2 "drop" (spDrop K) := by
  refine mtd_of (mk_mtd (ps := ["self", "name"]) (j := 4) T rfl scDrop (fun vs H Q E h => ?_) (fun _ _ _ _ _ _ us hl => match us, hl with | [_, _], _ => rfl) (fun cdv A outer s H vs Q E hr h => ?_))
  · obtain ⟨_, _, _, _, _, _, _, rfl, _⟩ := h
    rfl
  · obtain ⟨Hc, p, h, ts, nm, n, z, rfl, st, hz, l1, l2, kk⟩ := h
    refine ⟨_, (pss_cons (ps_if (pt_not (pt_val (pe_dfn (d_is_name T) (hr.mono (by decide)) (pa_cons (pv 1) pa_nil)))) pss_never pss_nil)
      (pss_cons (ps_setLc (i := 2) (own := [("thing", 3)]) rfl scDrop.nd rfl (by rfl) (sw_true (by rfl) (by rfl) (by rfl) (by rfl)) (pi_list (SlX.pe_sl (pv 0))) (blkOk_by (N := NDrop) (sc := defScope (inClass (top 22) 5)) (by decide +kernel)) (fun _ _ _ _ _ => (pg_name (i := 3) scDrop.nd rfl (by first | exact Or.inl rfl | exact Or.inr rfl))) (fun _ _ _ _ _ => (pts_one (pt_cmpR op_ne (pe_ix (show IxR _ (rIxT K) from ix_tup) (pv 3) pe_int (fun _ _ => rfl)) (pv 1) (nomark _)))) (fun _ _ _ _ _ => (pv 3)))
      (pss_cons (ps_set (i := 4) scDrop.nd rfl (by first | exact Or.inl rfl | exact Or.inr rfl) (pe_cmpR op_lt (pe_callB call_len_seq (by rfl) (T.free "len") (by decide +kernel) (pa_cons (pv 2) pa_nil)) (pe_callB call_len_seq (by rfl) (T.free "len") (by decide +kernel) (pa_cons (SlX.pe_sl (pv 0)) pa_nil)) (nomark _)))
      (pss_cons (SlX.ps_sl (pv 0) (pv 2))
      (pss_cons (ps_expr (pe_bm PySem.F.plainAttrs_list PySem.F.slot_list_append PySem.F.type_list_append mt_append (SlX.pe_sl (pv 0)) (pa_cons (pe_tup (pa_cons pe_str (pa_cons (pv 1) pa_nil))) pa_nil)))
      (pss_one (ps_ret (pv 4)))))))), ?_⟩
    have W := staW (Cst K) p h ts nm n
    obtain ⟨q1, s1⟩ := S.sR
    obtain ⟨q2, s2⟩ := S.sT
    refine w_skip (ewt_not (b := true) (ewt_Bv (ew W (ev_call (z := .bl true) (ea_cons (ev_var rfl) ea_nil) fun H1 e Q q E => ⟨z, rfl, hz, q⟩)))) rfl st (fun Hc1 H1 e1 w1 => ?_)
    obtain ⟨dx, R, Tl, D, rs, ps, kvs, s, kn, kl⟩ := w1
    have W6 := steW (Cst K) p h dx R Tl D rs ps ts kvs
    obtain ⟨Hk, eK, wK, thK⟩ := know_each W6 s s.th
    obtain ⟨zs, eps, ets, hzs⟩ := thK.pairs
    have lz : zs.length < 40000 := by have := congrArg List.length ets; rw [List.length_map] at this; omega
    refine w_set (P := isL Hk ((zs.filter fun y => decide (y.2.1 ≠ z)).map fun y => V.ref y.1)) (ew_lcLv (a := Tl) (fun H1 w1 Q q => ⟨_, rfl, p, _, dx, q2, _, 3, _, rfl, w1.slt, S.cls, s2, rfl, q _ _ H1 (Ex.refl _) w1 rfl⟩)
      (fun H2 e2 => ew_fmLW (ys := zs) (gv := fun y => V.ref y.1) (f := fun y => decide (y.2.1 ≠ z)) (h := fun y => V.ref y.1) (sg := fun y => [some (.ref p), some (.str z), none, some (.ref y.1), none]) W6 (fun Hj H' _ w2 => .of (by have := w2.hT; rw [eps, List.map_map] at this; exact this)) (by omega) (fun y _ H' k _ g => g) (fun y _ => rfl)
        (fun y hy Hj ej => et_test (ev_is (ev_op (ev_op (ev_var rfl) (ev_c (v := .int 0)) (rv_ixT (v := .str y.2.1) (.of (ej _ _ (e2 _ _ (hzs y hy)))) rfl)) (ev_var rfl) (rv_ne rfl)) (by simp))) (fun y hy Hj ej _ => ev_var rfl))) wK (fun v Hc2 H2 e2 w2 ⟨L, nL, ev, hL⟩ => ?_)
    subst ev
    have hL2 := w2.same _ _ hL
    have lenL : ((zs.filter fun y => decide (y.2.1 ≠ z)).map fun y => V.ref y.1).length = (ts.filter fun t => decide (t.1 ≠ z)).length := by rw [List.length_map, ets, List.filter_map, List.length_map]; rfl
    -- was_there
    refine ⟨_, rfl, L, _, rfl, .inl (.of hL2), _, rfl, p, _, dx, q2, _, 3, _, rfl, w2.slt, S.cls, s2, rfl, Tl, _, rfl, .inl (.of w2.hT), _, _, rfl, rfl, ?_⟩
    -- its_things
    have nL0 : Hc1 L = none := fresh_back eK nL
    have RL : R ≠ L := fun e => by have z := w2.nR; rw [e, hL] at z; cases z
    have s3 := (w2.weak (eK.trans e2)).other (L := L) (ps' := (zs.filter fun y => decide (y.2.1 ≠ z)).map (·.1)) (ts' := ts.filter fun t => decide (t.1 ≠ z)) nL0 (by rw [hL2, List.map_map]; rfl) RL (by
      rw [ets, List.filter_map]
      refine (Each.ofPairs (zs := zs.filter fun y => decide (y.2.1 ≠ z)) fun y hy => ?_)
      exact w2.same _ _ (e2 _ _ (hzs y (List.mem_filter.mp hy).1)))
    refine ⟨_, rfl, _, rfl, p, _, dx, q2, _, 3, rfl, w2.slt, S.cls, s2, ?_⟩
    have s3' : StE (Cst K) p h dx R L D rs ((zs.filter fun y => decide (y.2.1 ≠ z)).map (·.1)) (ts.filter fun t => decide (t.1 ≠ z)) kvs Hc1 (slH H2 p (Cst K) dx (putS 3 (.ref L) (slV h R Tl D))) := s3
    -- the row
    refine ⟨_, rfl, p, _, dx, q1, _, 2, _, rfl, s3'.slt, S.cls, s1, rfl, .inl ⟨rfl, _, .of s3'.hR⟩, _, rfl, by show 2 ≤ sizeLine; decide, fun u nu => ⟨R, _, _, rfl, rfl, (Ex.new nu) _ _ s3'.hR, Nat.lt_of_le_of_lt kl (Nat.lt_trans l1 (by decide : 40000 < sizeLine)), ?_⟩⟩
    have s5 := (s3'.grow (Ex.new (o := .tup [.str "drop", .str z]) nu)).row (.ref u)
    refine ⟨_, rfl, ?_⟩
    have fin := kk Hc1 _ e1 ⟨dx, R, L, D, _, _, kvs, s5, kn, by rw [List.length_append]; exact Nat.succ_le_succ kl⟩
    rw [← left_lt] at fin
    have e7 : decide ((((zs.filter fun y => decide (y.2.1 ≠ z)).map fun y => V.ref y.1).length : Int) < ((ps.map V.ref).length : Int)) = decide ((ts.filter fun t => decide (t.1 ≠ z)).length < ts.length) := by
      rw [lenL, List.length_map, s.th.length]
      simp
    show Q (V.bl (decide ((((zs.filter fun y => decide (y.2.1 ≠ z)).map fun y => V.ref y.1).length : Int) < ((ps.map V.ref).length : Int)))) _
    rw [e7]
    exact fin
/-! there -/
def spThere (K : PySem.W.Frag) : Sp := fun vs H Q _ => ∃ (Hc : Hp) (p h : Addr) (ts : List (Str × Str)) (nm : List Str) (n : Nat), vs = [.ref p] ∧ StK K p h ts nm n Hc H ∧
  ∀ l ps Hc' H', Ex Hc Hc' → StK K p h ts nm n Hc' H' → Hc l = none → Hc' l = some (.lst (ps.map V.ref)) → Each (ThAt Hc') ps ts → Q (.ref l) H'
theorem scThere : FnScope ["self"] ["self"] (defScope (inClass (top 22) 6)) := ⟨rfl, rfl, rfl, by decide +kernel, rfl, by decide +kernel, by decide +kernel⟩
theorem m_there (T : Txt K mg) (S : SlF K) : Mtd P w K mg base 1 "there" (spThere K) := by
  refine mtd_of (mk_mtd (ps := ["self"]) (j := 5) T rfl scThere (fun vs H Q E h => ?_) (fun _ _ _ _ _ _ us hl => match us, hl with | [_], _ => rfl) (fun cdv A outer s H vs Q E hr h => ?_))
  · obtain ⟨_, _, _, _, _, _, rfl, _⟩ := h
    rfl
  · obtain ⟨Hc, p, h, ts, nm, n, rfl, st, kk⟩ := h
    refine ⟨_, (pss_one (ps_ret (pe_callTy call_list_of (by rfl) (T.free "list") (by decide +kernel) (pa_cons (SlX.pe_sl (pv 0)) pa_nil)))), ?_⟩
    obtain ⟨q2, s2⟩ := S.sT
    obtain ⟨dx, R, Tl, D, rs, ps, kvs, s, kn, kl⟩ := st
    obtain ⟨Hk, eK, wK, thK⟩ := know_each (steW (Cst K) p h dx R Tl D rs ps ts kvs) s s.th
    refine ⟨_, rfl, p, _, dx, q2, _, 3, _, rfl, wK.slt, S.cls, s2, rfl, Tl, _, rfl, .inl (.of wK.hT), fun l nl => ?_⟩
    have nk := fresh_back wK.same nl
    exact kk l ps _ _ (eK.trans (Ex.new nk)) ⟨dx, R, Tl, D, rs, ps, kvs, wK.add nl (Ex.new nl) upd_same, kn, kl⟩ (fresh_back eK nk) upd_same (thK.imp fun a t g => (Ex.new nk) _ _ g)
end
end KK
set_option maxHeartbeats 4000000
/-! Rows and logs: do_row, store_behind, told_by, there_at. -/
namespace KK
open PySem PySem.Spec PyProof.Rows L2 Evl SlX
abbrev Rw := KP.Row Str
def RowAt (H : Hp) (q : Addr) : Rw → Prop
  | .put n k => H q = some (.tup [.str "put", .str n, .str k])
  | .call c => ∃ b, H q = some (.tup [.str "call", .ref b]) ∧ TupAt H b c
  | .drop n => H q = some (.tup [.str "drop", .str n])
theorem RowAt.ex {H H' : Hp} {q : Addr} (e : Ex H H') : ∀ {r : Rw}, RowAt H q r → RowAt H' q r
  | .put _ _, h => e _ _ h
  | .call _, ⟨b, h1, h2⟩ => ⟨b, e _ _ h1, e _ _ h2⟩
  | .drop _, h => e _ _ h
def RowOk (ks : List Str) (cs : List (List Str)) (nm : List Str) : Rw → Prop
  | .put n k => NameOk n ∧ k ∈ ks ∧ n ∉ nm
  | .call c => c ∈ cs
  | .drop n => NameOk n
def nmS (nm : List Str) : Rw → List Str
  | .put n _ => nm ++ [n]
  | _ => nm
def RowsOk (ks : List Str) (cs : List (List Str)) : List Str → List Rw → Prop
  | _, [] => True
  | nm, r :: rs => RowOk ks cs nm r ∧ RowsOk ks cs (nmS nm r) rs
def LogAt (H : Hp) (lg : Addr) (rs : List Rw) : Prop := ∃ qs, H lg = some (.tup (qs.map V.ref)) ∧ Each (RowAt H) qs rs
theorem LogAt.ex {H H' : Hp} {lg : Addr} {rs : List Rw} (e : Ex H H') (h : LogAt H lg rs) : LogAt H' lg rs := by
  obtain ⟨qs, h1, h2⟩ := h
  exact ⟨qs, e _ _ h1, h2.imp fun p r g => g.ex e⟩
theorem nmS_len (nm : List Str) (r : Rw) : (nmS nm r).length ≤ nm.length + 1 := by cases r <;> simp [nmS]
theorem step_len (ts : List (Str × Str)) (r : Rw) : (KP.stepT ts r).length ≤ ts.length + 1 := by
  cases r with
  | put n k => simp [KP.stepT]
  | call c =>
    unfold KP.stepT
    simp only
    split
    · omega
    · rename_i t _
      have := List.length_erase_le (a := t) (l := ts)
      omega
  | drop n =>
    have := List.length_filter_le (fun t : Str × Str => decide (t.1 ≠ n)) ts
    simp only [KP.stepT]
    omega
theorem endT_snoc {α : Type} [DecidableEq α] : ∀ (rs : List (KP.Row α)) (ts : List (α × α)) (r : KP.Row α), KP.endT ts (rs ++ [r]) = KP.stepT (KP.endT ts rs) r
  | [], _, _ => rfl
  | a :: rs, ts, r => endT_snoc rs (KP.stepT ts a) r
theorem take_snoc {β : Type} {l : List β} {i : Nat} {x : β} (h : l[i]? = some x) : l.take (i + 1) = l.take i ++ [x] := by rw [List.take_add_one, h]; rfl
theorem drop_cons {β : Type} {l : List β} {i : Nat} {x : β} (h : l[i]? = some x) : l.drop i = x :: l.drop (i + 1) := by
  obtain ⟨h1, h2⟩ := List.getElem?_eq_some_iff.mp h
  rw [List.drop_eq_getElem_cons h1, h2]
theorem toldT_snoc {α : Type} [DecidableEq α] : ∀ (rs : List (KP.Row α)) (i : Nat) (ts : List (α × α)) (r : KP.Row α), KP.toldT i ts (rs ++ [r]) = KP.toldT i ts rs ++ KP.toldT (i + rs.length) (KP.endT ts rs) [r]
  | [], i, ts, r => by simp [KP.toldT, KP.endT]
  | .put n k :: rs, i, ts, r => by
    have := toldT_snoc rs (i + 1) (KP.stepT ts (.put n k)) r
    simp only [List.cons_append, KP.toldT, KP.endT, List.length_cons]
    rw [this]; congr 2; omega
  | .drop n :: rs, i, ts, r => by
    have := toldT_snoc rs (i + 1) (KP.stepT ts (.drop n)) r
    simp only [List.cons_append, KP.toldT, KP.endT, List.length_cons]
    rw [this]; congr 2; omega
  | .call c :: rs, i, ts, r => by
    have := toldT_snoc rs (i + 1) (KP.stepT ts (.call c)) r
    simp only [List.cons_append, KP.toldT, KP.endT, List.length_cons]
    rw [this]; congr 3; omega
theorem toldT_lt {α : Type} [DecidableEq α] : ∀ (rs : List (KP.Row α)) (i : Nat) (ts : List (α × α)) (p : Nat × Option α), p ∈ KP.toldT i ts rs → i ≤ p.1 ∧ p.1 < i + rs.length
  | [], _, _, p, h => by simp [KP.toldT] at h
  | .put n k :: rs, i, ts, p, h => by
    have := toldT_lt rs (i + 1) _ p (by simpa [KP.toldT] using h)
    simp only [List.length_cons]; omega
  | .drop n :: rs, i, ts, p, h => by
    have := toldT_lt rs (i + 1) _ p (by simpa [KP.toldT] using h)
    simp only [List.length_cons]; omega
  | .call c :: rs, i, ts, p, h => by
    simp only [KP.toldT, List.mem_cons] at h
    simp only [List.length_cons]
    rcases h with rfl | h
    · simp
    · have := toldT_lt rs (i + 1) _ p h
      omega
section
variable {K : PySem.W.Frag} {H : Hp} {σ : L2.St} {D : Ends} {tu tz : TS} {a : Addr} {xs : List V} {j k i1 i2 : Nat}
/-- for over a tuple, the word of the turn, the slots and the heap -/
theorem r_forT (Pv : Nat → L2.St → Hp → Prop) (hσ : σ[k]? = some (some (.ref a))) (h0 : Pv 0 σ H) (hk : ∀ i σ' H', Pv i σ' H' → SqT K H' a xs)
    (hs : ∀ (i : Nat) (x : V) (σ' : L2.St) (H' : Hp), xs[i]? = some x → Pv i σ' H' → tu { D with nx := Pv (i + 1), ct := Pv (i + 1), bk := tz D } (σ'.set j (some x)) H') (hd : ∀ σ' H', Pv xs.length σ' H' → tz D σ' H') : tSeq (tFor (iTup K (tVar k)) (gName j) tu) tz D σ H :=
  ⟨_, hσ, a, rfl, ⟨xs, hk 0 σ H h0⟩, for_tup Pv h0 (fun i σ' H' _ p => hk i σ' H' p) (fun i x σ' H' hi p => hs i x σ' H' hi p) hd⟩
/-- for i, x in enumerate of a tuple -/
theorem r_forE (Pv : Nat → L2.St → Hp → Prop) (hσ : σ[k]? = some (some (.ref a))) (h0 : Pv 0 σ H) (hk : ∀ i σ' H', Pv i σ' H' → SqT K H' a xs)
    (hs : ∀ (i : Nat) (x : V) (σ' : L2.St) (H' : Hp) (t : Addr), xs[i]? = some x → Pv i σ' H' → H' t = none → tu { D with nx := Pv (i + 1), ct := Pv (i + 1), bk := tz D } ((σ'.set i1 (some (.int (i : Nat)))).set i2 (some x)) (upd H' t (.tup [.int (i : Nat), x]))) (hd : ∀ σ' H', Pv xs.length σ' H' → tz D σ' H') :
    tSeq (tFor (iEnumT K (tCons (tVar k) tNil)) (gTup K 2 (gCons (gName i1) (gCons (gName i2) gNil))) tu) tz D σ H := by
  refine ⟨_, hσ, a, xs, rfl, hk 0 σ H h0, for_it walk_enumT Pv h0 (fun i σ' H' _ p => hk i σ' H' p) (fun i x σ' H' H'' hi p hy => ?_) hd⟩
  obtain ⟨t, x1, y1, rfl, nt, rfl, g1, g2⟩ := hy
  have e1 : V.int (i : Nat) = x1 := by injection g1
  subst e1
  exact ⟨t, _, rfl, SqT.of upd_same, rfl, _, _, rfl, _, _, rfl, rfl, hs i y1 σ' H' t g2 p nt⟩
end
section
variable {P : Program} {w : World} {K : PySem.W.Frag} {mg : Str → Option Value} {base : Heap}
def spDoRow (K : PySem.W.Frag) : Sp := fun vs H Q _ => ∃ (Hc : Hp) (p h : Addr) (ks : List Str) (cs : List (List Str)) (ts : List (Str × Str)) (nm : List Str) (n : Nat) (q : Addr) (r : Rw), vs = [.ref p, .ref q] ∧ StK K p h ts nm n Hc H ∧ HouseAt Hc h ks cs ∧ HOk ks cs ∧ RowAt Hc q r ∧ RowOk ks cs nm r ∧
  n < 40000 ∧ nm.length < 40000 ∧ ts.length < 40000 ∧ ∀ Hc' H', Ex Hc Hc' → StK K p h (KP.stepT ts r) (nmS nm r) (n + 1) Hc' H' → Q (tellV (KP.tell ts r)) H'
theorem scDoRow : FnScope ["store", "row"] ["store", "row"] (defScope (top 24)) := ⟨rfl, rfl, rfl, by decide +kernel, rfl, by decide +kernel, by decide +kernel⟩
theorem d_do_row (T : Txt K mg) (S : SlF K) : Dfn P w K mg base 6 "do_row" ["store", "row"] (spDoRow K) := by
  refine mk_dfn (j := 9) T rfl scDoRow (fun vs H Q E h => ?_) (fun _ _ _ _ _ _ us hl => match us, hl with | [_, _], _ => rfl) (fun cdv A outer s H vs Q E hr h => ?_)
  · obtain ⟨_, _, _, _, _, _, _, _, _, _, rfl, _⟩ := h
    rfl
  · obtain ⟨Hc, p, h, ks, cs, ts, nm, n, q, r, rfl, st, hh, hk, hr', ok, l1, l2, l3, kk⟩ := h
    refine ⟨_, (pss_cons (ps_if (pt_cmpR op_eq (pe_ix ix_tup (pv 1) pe_int (fun _ _ => rfl)) pe_str (nomark _)) (pss_one (ps_expr (SlX.pe_methSl (E := E0) (pv 0) S.cls (T.meth "put") (m_put T S) (hr.mono (by decide)) pass0 (pa_cons (pe_ix ix_tup (pv 1) pe_int (fun _ _ => rfl)) (pa_cons (pe_ix ix_tup (pv 1) pe_int (fun _ _ => rfl)) pa_nil))))) (pss_one (ps_if (pt_cmpR op_eq (pe_ix ix_tup (pv 1) pe_int (fun _ _ => rfl)) pe_str (nomark _)) (pss_one (ps_expr (SlX.pe_methSl (E := E0) (pv 0) S.cls (T.meth "drop") (m_drop T S) (hr.mono (by decide)) pass0 (pa_cons (pe_ix ix_tup (pv 1) pe_int (fun _ _ => rfl)) pa_nil)))) (pss_one (ps_ret (SlX.pe_methSl (E := E0) (pv 0) S.cls (T.meth "take") (m_take T S) (hr.mono (by decide)) pass0 (pa_cons (pe_ix ix_tup (pv 1) pe_int (fun _ _ => rfl)) pa_nil)))))))
      (pss_one (ps_ret pe_non))), ?_⟩
    have W := staW (Cst K) p h ts nm n
    cases r with
    | put z k =>
      obtain ⟨hz, hkk, hn⟩ := ok
      have hr' : Hc q = some (.tup [.str "put", .str z, .str k]) := hr'
      refine w_if (ewT W (et_test (ev_op (ev_op (ev_var rfl) (ev_c (v := .int 0)) (rv_ixT (.of hr') rfl)) (ev_c (v := .str "put")) (rv_eq rfl)))) st (fun Hc1 H1 e1 w1 pt => ?_) (fun Hc1 H1 e1 w1 pt => by cases pt)
      obtain ⟨dx, R, Tl, D, rs, ps, kvs, s, kn⟩ := id w1
      have hq := s.same _ _ (e1 _ _ hr')
      refine ⟨_, rfl, p, dx, _, rfl, s.slt, _, rfl, q, _, 1, .str z, rfl, rfl, .of hq, rfl, _, rfl, q, _, 2, .str k, rfl, rfl, .of hq, rfl, Hc1, p, h, ks, cs, ts, nm, n, z, k, rfl, w1, hh.ex e1, hz, hkk, hn, l1, l2, l3, fun Hc2 H2 e2 s2 => kk Hc2 H2 (e1.trans e2) s2⟩
    | drop z =>
      have hr' : Hc q = some (.tup [.str "drop", .str z]) := hr'
      have hz : NameOk z := ok
      refine w_if (ewT W (et_test (ev_op (ev_op (ev_var rfl) (ev_c (v := .int 0)) (rv_ixT (.of hr') rfl)) (ev_c (v := .str "put")) (rv_eq rfl)))) st (fun Hc1 H1 e1 w1 pt => by cases pt) (fun Hc1 H1 e1 w1 pt => ?_)
      refine w_if1 (ewT W (et_test (ev_op (ev_op (ev_var rfl) (ev_c (v := .int 0)) (rv_ixT (.of (e1 _ _ hr')) rfl)) (ev_c (v := .str "drop")) (rv_eq rfl)))) w1 (fun Hc2 H2 e2 w2 pt => ?_) (fun Hc2 H2 e2 w2 pt => by cases pt)
      obtain ⟨dx, R, Tl, D, rs, ps, kvs, s, kn⟩ := id w2
      have hq := s.same _ _ (e2 _ _ (e1 _ _ hr'))
      refine ⟨_, rfl, p, dx, _, rfl, s.slt, _, rfl, q, _, 1, .str z, rfl, rfl, .of hq, rfl, Hc2, p, h, ts, nm, n, z, rfl, w2, hz, l1, l3, fun Hc3 H3 e3 s3 => kk Hc3 H3 (e1.trans (e2.trans e3)) s3⟩
    | call c =>
      obtain ⟨b, hr', hb⟩ := hr'
      refine w_if (ewT W (et_test (ev_op (ev_op (ev_var rfl) (ev_c (v := .int 0)) (rv_ixT (.of hr') rfl)) (ev_c (v := .str "put")) (rv_eq rfl)))) st (fun Hc1 H1 e1 w1 pt => by cases pt) (fun Hc1 H1 e1 w1 pt => ?_)
      refine w_if1 (ewT W (et_test (ev_op (ev_op (ev_var rfl) (ev_c (v := .int 0)) (rv_ixT (.of (e1 _ _ hr')) rfl)) (ev_c (v := .str "drop")) (rv_eq rfl)))) w1 (fun Hc2 H2 e2 w2 pt => by cases pt) (fun Hc2 H2 e2 w2 pt => ?_)
      obtain ⟨dx, R, Tl, D, rs, ps, kvs, s, kn⟩ := id w2
      have e12 := e1.trans e2
      have hq := s.same _ _ (e12 _ _ hr')
      refine ⟨_, rfl, p, dx, _, rfl, s.slt, _, rfl, q, _, 1, .ref b, rfl, rfl, .of hq, rfl, Hc2, p, h, ks, cs, ts, nm, n, b, c, rfl, w2, hh.ex e12, hk, e12 _ _ hb, ok, l1, l3, fun Hc3 H3 e3 s3 => kk Hc3 H3 (e12.trans e3) s3⟩
/-! store_behind -/
def spBehind (K : PySem.W.Frag) : Sp := fun vs H Q _ => ∃ (h lg : Addr) (ks : List Str) (cs : List (List Str)) (rs : List Rw), vs = [.ref h, .ref lg] ∧ HouseAt H h ks cs ∧ HOk ks cs ∧ LogAt H lg rs ∧ RowsOk ks cs [] rs ∧ rs.length < 20000 ∧
  ∀ p nm n Hc' H', Ex H Hc' → StK K p h (KP.endT [] rs) nm n Hc' H' → Q (.ref p) H'
theorem scBehind : FnScope ["house", "rows", "store", "row"] ["house", "rows"] (defScope (top 25)) := ⟨rfl, rfl, rfl, by decide +kernel, rfl, by decide +kernel, by decide +kernel⟩
theorem d_store_behind (T : Txt K mg) (S : SlF K) : Dfn P w K mg base 7 "store_behind" ["house", "rows"] (spBehind K) := by
  refine mk_dfn (j := 10) T rfl scBehind (fun vs H Q E h => ?_) (fun _ _ _ _ _ _ us hl => match us, hl with | [_, _], _ => rfl) (fun cdv A outer s H vs Q E hr h => ?_)
  · obtain ⟨_, _, _, _, _, rfl, _⟩ := h
    rfl
  · obtain ⟨h, lg, ks, cs, rs, rfl, hh, hk, ⟨qs, hlg, hrs⟩, ok, lr, kk⟩ := h
    obtain ⟨fd0, F0, b0⟩ := f_init (P := P) (w := w) (base := base) T S
    refine ⟨_, (pss_cons (ps_set (i := 2) scBehind.nd rfl (by first | exact Or.inl rfl | exact Or.inr rfl) (pe_make (E := E0) T.made F0 (hr.mono (by decide)) (by rfl) T.store b0 .nil pass0 (pa_cons (pv 0) pa_nil)))
      (pss_cons (ps_for PassesOwn.never rfl (pi_tup (pv 1)) (pg_name (i := 3) scBehind.nd rfl (by first | exact Or.inl rfl | exact Or.inr rfl)) (pss_one (ps_expr (pe_dfn (d_do_row T S) (hr.mono (by decide)) (pa_cons (pv 2) (pa_cons (pv 3) pa_nil))))))
      (pss_one (ps_ret (pv 2))))), ?_⟩
    refine ⟨_, rfl, fun p dx np nx dxp => ⟨H, p, h, dx, ks, cs, rfl, upd_same, by rw [upd_ne dxp, upd_same], np, nx, (Ex.new nx).trans (Ex.new (by rw [upd_ne dxp.symm]; exact np)), hh, hk, fun Hc1 H1 e1 s1 => ⟨rfl, ?_⟩⟩⟩
    have lq := hrs.length
    refine r_forT (xs := qs.map V.ref) (fun i σ' H' => ∃ v Hk nm, σ' = [some (.ref h), some (.ref lg), some (.ref p), v] ∧ Ex H Hk ∧ StK K p h (KP.endT [] (rs.take i)) nm i Hk H' ∧ RowsOk ks cs nm (rs.drop i) ∧ nm.length ≤ i ∧ (KP.endT [] (rs.take i)).length ≤ i) rfl ⟨none, Hc1, [], rfl, e1, s1, ok, Nat.le_refl _, Nat.le_refl _⟩
      (fun i σ' H' ⟨v, Hk, nm, _, e, st, _⟩ => .of ((staW _ _ _ _ _ _).ex st _ _ (e _ _ hlg))) (fun i x σ' H' hx ⟨v, Hk, nm, eσ, e, st, okd, ln, lt⟩ => ?_) (fun σ' H' ⟨v, Hk, nm, eσ, e, st, _⟩ => ?_)
    · subst eσ
      rw [List.getElem?_map] at hx
      obtain ⟨q, hq, rfl⟩ := Option.map_eq_some_iff.mp hx
      obtain ⟨r, hr2, hrow⟩ := hrs.get hq
      have li : i < rs.length := (List.getElem?_eq_some_iff.mp hr2).1
      rw [drop_cons hr2] at okd
      refine ⟨_, rfl, _, rfl, Hk, p, h, ks, cs, KP.endT [] (rs.take i), nm, i, q, r, rfl, st, hh.ex e, hk, hrow.ex e, okd.1, by omega, by omega, by omega, fun Hc2 H2 e2 st2 => ?_⟩
      refine ⟨_, Hc2, nmS nm r, rfl, e.trans e2, ?_, okd.2, Nat.le_trans (nmS_len _ _) (by omega), ?_⟩
      · rw [take_snoc hr2, endT_snoc]; exact st2
      · rw [take_snoc hr2, endT_snoc]; exact Nat.le_trans (step_len _ _) (by omega)
    · subst eσ
      rw [List.length_map, lq, List.take_length] at st
      exact ⟨_, rfl, kk p nm _ Hk H' e st⟩
/-! told_by -/
def tKvs (l : List (Nat × Option Str)) : List (Key × V) := l.map fun p => (Sum.inl (p.1 : Int), tellV p.2)
theorem tKvs_new : ∀ {l : List (Nat × Option Str)} {i : Nat}, (∀ p ∈ l, p.1 < i) → valV (tKvs l) (Sum.inl (i : Int)) = none
  | [], _, _ => valV_nil
  | a :: r, i, h => by
    show valV ((Sum.inl (a.1 : Int), tellV a.2) :: tKvs r) _ = none
    rw [valV_neg (by intro q; injection q with q; have := h a (by simp); omega)]
    exact tKvs_new fun p hp => h p (by simp [hp])
def spTold : Sp := fun vs H Q _ => ∃ (h lg : Addr) (ks : List Str) (cs : List (List Str)) (rs : List Rw), vs = [.ref h, .ref lg] ∧ HouseAt H h ks cs ∧ HOk ks cs ∧ LogAt H lg rs ∧ RowsOk ks cs [] rs ∧ rs.length < 20000 ∧
  ∀ d H', H d = none → Ex H H' → H' d = some (.dK (tKvs (KP.toldT 0 [] rs))) → Q (.ref d) H'
theorem scTold : FnScope ["house", "log", "store", "found", "index", "row", "name"] ["house", "log"] (defScope (top 26)) := ⟨rfl, rfl, rfl, by decide +kernel, rfl, by decide +kernel, by decide +kernel⟩
theorem d_told_by (T : Txt K mg) (S : SlF K) : Dfn P w K mg base 7 "told_by" ["house", "log"] spTold := by
  refine mk_dfn (j := 11) T rfl scTold (fun vs H Q E h => ?_) (fun _ _ _ _ _ _ us hl => match us, hl with | [_, _], _ => rfl) (fun cdv A outer s H vs Q E hr h => ?_)
  · obtain ⟨_, _, _, _, _, rfl, _⟩ := h
    rfl
  · obtain ⟨h, lg, ks, cs, rs, rfl, hh, hk, ⟨qs, hlg, hrs⟩, ok, lr, kk⟩ := h
    obtain ⟨fd0, F0, b0⟩ := f_init (P := P) (w := w) (base := base) T S
    refine ⟨_, (pss_cons (ps_par (i := 2) (j := 3) rfl scTold.nd rfl rfl (by decide) (by rfl) (by rfl) (pa_cons (pe_make (E := E0) T.made F0 (hr.mono (by decide)) (by rfl) T.store b0 .nil pass0 (pa_cons (pv 0) pa_nil)) (pa_cons pe_dnewK pa_nil)) rfl)
      (pss_cons (ps_for PassesOwn.never rfl (pi_enumT (T.free "enumerate") (pa_cons (pv 1) pa_nil)) (pg_tup rfl (pgs_cons (pg_name (i := 4) scTold.nd rfl (by first | exact Or.inl rfl | exact Or.inr rfl)) (pgs_cons (pg_name (i := 5) scTold.nd rfl (by first | exact Or.inl rfl | exact Or.inr rfl)) pgs_nil))) (pss_cons (ps_set (i := 6) scTold.nd rfl (by first | exact Or.inl rfl | exact Or.inr rfl) (pe_dfn (d_do_row T S) (hr.mono (by decide)) (pa_cons (pv 2) (pa_cons (pv 5) pa_nil))))
        (pss_one (ps_if (pt_cmpR op_eq (pe_ix ix_tup (pv 5) pe_int (fun _ _ => rfl)) pe_str (nomark _)) (pss_one (ps_dput (room1 hr) (pv 3) (pv 4) (pv 6) rfl)) pss_nil))))
      (pss_one (ps_ret (pv 3))))), ?_⟩
    refine ⟨_, rfl, fun p dx np nx dxp => ⟨H, p, h, dx, ks, cs, rfl, upd_same, by rw [upd_ne dxp, upd_same], np, nx, (Ex.new nx).trans (Ex.new (by rw [upd_ne dxp.symm]; exact np)), hh, hk, fun Hc1 H1 e1 s1 => ⟨rfl, ?_⟩⟩⟩
    refine fun d nd => ⟨_, _, rfl, ?_⟩
    have lq := hrs.length
    have ndc : Hc1 d = none := fresh_back ((staW _ _ _ _ _ _).ex s1) nd
    have nd0 : H d = none := fresh_back e1 ndc
    have s2 := (staW _ _ _ _ _ _).add s1 nd (Ex.new nd) (o := .dK []) upd_same
    refine r_forE (xs := qs.map V.ref) (fun i σ' H' => ∃ a b c Hk nm, σ' = [some (.ref h), some (.ref lg), some (.ref p), some (.ref d), a, b, c] ∧ Ex H Hk ∧ StK K p h (KP.endT [] (rs.take i)) nm i Hk H' ∧ Hk d = some (.dK (tKvs (KP.toldT 0 [] (rs.take i)))) ∧ RowsOk ks cs nm (rs.drop i) ∧ nm.length ≤ i ∧ (KP.endT [] (rs.take i)).length ≤ i) rfl
      ⟨none, none, none, _, [], rfl, e1.trans (Ex.new ndc), s2, upd_same, ok, Nat.le_refl _, Nat.le_refl _⟩
      (fun i σ' H' ⟨_, _, _, Hk, nm, _, e, st, _⟩ => .of ((staW _ _ _ _ _ _).ex st _ _ (e _ _ hlg))) (fun i x σ' H' t hx ⟨_, _, _, Hk, nm, eσ, e, st, hd, okd, ln, lt⟩ nt => ?_) (fun σ' H' ⟨_, _, _, Hk, nm, eσ, e, st, hd, _⟩ => ?_)
    · subst eσ
      rw [List.getElem?_map] at hx
      obtain ⟨q, hq, rfl⟩ := Option.map_eq_some_iff.mp hx
      obtain ⟨r, hr2, hrow⟩ := hrs.get hq
      have li : i < rs.length := (List.getElem?_eq_some_iff.mp hr2).1
      rw [drop_cons hr2] at okd
      have st' := (staW _ _ _ _ _ _).grow st (Ex.new (o := .tup [.int (i : Nat), .ref q]) nt)
      refine ⟨_, rfl, _, rfl, Hk, p, h, ks, cs, KP.endT [] (rs.take i), nm, i, q, r, rfl, st', hh.ex e, hk, hrow.ex e, okd.1, by omega, by omega, by omega, fun Hc2 H2 e2 st2 => ?_⟩
      have W2 := staW (Cst K) p h (KP.stepT (KP.endT [] (rs.take i)) r) (nmS nm r) (i + 1)
      have hd2 := e2 _ _ hd
      have hrow2 := hrow.ex (e.trans e2)
      have tk : (rs.take i).length = i := by rw [List.length_take]; omega
      have l5 : (nmS nm r).length ≤ i + 1 := Nat.le_trans (nmS_len _ _) (by omega)
      have l6 : (KP.stepT (KP.endT [] (rs.take i)) r).length ≤ i + 1 := Nat.le_trans (step_len _ _) (by omega)
      have etk := take_snoc hr2
      cases r with
      | put z k =>
        refine w_if1 (ewT W2 (et_test (ev_op (ev_op (ev_var rfl) (ev_c (v := .int 0)) (rv_ixT (.of hrow2) rfl)) (ev_c (v := .str "call")) (rv_eq rfl)))) st2 (fun Hc3 H3 e3 w3 pt => by cases pt) (fun Hc3 H3 e3 w3 pt => ?_)
        refine ⟨_, _, _, Hc3, nmS nm (.put z k), rfl, (e.trans e2).trans e3, ?_, ?_, okd.2, l5, ?_⟩
        · rw [etk, endT_snoc]; exact w3
        · rw [etk, toldT_snoc]
          have := e3 _ _ hd2
          simpa [KP.toldT] using this
        · rw [etk, endT_snoc]; exact l6
      | drop z =>
        refine w_if1 (ewT W2 (et_test (ev_op (ev_op (ev_var rfl) (ev_c (v := .int 0)) (rv_ixT (.of hrow2) rfl)) (ev_c (v := .str "call")) (rv_eq rfl)))) st2 (fun Hc3 H3 e3 w3 pt => by cases pt) (fun Hc3 H3 e3 w3 pt => ?_)
        refine ⟨_, _, _, Hc3, nmS nm (.drop z), rfl, (e.trans e2).trans e3, ?_, ?_, okd.2, l5, ?_⟩
        · rw [etk, endT_snoc]; exact w3
        · rw [etk, toldT_snoc]
          have := e3 _ _ hd2
          simpa [KP.toldT] using this
        · rw [etk, endT_snoc]; exact l6
      | call c =>
        obtain ⟨b, hrow2, _⟩ := hrow2
        refine w_if1 (ewT W2 (et_test (ev_op (ev_op (ev_var rfl) (ev_c (v := .int 0)) (rv_ixT (.of hrow2) rfl)) (ev_c (v := .str "call")) (rv_eq rfl)))) st2 (fun Hc3 H3 e3 w3 pt => ?_) (fun Hc3 H3 e3 w3 pt => by cases pt)
        have hd3 := e3 _ _ hd2
        have kv : valV (tKvs (KP.toldT 0 [] (rs.take i))) (Sum.inl (i : Int)) = none := tKvs_new fun p hp => by
          have := (toldT_lt _ _ _ _ hp).2
          rw [tk] at this; omega
        have ll : (tKvs (KP.toldT 0 [] (rs.take i))).length ≤ i := by
          have : ∀ (rs : List Rw) (j : Nat) (ts : List (Str × Str)), (KP.toldT j ts rs).length ≤ rs.length := fun rs => by
            induction rs with
            | nil => intro j ts; simp [KP.toldT]
            | cons a r ih =>
              intro j ts
              cases a with
              | put z k => have := ih (j + 1) (KP.stepT ts (.put z k)); simp only [KP.toldT, List.length_cons]; omega
              | drop z => have := ih (j + 1) (KP.stepT ts (.drop z)); simp only [KP.toldT, List.length_cons]; omega
              | call z => have := ih (j + 1) (KP.stepT ts (.call z)); simp only [KP.toldT, List.length_cons]; omega
          have := this (rs.take i) 0 []
          rw [tk] at this
          unfold tKvs
          rw [List.length_map]; exact this
        refine ⟨_, rfl, _, rfl, _, rfl, d, _, rfl, DPut.k (k := Sum.inl (i : Int)) (W2.ex w3 _ _ hd3) (Nat.lt_trans (by omega) (by decide : 20000 < sizeLine)), ?_⟩
        rw [putK_new _ kv]
        have w4 := W2.set (o' := .dK (tKvs (KP.toldT 0 [] (rs.take i)) ++ [(Sum.inl (i : Int), tellV (KP.tell (KP.endT [] (rs.take i)) (.call c)))])) w3 hd3 (fun _ z => by cases z)
        refine ⟨_, _, _, upd Hc3 d (.dK (tKvs (KP.toldT 0 [] (rs.take i)) ++ [(Sum.inl (i : Int), tellV (KP.tell (KP.endT [] (rs.take i)) (.call c)))])), nmS nm (.call c), rfl, Ex.mut ((e.trans e2).trans e3) nd0, ?_, ?_, okd.2, l5, ?_⟩
        · rw [etk, endT_snoc]; exact w4
        · rw [upd_same, etk, toldT_snoc, tk]
          simp only [KP.toldT, tKvs, List.map_append, List.map_cons, List.map_nil, Nat.zero_add]
        · rw [etk, endT_snoc]; exact l6
    · subst eσ
      rw [List.length_map, lq, List.take_length] at hd
      have ex := (staW _ _ _ _ _ _).ex st
      exact ⟨_, rfl, kk d H' nd0 (e.trans ex) (ex _ _ hd)⟩
/-! there_at -/
def spThereAt : Sp := fun vs H Q _ => ∃ (h lg : Addr) (ks : List Str) (cs : List (List Str)) (rs : List Rw) (m : Nat), vs = [.ref h, .ref lg, .int m] ∧ m = rs.length ∧ HouseAt H h ks cs ∧ HOk ks cs ∧ LogAt H lg rs ∧ RowsOk ks cs [] rs ∧ rs.length < 20000 ∧
  ∀ l ps H', H l = none → Ex H H' → H' l = some (.lst (ps.map V.ref)) → Each (ThAt H') ps (KP.endT [] rs) → Q (.ref l) H'
theorem scThereAt : FnScope ["house", "log", "moment"] ["house", "log", "moment"] (defScope (top 27)) := ⟨rfl, rfl, rfl, by decide +kernel, rfl, by decide +kernel, by decide +kernel⟩
theorem whole_cut {n : Nat} : HT.sIx n 0 none = 0 ∧ HT.sIx n n (some (n : Int)) = n := by
  constructor
  · rfl
  · simp [HT.sIx]
    omega
theorem d_there_at (T : Txt K mg) (S : SlF K) : Dfn P w K mg base 8 "there_at" ["house", "log", "moment"] spThereAt := by
  refine mk_dfn (j := 12) T rfl scThereAt (fun vs H Q E h => ?_) (fun _ _ _ _ _ _ us hl => match us, hl with | [_, _, _], _ => rfl) (fun cdv A outer s H vs Q E hr h => ?_)
  · obtain ⟨_, _, _, _, _, _, rfl, _⟩ := h
    rfl
  · obtain ⟨h, lg, ks, cs, rs, m, rfl, em, hh, hk, ⟨qs, hlg, hrs⟩, ok, lr, kk⟩ := h
    refine ⟨_, (pss_one (ps_ret (SlX.pe_methSl0 (E := E0) (pe_dfn (d_store_behind T S) (hr.mono (by decide)) (pa_cons (pv 0) (pa_cons (pe_slice sl_tupA (pv 1) po_none (po_some (pv 2))) pa_nil))) S.cls (T.meth "there") (m_there T S) (hr.mono (by decide)) pass0))), ?_⟩
    have lq : (qs.map V.ref).length = m := by rw [List.length_map, hrs.length, em]
    refine ⟨_, rfl, _, rfl, _, rfl, _, rfl, lg, _, rfl, .of hlg, fun _ => ?_, fun h0 => ?_⟩
    · refine ⟨h, lg, ks, cs, rs, rfl, hh, hk, ⟨qs, hlg, hrs⟩, ok, lr, fun p nm n Hc1 H1 e1 st => ?_⟩
      obtain ⟨dx, R, Tl, D, rs', ps, kvs, s, kn⟩ := id st
      refine ⟨p, dx, _, rfl, s.slt, Hc1, p, h, KP.endT [] rs, nm, n, rfl, st, fun l ps Hc2 H2 e2 st2 nl hl th => ?_⟩
      have ex := (staW _ _ _ _ _ _).ex st2
      exact kk l ps H2 (fresh_back e1 nl) (e1.trans (e2.trans ex)) (ex _ _ hl) (th.imp fun a t g => ex _ _ g)
    · refine absurd ?_ h0
      rw [lq]
      exact whole_cut
end
end KK
set_option maxHeartbeats 4000000
/-! More of worlds: lists of new tuples, dicts, lists joined, compared. -/
namespace KK
open PySem PySem.Spec PyProof.Rows L2 Evl
abbrev EachT (H : Hp) (ps : List Addr) (xss : List (List V)) : Prop := Each (fun q xs => H q = some (.tup xs)) ps xss
/-- a new list of tuples -/
abbrev isLU (Hc : Hp) (xss : List (List V)) : V → Hp → Prop := fun v H' => ∃ p ps, Hc p = none ∧ v = .ref p ∧ H' p = some (.lst (ps.map V.ref)) ∧ EachT H' ps xss
section
variable {W : Hp → Hp → Prop} {K : PySem.W.Frag} {Hc H Hc1 H' : Hp} {σ : L2.St} {te ta tb tl td ty : TE} {tt u : TT} {g : TG} {vs : List Nat} {j : Nat} {v z : V} {xs ys : List V} {P P' : V → Hp → Prop} {a d : Addr}
theorem isLU.back {xss : List (List V)} (e : Ex Hc Hc1) (h : isLU Hc1 xss v H') : isLU Hc xss v H' := by
  obtain ⟨p, ps, n, r⟩ := h
  exact ⟨p, ps, fresh_back e n, r⟩
section
variable {α : Type} {zs : List α} {gv : α → V} {h : α → List V} {f : α → Bool} {sg : α → L2.St}
theorem fmU_step {i : Nat} {y : α} (hy : zs[i]? = some y) : ((zs.take (i + 1)).filter f).map h = ((zs.take i).filter f).map h ++ (if f y = true then [h y] else []) := by
  rw [List.take_add_one, hy, List.filter_append, List.map_append]
  congr 1
  show (List.filter f [y]).map h = _
  by_cases q : f y = true
  · rw [if_pos q]; simp [q]
  · rw [if_neg q]; simp [q]
abbrev PU (zs : List α) (f : α → Bool) (h : α → List V) : Nat → List V → Hp → Prop := fun i acc H => ∃ ps : List Addr, acc = ps.map V.ref ∧ EachT H ps (((zs.take i).filter f).map h)
theorem PU.tex {i : Nat} {acc : List V} {H H' : Hp} (e : TEx H H') (p : PU zs f h i acc H) : PU zs f h i acc H' := by
  obtain ⟨ps, e1, e2⟩ := p
  exact ⟨ps, e1, e2.imp fun q xs g => e _ _ g⟩
theorem fmU_turn (w : Wld W) {i : Nat} {y : α} (hy : zs[i]? = some y) {σ2 : L2.St} {Hk : Hp} {acc : List V} (pa : PU zs f h i acc Hk) (ht : EvT tt σ2 Hk (f y)) (he : f y = true → ∀ H1, Ex Hk H1 → EvU te σ2 H1 (h y)) :
    EWT W tt σ2 Hk fun b H2 => if b = true then EW W te σ2 H2 fun v H3 => PU zs f h (i + 1) (acc ++ [v]) H3 else PU zs f h (i + 1) acc H2 := by
  obtain ⟨ps, e1, e2⟩ := pa
  refine ewt_dec w ht (fun ef => EW.imp (ewU w (he ef Hk (Ex.refl _))) fun v H' e ⟨q, n, ev, hq⟩ => ?_) fun ef => ?_
  · refine ⟨ps ++ [q], by rw [e1, ev, List.map_append]; rfl, ?_⟩
    rw [fmU_step hy, if_pos ef]
    exact (e2.imp fun q xs g => e _ _ g).app (.cons hq .nil)
  · refine ⟨ps, e1, ?_⟩
    rw [fmU_step hy, if_neg (by rw [ef]; decide), List.append_nil]
    exact e2
theorem ew_fmTU (w : Wld W) (ha : SqT K Hc a (zs.map gv)) (hz : zs.length < 50000) (hg : ∀ y ∈ zs, ∀ H' k, Ex Hc H' → k (sg y) H' → g (gv y) (wipe σ vs) H' k) (hw : ∀ y ∈ zs, wipe (sg y) vs = wipe σ vs)
    (ht : ∀ y ∈ zs, ∀ Hk, Ex Hc Hk → EvT tt (sg y) Hk (f y)) (he : ∀ y ∈ zs, ∀ Hk, Ex Hc Hk → f y = true → EvU te (sg y) Hk (h y)) : EW W (tLc (iTup K (tC (.ref a))) g tt te vs) σ Hc (isLU Hc ((zs.filter f).map h)) := fun H1 w1 Q q => by
  refine ⟨a, rfl, ⟨_, ex_t (w.ex w1) ha⟩, fun Dl hD => lc_tup (xs := zs.map gv) (Lw W Hc Dl (PU zs f h)) (lw_start w (Ex.refl _) w1 hD (fun _ _ => ⟨[], rfl, .nil⟩)) (fun i H' _ ⟨Hk, _, e, wk, _⟩ => ex_t (w.ex wk) (ex_t e ha)) (fun i x H' hi p => ?_) (fun H' ⟨Hk, acc, e, wk, hd, _, pa⟩ => ?_)⟩
  · rw [List.getElem?_map] at hi
    obtain ⟨y, hy, rfl⟩ := Option.map_eq_some_iff.mp hi
    have my : y ∈ zs := List.mem_of_getElem? hy
    obtain ⟨Hk0, _, e0, wk0, _⟩ := id p
    refine hg y my _ _ (e0.trans (w.ex wk0)) ⟨hw y my, lw_turn w (fresh_back (w.ex w1) hD) (fun _ _ _ _ e h => PU.tex e h) (by have := (List.getElem?_eq_some_iff.mp hy).1; omega) p fun acc Hk e pa => fmU_turn w hy pa (ht y my Hk e) (fun ef H1 e1 => he y my H1 (e.trans e1) ef)⟩
  · obtain ⟨ps, e1, e2⟩ := pa
    rw [List.length_map, List.take_length] at e2
    exact q _ Hk H' e wk ⟨Dl, ps, fresh_back (w.ex w1) hD, rfl, by rw [hd, e1], e2⟩
theorem ew_fmLU (w : Wld W) (ha : SqL K Hc a (zs.map gv)) (hz : zs.length < 50000) (hg : ∀ y ∈ zs, ∀ H' k, Ex Hc H' → k (sg y) H' → g (gv y) (wipe σ vs) H' k) (hw : ∀ y ∈ zs, wipe (sg y) vs = wipe σ vs)
    (ht : ∀ y ∈ zs, ∀ Hk, Ex Hc Hk → EvT tt (sg y) Hk (f y)) (he : ∀ y ∈ zs, ∀ Hk, Ex Hc Hk → f y = true → EvU te (sg y) Hk (h y)) : EW W (tLc (iList K (tC (.ref a))) g tt te vs) σ Hc (isLU Hc ((zs.filter f).map h)) := fun H1 w1 Q q => by
  refine ⟨a, rfl, ⟨_, ex_l (w.ex w1) ha⟩, fun Dl hD => lc_list (xs := zs.map gv) (Lw W Hc Dl (PU zs f h)) (lw_start w (Ex.refl _) w1 hD (fun _ _ => ⟨[], rfl, .nil⟩)) (fun i H' _ ⟨Hk, _, e, wk, _⟩ => ex_l (w.ex wk) (ex_l e ha)) (fun i x H' hi p => ?_) (fun H' ⟨Hk, acc, e, wk, hd, _, pa⟩ => ?_)⟩
  · rw [List.getElem?_map] at hi
    obtain ⟨y, hy, rfl⟩ := Option.map_eq_some_iff.mp hi
    have my : y ∈ zs := List.mem_of_getElem? hy
    obtain ⟨Hk0, _, e0, wk0, _⟩ := id p
    refine hg y my _ _ (e0.trans (w.ex wk0)) ⟨hw y my, lw_turn w (fresh_back (w.ex w1) hD) (fun _ _ _ _ e h => PU.tex e h) (by have := (List.getElem?_eq_some_iff.mp hy).1; omega) p fun acc Hk e pa => fmU_turn w hy pa (ht y my Hk e) (fun ef H1 e1 => he y my H1 (e.trans e1) ef)⟩
  · obtain ⟨ps, e1, e2⟩ := pa
    rw [List.length_map, List.take_length] at e2
    exact q _ Hk H' e wk ⟨Dl, ps, fresh_back (w.ex w1) hD, rfl, by rw [hd, e1], e2⟩
end
/-- d[k] -/
theorem ev_dget {kvs : List (Key × V)} {k : Key} (h1 : Ev td σ H (.ref d)) (h2 : Ev ty σ H (kV k)) (hd : H d = some (.dK kvs)) (hv : valV kvs k = some v) : Ev (tDGet td ty) σ H v :=
  fun H1 e Q q => h1 H1 e _ fun H2 e2 => h2 H2 (e.trans e2) _ fun H3 e3 => ⟨d, v, rfl, by
    have := DGet.k (k := k) (((e.trans e2).trans e3) _ _ hd)
    rwa [hv] at this, q H3 (e2.trans e3)⟩
/-! ### lists joined -/
theorem ew_cat (w : Wld W) (ha : EW W ta σ Hc (isL Hc xs)) (hb : ∀ H1, Ex Hc H1 → EW W tb σ H1 (isL H1 ys)) (hz : xs.length + ys.length ≤ 100000) : EW W (tOp rCat ta tb) σ Hc (isL Hc (xs ++ ys)) :=
  fun H1 w1 Q q => ha H1 w1 _ fun x Hc1 H2 e1 w2 ⟨p, n, ex, hp⟩ => hb Hc1 e1 H2 w2 _ fun y Hc2 H3 e2 w3 ⟨r, n2, ey, hr⟩ => ⟨p, r, xs, ys, ex, ey, w.ex w3 _ _ (e2 _ _ hp), w.ex w3 _ _ hr, sz_of hz, fun l nl => by
    have n0 := fresh_back (w.ex w3) nl
    exact q (.ref l) _ _ ((e1.trans e2).trans (Ex.new n0)) (w.add w3 nl (Ex.new nl) upd_same) ⟨l, fresh_back (e1.trans e2) n0, rfl, upd_same⟩⟩
/-- known lists joined -/
theorem ew_catK {r : Addr} (w : Wld W) (ha : EW W ta σ Hc (isV (.ref a))) (hb : ∀ H1, Ex Hc H1 → EW W tb σ H1 (isV (.ref r))) (hx : Hc a = some (.lst xs)) (hy : Hc r = some (.lst ys)) (hz : xs.length + ys.length ≤ 100000) : EW W (tOp rCat ta tb) σ Hc (isL Hc (xs ++ ys)) :=
  fun H1 w1 Q q => ha H1 w1 _ fun x Hc1 H2 e1 w2 ex => hb Hc1 e1 H2 w2 _ fun y Hc2 H3 e2 w3 ey => ⟨a, r, xs, ys, ex, ey, w.ex w3 _ _ ((e1.trans e2) _ _ hx), w.ex w3 _ _ ((e1.trans e2) _ _ hy), sz_of hz, fun l nl => by
    have n0 := fresh_back (w.ex w3) nl
    exact q (.ref l) _ _ ((e1.trans e2).trans (Ex.new n0)) (w.add w3 nl (Ex.new nl) upd_same) ⟨l, fresh_back (e1.trans e2) n0, rfl, upd_same⟩⟩
/-! ### lists of texts as data -/
abbrev dL (c : List Str) : PyData := .list (c.map PyData.str)
theorem dp_L {c : List Str} (h : SqL K H a (c.map V.str)) : Dp K H (.ref a) (dL c) := .lst h (dpAll_str c)
theorem eqv_L (c d : List Str) : PyData.eqv (dL c) (dL d) = decide (c = d) := by
  rw [PyData.eqv]; exact eqvAll_T c d
theorem shaped_L {c : List Str} (h : ∀ z ∈ c, TextOk z) : SeqAt.shaped (dL c) = true := shaped_of (by
  rw [PyData.canLay0]
  exact canAll _ fun z hz => by rw [PyData.canLay0]; exact h z hz) (by rw [PyData.depth, depthAll_T]; decide)
/-- dict(a list of pairs) -/
abbrev rDictP (K : PySem.W.Frag) : List V → Hp → VK → Prop := fun xs H Q => ∃ (a : Addr) (ps : List Addr) (kvs : List (Key × V)), xs = [.ref a] ∧ SqL K H a (ps.map V.ref) ∧ Paired (fun p kv => SqT K H p [kV kv.1, kv.2]) ps kvs ∧
    ∀ p, H p = none → Q (.ref p) (upd H p (.dK (mergeK [] kvs)))
theorem paired_of {kvs : List (Key × V)} {f : Key × V → List V} (hf : ∀ kv ∈ kvs, f kv = [kV kv.1, kv.2]) : ∀ {ps : List Addr}, EachT H ps (kvs.map f) → Paired (fun p kv => SqT K H p [kV kv.1, kv.2]) ps kvs := by
  induction kvs with
  | nil => intro ps h; cases h; exact .nil
  | cons kv r ih =>
    intro ps h
    cases h with
    | cons h1 h2 => exact .cons (.of (by rw [← hf kv (by simp)]; exact h1)) (ih (fun x hx => hf x (by simp [hx])) h2)
theorem merge_nodup : ∀ {more kvs : List (Key × V)}, (kvs.map (·.1) ++ more.map (·.1)).Nodup → mergeK kvs more = kvs ++ more
  | [], kvs, _ => by simp [mergeK]
  | a :: r, kvs, h => by
    have hn : valV kvs a.1 = none := by
      have hh : a.1 ∉ kvs.map (·.1) := fun m => by
        have := List.nodup_append.mp h
        exact this.2.2 a.1 m a.1 (by simp) rfl
      unfold valV
      rw [List.find?_eq_none.mpr fun x hx => by simpa using fun e => hh (List.mem_map.mpr ⟨x, hx, e⟩)]
      rfl
    have e : mergeK kvs (a :: r) = mergeK (kvs ++ [a]) r := by
      unfold mergeK
      rw [List.foldl_cons, putK_new _ hn]
    rw [e, merge_nodup (kvs := kvs ++ [a]) (more := r) (by simpa using h)]
    simp
end
end KK
set_option maxHeartbeats 4000000
/-! _law_alike, _law_told_of, _law_are_first_told. -/
namespace KK
open PySem PySem.Spec PyProof.Rows L2 Evl
section
variable {P : Program} {w : World} {K : PySem.W.Frag} {mg : Str → Option Value} {base : Heap}
def spAlike : Sp := fun vs H Q _ => ∃ b : Bool, vs = [.bl b, .bl b] ∧ RetV (.bl true) H Q
theorem scAlike : FnScope ["_law_found", "_law_due"] ["_law_found", "_law_due"] (defScope (top 33)) := ⟨rfl, rfl, rfl, by decide +kernel, rfl, by decide +kernel, by decide +kernel⟩
theorem ev_repr {ta : TE} {σ : L2.St} {H : Hp} {b : Bool} (h : Ev ta σ H (.bl b)) : Ev (tCB (fun xs H Q => ∃ b : Bool, xs = [V.bl b] ∧ Q (V.str (if b then "True" else "False")) H) (tCons ta tNil)) σ H (.str (if b then "True" else "False")) :=
  fun H1 e Q q => h H1 e _ fun H2 e2 => ⟨b, rfl, q H2 e2⟩
theorem d_alike (T : Txt K mg) : Dfn P w K mg base 1 "_law_alike" ["_law_found", "_law_due"] spAlike := by
  refine mk_dfn (j := 17) T rfl scAlike (fun vs H Q E h => ?_) (fun _ _ _ _ _ _ us hl => match us, hl with | [_, _], _ => rfl) (fun cdv A outer s H vs Q E hr h => ?_)
  · obtain ⟨_, rfl, _⟩ := h
    rfl
  · obtain ⟨b, rfl, k⟩ := h
    refine ⟨_, (pss_one (ps_ret (pe_and (pe_cmpR op_eq (pv 0) (pv 1) (nomark _)) (pe_one (pe_cmpR op_eq (pe_callB call_repr_bool (by rfl) (T.free "repr") (by decide +kernel) (pa_cons (pv 0) pa_nil)) (pe_callB call_repr_bool (by rfl) (T.free "repr") (by decide +kernel) (pa_cons (pv 1) pa_nil)) (nomark _)))))), ?_⟩
    refine w_ret (ew pureW (ev_is (w := .bl true) (ev_andV (ev_op (ev_var rfl) (ev_var rfl) (rv_eq rfl)) fun _ => ev_op (ev_repr (ev_var rfl)) (ev_repr (ev_var rfl)) (rv_eq rfl)) (by simp))) (Ex.refl H) (retV_end k)
/-! what a plain log tells of a kind -/
def kKvs (ps : List (Str × Str)) : List (Key × V) := ps.map fun p => (Sum.inr p.1, V.str p.2)
/-- the kind of a name -/
def kdOf (ps : List (Str × Str)) (z : Str) : Str := ((ps.find? fun p => decide (p.1 = z)).map (·.2)).getD ""
theorem kKvs_val {ps : List (Str × Str)} {z k : Str} (h : (z, k) ∈ ps) : valV (kKvs ps) (Sum.inr z) = some (.str (kdOf ps z)) := by
  induction ps with
  | nil => cases h
  | cons a r ih =>
    by_cases e : a.1 = z
    · show valV ((Sum.inr a.1, V.str a.2) :: kKvs r) _ = _
      rw [valV_pos (by rw [e])]
      unfold kdOf
      rw [List.find?_cons, decide_eq_true e]; rfl
    · show valV ((Sum.inr a.1, V.str a.2) :: kKvs r) _ = _
      rw [valV_neg (by intro q; injection q with q; exact e q)]
      have m : (z, k) ∈ r := by
        rcases List.mem_cons.mp h with q | q
        · exact absurd (by rw [← q]) e
        · exact q
      rw [ih m]
      unfold kdOf
      rw [List.find?_cons, decide_eq_false e]
theorem kdOf_eq : ∀ {ps : List (Str × Str)}, (ps.map (·.1)).Nodup → ∀ p ∈ ps, kdOf ps p.1 = p.2
  | [], _, p, h => by cases h
  | a :: r, nd, p, h => by
    rw [List.map_cons, List.nodup_cons] at nd
    rcases List.mem_cons.mp h with e | m
    · subst e
      unfold kdOf
      rw [List.find?_cons, decide_eq_true rfl]; rfl
    · have ne : a.1 ≠ p.1 := fun e => nd.1 (List.mem_map.mpr ⟨p, m, e.symm⟩)
      have := kdOf_eq nd.2 p m
      unfold kdOf at this ⊢
      rw [List.find?_cons, decide_eq_false ne]; exact this
/-- the log as a list: rows that put -/
def isPut : Rw → Bool
  | .put _ _ => true
  | _ => false
def putName : Rw → Str
  | .put n _ => n
  | _ => ""
def putKind : Rw → Str
  | .put _ k => k
  | _ => ""
theorem puts_filter : ∀ rs : List Rw, (rs.filter isPut).map (fun r => (putName r, putKind r)) = KP.putsOf rs
  | [] => rfl
  | .put n k :: rs => by
    rw [List.filter_cons_of_pos (by rfl), List.map_cons, puts_filter rs]
    rfl
  | .call c :: rs => by simp [isPut, KP.putsOf, puts_filter rs]
  | .drop n :: rs => by simp [isPut, KP.putsOf, puts_filter rs]
/-- row[0] == 'put' -/
theorem et_isput {K : PySem.W.Frag} {H : Hp} {q : Addr} {r : Rw} {σ : L2.St} {i : Nat} (h : RowAt H q r) (hσ : σ[i]? = some (some (.ref q))) : EvT (tTest (tOp rEq (tOp (rIxT K) (tVar i) (tC (.int 0))) (tC (.str "put")))) σ H (isPut r) := by
  cases r with
  | put n k => exact et_test (ev_is (ev_op (ev_op (ev_var hσ) ev_c (rv_ixT (v := .str "put") (.of h) rfl)) ev_c (rv_eq rfl)) (by rfl))
  | call c =>
    obtain ⟨b, h, _⟩ := h
    exact et_test (ev_is (ev_op (ev_op (ev_var hσ) ev_c (rv_ixT (v := .str "call") (.of h) rfl)) ev_c (rv_eq rfl)) (by rfl))
  | drop n => exact et_test (ev_is (ev_op (ev_op (ev_var hσ) ev_c (rv_ixT (v := .str "drop") (.of h) rfl)) ev_c (rv_eq rfl)) (by rfl))
theorem ev_row1 {K : PySem.W.Frag} {H : Hp} {q : Addr} {r : Rw} {σ : L2.St} {i : Nat} (h : RowAt H q r) (p : isPut r = true) (hσ : σ[i]? = some (some (.ref q))) : Ev (tOp (rIxT K) (tVar i) (tC (.int 1))) σ H (.str (putName r)) := by
  cases r with
  | put n k => exact ev_op (ev_var hσ) ev_c (rv_ixT (.of h) rfl)
  | call c => cases p
  | drop n => cases p
theorem ev_row2 {K : PySem.W.Frag} {H : Hp} {q : Addr} {r : Rw} {σ : L2.St} {i : Nat} (h : RowAt H q r) (p : isPut r = true) (hσ : σ[i]? = some (some (.ref q))) : Ev (tOp (rIxT K) (tVar i) (tC (.int 2))) σ H (.str (putKind r)) := by
  cases r with
  | put n k => exact ev_op (ev_var hσ) ev_c (rv_ixT (.of h) rfl)
  | call c => cases p
  | drop n => cases p
/-- a told name was put -/
theorem told_put {α : Type} [DecidableEq α] : ∀ (rs : List (KP.Row α)) (i : Nat) (ts : List (α × α)) (p : Nat × Option α) (z : α), p ∈ KP.toldT i ts rs → p.2 = some z → (∃ k, (z, k) ∈ ts) ∨ ∃ k, (z, k) ∈ KP.putsOf rs
  | [], _, _, p, z, h, _ => by simp [KP.toldT] at h
  | .put n k :: rs, i, ts, p, z, h, e => by
    rcases told_put rs (i + 1) (ts ++ [(n, k)]) p z h e with ⟨k', m⟩ | ⟨k', m⟩
    · rcases List.mem_append.mp m with m | m
      · exact .inl ⟨k', m⟩
      · exact .inr ⟨k', by simp only [List.mem_singleton] at m; simp [KP.putsOf, m]⟩
    · exact .inr ⟨k', by simp [KP.putsOf, m]⟩
  | .drop n :: rs, i, ts, p, z, h, e => by
    rcases told_put rs (i + 1) _ p z h e with ⟨k', m⟩ | ⟨k', m⟩
    · exact .inl ⟨k', (List.mem_filter.mp m).1⟩
    · exact .inr ⟨k', by simpa [KP.putsOf] using m⟩
  | .call c :: rs, i, ts, p, z, h, e => by
    simp only [KP.toldT, List.mem_cons] at h
    rcases h with rfl | h
    · have e : KP.tell ts (.call c) = some z := e
      cases pk : KP.pick ts c with
      | none => rw [(step_none pk).2] at e; cases e
      | some t =>
        have e2 : KP.tell ts (.call c) = some t.1 := by show (KP.pick ts c).map (·.1) = _; rw [pk]; rfl
        rw [e2] at e
        injection e with e
        have m := List.mem_of_find?_eq_some (KP.pick_some pk).2
        exact .inl ⟨t.2, by rw [← e]; exact m⟩
    · rcases told_put rs (i + 1) _ p z h e with ⟨k', m⟩ | ⟨k', m⟩
      · refine .inl ⟨k', ?_⟩
        unfold KP.stepT at m
        simp only at m
        split at m
        · exact m
        · exact List.mem_of_mem_erase m
      · exact .inr ⟨k', by simpa [KP.putsOf] using m⟩
theorem toldT_asc {α : Type} [DecidableEq α] : ∀ (rs : List (KP.Row α)) (i : Nat) (ts : List (α × α)), ((KP.toldT i ts rs).map fun p => ((p.1 : Nat) : Int)).Pairwise (· < ·)
  | [], _, _ => by simp [KP.toldT]
  | .put n k :: rs, i, ts => by simpa [KP.toldT] using toldT_asc rs (i + 1) _
  | .drop n :: rs, i, ts => by simpa [KP.toldT] using toldT_asc rs (i + 1) _
  | .call c :: rs, i, ts => by
    simp only [KP.toldT, List.map_cons, List.pairwise_cons]
    refine ⟨fun x hx => ?_, toldT_asc rs (i + 1) _⟩
    obtain ⟨p, hp, rfl⟩ := List.mem_map.mp hx
    have := (toldT_lt rs (i + 1) _ p hp).1
    omega
theorem tKvs_val : ∀ {l : List (Nat × Option Str)}, (l.map fun p => ((p.1 : Nat) : Int)).Nodup → ∀ p ∈ l, valV (tKvs l) (Sum.inl ((p.1 : Nat) : Int)) = some (tellV p.2)
  | [], _, p, h => by cases h
  | a :: r, nd, p, h => by
    rw [List.map_cons, List.nodup_cons] at nd
    show valV ((Sum.inl (a.1 : Int), tellV a.2) :: tKvs r) _ = _
    rcases List.mem_cons.mp h with e | m
    · subst e
      rw [valV_pos rfl]
    · rw [valV_neg (by intro q; injection q with q; exact nd.1 (by rw [q]; exact List.mem_map.mpr ⟨p, m, rfl⟩))]
      exact tKvs_val nd.2 p m
section
variable {W : Hp → Hp → Prop} {Hc H : Hp} {σ : L2.St} {D : Ends} {tz : TS} {g : TG}
theorem w_asgTup {ta : TA} {PL : List V → Hp → Prop} (h : EWA W ta σ Hc PL) (w1 : W Hc H) (k : ∀ vs Hc' H', Ex Hc Hc' → W Hc' H' → PL vs Hc' → vs.length ≤ sizeLine ∧ ∀ p, H' p = none → g (.ref p) σ (upd H' p (.tup vs)) (tz D)) : tSeq (tAsg (tTup ta) g) tz D σ H := h H w1 _ k
theorem w_par {i j : Nat} {ta : TA} {PL : List V → Hp → Prop} (h : EWA W ta σ Hc PL) (w1 : W Hc H) (k : ∀ vs Hc' H', Ex Hc Hc' → W Hc' H' → PL vs Hc' → ∃ v w, vs = [v, w] ∧ tz D ((σ.set i (some v)).set j (some w)) H') : tSeq (tPar i j ta) tz D σ H := h H w1 _ k
end
/-! dicts made -/
abbrev isD (Hc : Hp) (kvs : List (Key × V)) : V → Hp → Prop := fun v' H' => ∃ p, Hc p = none ∧ v' = .ref p ∧ H' p = some (.dK kvs)
section
variable {W : Hp → Hp → Prop} {Hc H H1 : Hp} {σ : L2.St} {te : TE} {a : Addr} {kvs : List (Key × V)}
theorem ew_dictP {f : Key × V → List V} (w : Wld W) (hf : ∀ kv ∈ kvs, f kv = [kV kv.1, kv.2]) (h : EW W te σ Hc (isLU Hc (kvs.map f))) : EW W (tCB (rDictP K) (tCons te tNil)) σ Hc (isD Hc (mergeK [] kvs)) :=
  fun H1 w1 Q q => h H1 w1 _ fun v Hc1 H2 e1 w2 ⟨p, ps, n, ev, hp, hps⟩ => ⟨p, ps, kvs, by rw [ev], .of (w.ex w2 _ _ hp), paired_of hf (hps.imp fun q xs g => w.ex w2 _ _ g), fun r nr => by
    have n0 := fresh_back (w.ex w2) nr
    exact q (.ref r) _ _ (e1.trans (Ex.new n0)) (w.add w2 nr (Ex.new nr) upd_same) ⟨r, fresh_back e1 n0, rfl, upd_same⟩⟩
def SpD (sp : Sp) (vs : List V) (H : Hp) (kvs : List (Key × V)) : Prop := ∀ H1, Ex H H1 → ∀ Q : VK, (∀ p H2, H1 p = none → Ex H1 H2 → H2 p = some (.dK kvs) → Q (.ref p) H2) → ∀ E : XK, sp vs H1 Q E
theorem spw_D (w : Wld W) {sp : Sp} {us : List V} (h : SpD sp us Hc kvs) : SpW W sp us Hc (isD Hc kvs) := fun H1 w1 Q E q => h H1 (w.ex w1) Q (fun p H2 n e hp => by
  have n0 := fresh_back (w.ex w1) n
  exact q (.ref p) _ H2 (Ex.new n0) (w.add w1 n e hp) ⟨p, n0, rfl, upd_same⟩) E
abbrev rSortDI : List V → Hp → VK → Prop := fun xs H Q => ∃ (a : Addr) (kvs : List (Key × V)) (ks : List Int), xs = [.ref a] ∧ Rd H a (.dK kvs) ∧ kvs.map (·.1) = ks.map Sum.inl ∧ ks.length < 64 ∧
    ∀ (ys : List Int) (p : Addr), ys.Perm ks → ys.Pairwise (· ≤ ·) → H p = none → Q (.ref p) (upd H p (.lst (ys.map V.int)))
theorem ew_sortDI {ks : List Int} (w : Wld W) (h : EW W te σ Hc (isV (.ref a))) (hd : Hc a = some (.dK kvs)) (hk : kvs.map (·.1) = ks.map Sum.inl) (l : ks.length < 64) (asc : KH.Asc ks) : EW W (tCB rSortDI (tCons te tNil)) σ Hc (isL Hc (ks.map V.int)) :=
  fun H1 w1 Q q => h H1 w1 _ fun v Hc1 H2 e1 w2 ev => ⟨a, kvs, ks, by rw [show v = V.ref a from ev], .inl (w.ex w2 _ _ (e1 _ _ hd)), hk, l, fun ys r pm le nr => by
    have n0 := fresh_back (w.ex w2) nr
    have ey : ys = ks := KH.asc_ext (KH.asc_of_le le (pm.nodup_iff.mpr (KH.asc_nodup asc))) asc fun x => pm.mem_iff
    rw [ey]
    exact q (.ref r) _ _ (e1.trans (Ex.new n0)) (w.add w2 nr (Ex.new nr) upd_same) ⟨r, fresh_back e1 n0, rfl, upd_same⟩⟩
end
/-- what is told of a kind: a sift of the told -/
def toldSift (kd : Str → Str) (k : Str) (p : Nat × Option Str) : Bool := match p.2 with
  | none => false
  | some z => decide (kd z = k)
theorem toldOf_sift (kd : Str → Str) (k : Str) : ∀ l : List (Nat × Option Str), (l.filter (toldSift kd k)).map (fun p => tellV p.2) = (KP.toldOf kd k l).map V.str
  | [] => rfl
  | (i, none) :: r => by
    rw [List.filter_cons_of_neg (by simp [toldSift]), toldOf_sift kd k r]
    simp [KP.toldOf]
  | (i, some z) :: r => by
    by_cases h : kd z = k
    · rw [List.filter_cons_of_pos (by simp [toldSift, h]), List.map_cons, toldOf_sift kd k r]
      simp [KP.toldOf, h, tellV]
    · rw [List.filter_cons_of_neg (by simp [toldSift, h]), toldOf_sift kd k r]
      simp [KP.toldOf, h]
def spToldOf : Sp := fun vs H Q _ => ∃ (h lg : Addr) (ks : List Str) (cs : List (List Str)) (rs : List Rw) (k : Str), vs = [.ref h, .ref lg, .str k] ∧ HouseAt H h ks cs ∧ HOk ks cs ∧ LogAt H lg rs ∧ RowsOk ks cs [] rs ∧ rs.length < 60 ∧ ((KP.putsOf rs).map (·.1)).Nodup ∧
  RetL ((KP.toldOf (kdOf (KP.putsOf rs)) k (KP.toldT 0 [] rs)).map V.str) H Q
abbrev N45 : List Str := ["_law_house_here", "_law_log_here", "_law_kind", "_law_kinds", "_law_told", "_law_row", "_law_at"]
theorem scToldOf : FnScope N45 ["_law_house_here", "_law_log_here", "_law_kind"] (defScope (top 45)) := ⟨rfl, rfl, rfl, by decide +kernel, rfl, by decide +kernel, by decide +kernel⟩
theorem toldT_len {α : Type} [DecidableEq α] : ∀ (rs : List (KP.Row α)) (j : Nat) (ts : List (α × α)), (KP.toldT j ts rs).length ≤ rs.length
  | [], _, _ => by simp [KP.toldT]
  | .put z k :: r, j, ts => by have := toldT_len r (j + 1) (KP.stepT ts (.put z k)); simp only [KP.toldT, List.length_cons]; omega
  | .drop z :: r, j, ts => by have := toldT_len r (j + 1) (KP.stepT ts (.drop z)); simp only [KP.toldT, List.length_cons]; omega
  | .call z :: r, j, ts => by have := toldT_len r (j + 1) (KP.stepT ts (.call z)); simp only [KP.toldT, List.length_cons]; omega
theorem d_told_of (T : Txt K mg) (S : SlF K) : Dfn P w K mg base 8 "_law_told_of" ["_law_house_here", "_law_log_here", "_law_kind"] spToldOf := by
  refine mk_dfn (j := 29) T rfl scToldOf (fun vs H Q E h => ?_) (fun _ _ _ _ _ _ us hl => match us, hl with | [_, _, _], _ => rfl) (fun cdv A outer s H vs Q E hr h => ?_)
  · obtain ⟨_, _, _, _, _, _, rfl, _⟩ := h
    rfl
  · obtain ⟨h, lg, ks, cs, rs, k, rfl, hh, hk, hlg0, ok, lr, nd, kk⟩ := h
    refine ⟨_, (pss_cons (ps_asg (pe_tup (pa_cons (pe_callTy (call_dictP rfl) (by rfl) (T.free "dict") (by decide +kernel) (pa_cons (pe_lc (own := [("_law_row", 5)]) rfl scToldOf.nd (pi_tup (pv 1)) (blkOk_by (N := N45) (sc := defScope (top 45)) (by decide +kernel)) (fun _ _ _ _ _ => (pg_name (i := 5) scToldOf.nd rfl (by first | exact Or.inl rfl | exact Or.inr rfl))) (fun _ _ _ _ _ => (pts_one (pt_cmpR op_eq (pe_ix (show IxR _ (rIxT K) from ix_tup) (pv 5) pe_int (fun _ _ => rfl)) pe_str (nomark _)))) (fun _ _ _ _ _ => (pe_tup (pa_cons (pe_ix (show IxR _ (rIxT K) from ix_tup) (pv 5) pe_int (fun _ _ => rfl)) (pa_cons (pe_ix (show IxR _ (rIxT K) from ix_tup) (pv 5) pe_int (fun _ _ => rfl)) pa_nil))))) pa_nil)) (pa_cons (pe_dfn (d_told_by T S) (hr.mono (by decide)) (pa_cons (pv 0) (pa_cons (pv 1) pa_nil))) pa_nil))) (pg_tup rfl (pgs_cons (pg_name (i := 3) scToldOf.nd rfl (by first | exact Or.inl rfl | exact Or.inr rfl)) (pgs_cons (pg_name (i := 4) scToldOf.nd rfl (by first | exact Or.inl rfl | exact Or.inr rfl)) pgs_nil))))
      (pss_one (ps_ret (pe_lc (own := [("_law_at", 6)]) rfl scToldOf.nd (pi_list (pe_callB (call_sortedDI rfl) (by rfl) (T.free "sorted") (by decide +kernel) (pa_cons (pv 4) pa_nil))) (blkOk_by (N := N45) (sc := defScope (top 45)) (by decide +kernel)) (fun _ _ _ _ _ => (pg_name (i := 6) scToldOf.nd rfl (by first | exact Or.inl rfl | exact Or.inr rfl))) (fun _ _ _ _ _ => (pts_one (PW.pt (pw_and (pt_cmpR op_notN (pe_dget (room1 hr) (pv 4) (pv 6) (fun _ _ => rfl)) pe_non (nomark _)) (pw_and1 (pt_cmpR op_eq (pe_dget (room1 hr) (pv 3) (pe_dget (room1 hr) (pv 4) (pv 6) (fun _ _ => rfl)) (fun _ _ => rfl)) (pv 2) (nomark _))))))) (fun _ _ _ _ _ => (pe_dget (room1 hr) (pv 4) (pv 6) (fun _ _ => rfl))))))), ?_⟩
    obtain ⟨qs, hlg, hrs⟩ := id hlg0
    obtain ⟨zs, eqs, ers, hzs⟩ := hrs.pairs
    have lz : zs.length < 60 := by have := congrArg List.length ers; rw [List.length_map] at this; omega
    have hlg' : H lg = some (.tup (zs.map fun z => V.ref z.1)) := by rw [hlg, eqs, List.map_map]; rfl
    have eputs : (zs.filter fun z => isPut z.2).map (fun z => (putName z.2, putKind z.2)) = KP.putsOf rs := by
      rw [← puts_filter, ers, List.filter_map, List.map_map]; rfl
    have hA : EWA Ex _ (L2.start N45 [.ref h, .ref lg, .str k]) H (fun vs H' => ∃ d1 d2, vs = [.ref d1, .ref d2] ∧ H' d1 = some (.dK (kKvs (KP.putsOf rs))) ∧ H' d2 = some (.dK (tKvs (KP.toldT 0 [] rs)))) :=
      ewa_cons (ew_dictP (K := K) (kvs := kKvs (KP.putsOf rs)) (f := fun kv => [kV kv.1, kv.2]) pureW (fun _ _ => rfl) (EW.imp (P := isLU H ((zs.filter fun z => isPut z.2).map fun z => [V.str (putName z.2), V.str (putKind z.2)])) (ew_lcbT (K := K) (te := tTup (tCons (tOp (rIxT K) (tVar 5) (tC (.int 1))) (tCons (tOp (rIxT K) (tVar 5) (tC (.int 2))) tNil)))
          (tt := tTest (tOp rEq (tOp (rIxT K) (tVar 5) (tC (.int 0))) (tC (.str "put")))) (g := gName 5) (vs := [5]) (ew pureW (ev_var (i := 1) rfl)) fun v H1 e1 ev => by
          have ev : v = .ref lg := ev
          rw [ev]
          exact (ew_fmTU (K := K) (sg := fun z => [some (.ref h), some (.ref lg), some (.str k), none, none, some (.ref z.1), none]) pureW (.of (e1 _ _ hlg')) (by omega) (fun y _ H' k _ g => g) (fun _ _ => rfl) (fun z hz Hk e2 => et_isput ((hzs z hz).ex (e1.trans e2)) rfl) (fun z hz Hk e2 p => eu_tup (ea_cons (ev_row1 ((hzs z hz).ex (e1.trans e2)) p rfl) (ea_cons (ev_row2 ((hzs z hz).ex (e1.trans e2)) p rfl) ea_nil)) (by simp))).imp fun v H' _ q => q.back e1)
          fun v H' _ q => by
            have e : (kKvs (KP.putsOf rs)).map (fun kv => [kV kv.1, kv.2]) = (zs.filter fun z => isPut z.2).map fun z => [V.str (putName z.2), V.str (putKind z.2)] := by
              rw [← eputs]; unfold kKvs; rw [List.map_map, List.map_map]; rfl
            rw [e]; exact q))
        (fun x H1 e1 _ => ewa_cons (ew_call (sp := spTold) (E := E0) (P := isD H1 (tKvs (KP.toldT 0 [] rs))) (ewa_of pureW (ea_cons (ev_var (i := 0) rfl) (ea_cons (ev_var (i := 1) rfl) ea_nil))) fun vs H2 e2 ev => (spw_D pureW fun H3 e3 Q q E => ⟨h, lg, ks, cs, rs, by rw [show vs = _ from ev]; rfl, hh.ex (e1.trans (e2.trans e3)), hk, hlg0.ex (e1.trans (e2.trans e3)), ok, by omega, fun d H' n e hd => q d H' n e hd⟩).imp fun v H' _ ⟨p, n, q⟩ => ⟨p, fresh_back e2 n, q⟩) (fun _ _ _ _ => ewa_nil) (PL := fun vs H' => ∃ d, vs = [.ref d] ∧ H' d = some (.dK (tKvs (KP.toldT 0 [] rs))))
          fun x vs H2 H3 e2 ⟨p, n, ex, hp⟩ e3 ev => ⟨p, by rw [ex, show vs = [] from ev], e3 _ _ hp⟩)
        fun x vs H2 H3 e2 ⟨p, n, ex, hp⟩ e3 ⟨d, ev, hd⟩ => ⟨p, d, by rw [ex, ev], by
          have := e3 _ _ hp
          rw [merge_nodup (by
            unfold kKvs
            rw [List.map_nil, List.nil_append, List.map_map]
            exact KH.nodup_map_on (f := fun z : Str => (Sum.inr z : Key)) nd (fun x _ y _ e => by injection e) |> fun q => by rwa [List.map_map] at q)] at this
          simpa using this, hd⟩
    refine w_asgTup hA (Ex.refl H) fun vs Hc1 H1 e1 w1 ⟨d1, d2, ev, hd1, hd2⟩ => ?_
    subst ev
    refine ⟨by show 2 ≤ sizeLine; decide, fun t nt => ⟨t, _, rfl, SqT.of upd_same, rfl, _, _, rfl, _, _, rfl, rfl, ?_⟩⟩
    have e2 : Ex Hc1 (upd H1 t (.tup [.ref d1, .ref d2])) := w1.trans (Ex.new nt)
    generalize upd H1 t (.tup [.ref d1, .ref d2]) = H2 at e2
    have asc := toldT_asc rs 0 []
    have nodupI := KH.asc_nodup asc
    refine w_ret (P := isL Hc1 ((KP.toldOf (kdOf (KP.putsOf rs)) k (KP.toldT 0 [] rs)).map V.str)) (ew_lcbL (P := isL Hc1 (((KP.toldT 0 [] rs).map fun p => ((p.1 : Nat) : Int)).map V.int)) (ew_sortDI pureW (ew pureW (ev_var rfl)) hd2 (by unfold tKvs; rw [List.map_map, List.map_map]; rfl) (by have := toldT_len rs 0 []; rw [List.length_map]; omega) asc) fun v H3 e3 ⟨p, n, ev, hp⟩ => ?_) e2 (fun v Hc2 H3 e3 w3 q => retL_end kk v Hc2 H3 (e1.trans e3) w3 (q.back e1))
    subst ev
    have hd1' := e3 _ _ hd1
    have hd2' := e3 _ _ hd2
    refine (EW.imp (P := isL H3 (((KP.toldT 0 [] rs).filter (toldSift (kdOf (KP.putsOf rs)) k)).map fun p => tellV p.2)) (ew_fmL (sg := fun p => [some (.ref h), some (.ref lg), some (.str k), some (.ref d1), some (.ref d2), none, some (.int ((p.1 : Nat) : Int))]) pureW (ys := KP.toldT 0 [] rs) (gv := fun p => V.int ((p.1 : Nat) : Int)) (.of (by rw [hp, List.map_map]; rfl)) (by have := toldT_len rs 0 []; omega) (fun y _ H' k _ g => g) (fun _ _ => rfl)
      (fun p hp Hk e4 => ?_) (fun p hp Hk e4 _ => ev_dget (k := Sum.inl ((p.1 : Nat) : Int)) (ev_var rfl) (ev_var rfl) (e4 _ _ hd2') (tKvs_val nodupI p hp))) fun v H' _ q => by
        rw [toldOf_sift] at q; exact q.back e3)
    have g1 : Ev (tDGet (tVar 4) (tVar 6)) [some (.ref h), some (.ref lg), some (.str k), some (.ref d1), some (.ref d2), none, some (.int ((p.1 : Nat) : Int))] Hk (tellV p.2) := ev_dget (k := Sum.inl ((p.1 : Nat) : Int)) (ev_var rfl) (ev_var rfl) (e4 _ _ hd2') (tKvs_val nodupI p hp)
    obtain ⟨i, o⟩ := p
    cases o with
    | none => exact et_and (a := false) (b := false) (et_test (ev_op g1 ev_c rv_notN)) (fun z => by cases z)
    | some z =>
      have mz : ∃ k', (z, k') ∈ KP.putsOf rs := by
        rcases told_put rs 0 [] _ z hp rfl with ⟨k', m⟩ | m
        · cases m
        · exact m
      obtain ⟨k', mz⟩ := mz
      refine et_is (et_and (a := true) (b := decide (V.str (kdOf (KP.putsOf rs) z) = V.str k)) (et_test (ev_op g1 ev_c rv_notN)) (fun _ => et_test (ev_op (ev_dget (k := Sum.inr z) (ev_var rfl) g1 (e4 _ _ hd1') (kKvs_val mz)) (ev_var rfl) (rv_eq rfl)))) ?_
      simp [toldSift]
end
end KK
set_option maxHeartbeats 4000000
/-! _law_are_first_told. -/
namespace KK
open PySem PySem.Spec PyProof.Rows L2 Evl
section
variable {P : Program} {w : World} {K : PySem.W.Frag} {mg : Str → Option Value} {base : Heap}
/-- a log that the plain law takes -/
structure PlainOk (ks : List Str) (cs : List (List Str)) (rs : List Rw) : Prop where
  rows : RowsOk ks cs [] rs
  len : rs.length < 60
  plain : ∀ r ∈ rs, KP.isPlain r = true
  nd : ((KP.putsOf rs).map (·.1)).Nodup
  text : ∀ p ∈ KP.putsOf rs, TextOk p.1
def spFirstT : Sp := fun vs H Q _ => ∃ (h lg : Addr) (ks : List Str) (cs : List (List Str)) (rs : List Rw), vs = [.ref h, .ref lg] ∧ HouseAt H h ks cs ∧ HOk ks cs ∧ LogAt H lg rs ∧ PlainOk ks cs rs ∧ RetV (.bl true) H Q
abbrev N46 : List Str := ["_law_house_here", "_law_log_here", "_law_kind", "_law_names", "_law_row", "_law_told", "_law_left", "_law_name", "_law_its"]
theorem scFirstT : FnScope N46 ["_law_house_here", "_law_log_here"] (defScope (top 46)) := ⟨rfl, rfl, rfl, by decide +kernel, rfl, by decide +kernel, by decide +kernel⟩
theorem ofKind_sift (zs : List (Addr × Rw)) (k : Str) : ((zs.filter fun z => isPut z.2 && decide (putKind z.2 = k)).map fun z => V.str (putName z.2)) = (KP.ofKind k (KP.putsOf (zs.map (·.2)))).map V.str := by
  unfold KP.ofKind
  rw [← puts_filter, List.filter_map, List.filter_map, List.filter_map, List.filter_filter, List.map_map, List.map_map, List.map_map]
  congr 1
  refine List.filter_congr fun z _ => ?_
  show (isPut z.2 && decide (putKind z.2 = k)) = (decide (putKind z.2 = k) && isPut z.2)
  exact Bool.and_comm _ _
theorem d_first_told (T : Txt K mg) (S : SlF K) : Dfn P w K mg base 9 "_law_are_first_told" ["_law_house_here", "_law_log_here"] spFirstT := by
  refine mk_dfn (j := 30) T rfl scFirstT (fun vs H Q E h => ?_) (fun _ _ _ _ _ _ us hl => match us, hl with | [_, _], _ => rfl) (fun cdv A outer s H vs Q E hr h => ?_)
  · obtain ⟨_, _, _, _, _, rfl, _⟩ := h
    rfl
  · obtain ⟨h, lg, ks, cs, rs, rfl, hh, hk, hlg0, ok, kk⟩ := h
    refine ⟨_, (pss_cons (ps_for PassesOwn.never rfl (pi_tup (pe_ix ix_tup (pv 0) pe_int (fun _ _ => rfl))) (pg_name (i := 2) scFirstT.nd rfl (by first | exact Or.inl rfl | exact Or.inr rfl)) (pss_cons (ps_setLc (i := 3) (own := [("_law_row", 4)]) rfl scFirstT.nd rfl (by rfl) (sw_true (by rfl) (by rfl) (by rfl) (by rfl)) (pi_tup (pv 1)) (blkOk_by (N := N46) (sc := defScope (top 46)) (by decide +kernel)) (fun _ _ _ _ _ => (pg_name (i := 4) scFirstT.nd rfl (by first | exact Or.inl rfl | exact Or.inr rfl))) (fun _ _ _ _ _ => (pts_one (PW.pt (pw_and (pt_cmpR op_eq (pe_ix (show IxR _ (rIxT K) from ix_tup) (pv 4) pe_int (fun _ _ => rfl)) pe_str (nomark _)) (pw_and1 (pt_cmpR op_eq (pe_ix (show IxR _ (rIxT K) from ix_tup) (pv 4) pe_int (fun _ _ => rfl)) (pv 2) (nomark _))))))) (fun _ _ _ _ _ => (pe_ix (show IxR _ (rIxT K) from ix_tup) (pv 4) pe_int (fun _ _ => rfl))))
        (pss_cons (ps_set (i := 5) scFirstT.nd rfl (by first | exact Or.inl rfl | exact Or.inr rfl) (pe_dfn (d_told_of T S) (hr.mono (by decide)) (pa_cons (pv 0) (pa_cons (pv 1) (pa_cons (pv 2) pa_nil)))))
        (pss_cons (ps_setLc (i := 6) (own := [("_law_name", 7), ("_law_its", 8)]) rfl scFirstT.nd rfl (by rfl) (sw_true (by rfl) (by rfl) (by rfl) (by rfl)) (pi_list (pe_dfn (d_there_at T S) (hr.mono (by decide)) (pa_cons (pv 0) (pa_cons (pv 1) (pa_cons (pe_callB call_len_seq (by rfl) (T.free "len") (by decide +kernel) (pa_cons (pv 1) pa_nil)) pa_nil))))) (blkOk_by (N := N46) (sc := defScope (top 46)) (by decide +kernel)) (fun _ _ _ _ _ => (show PG _ _ (gTup K 2 _) from pg_tup rfl (pgs_cons (pg_name (i := 7) scFirstT.nd rfl (by first | exact Or.inl rfl | exact Or.inr rfl)) (pgs_cons (pg_name (i := 8) scFirstT.nd rfl (by first | exact Or.inl rfl | exact Or.inr rfl)) pgs_nil)))) (fun _ _ _ _ _ => (pts_one (pt_cmpR op_eq (pv 8) (pv 2) (nomark _)))) (fun _ _ _ _ _ => (pv 7)))
        (pss_one (ps_if (pt_cmpR (op_neD hr.units) (pe_op op_cat (pv 5) (pv 6)) (pv 3) (nomark _)) (pss_one (ps_ret pe_bl)) pss_nil))))))
      (pss_one (ps_ret pe_bl))), ?_⟩
    obtain ⟨qs, hlg, hrs⟩ := id hlg0
    obtain ⟨zs, eqs, ers, hzs⟩ := hrs.pairs
    obtain ⟨ha, hb, hps, hh1, hh2, hh3⟩ := id hh
    have lr := ok.len
    have lz : zs.length < 60 := by have := congrArg List.length ers; rw [List.length_map] at this; omega
    have hlg' : H lg = some (.tup (zs.map fun z => V.ref z.1)) := by rw [hlg, eqs, List.map_map]; rfl
    refine w_forT (a := ha) (xs := ks.map V.str) (Pv := fun i σ' Hk => ∃ a b c d, σ' = [some (.ref h), some (.ref lg), a, b, none, c, d, none, none] ∧ Ex H Hk) pureW (Ex.refl H) (ew pureW (ev_op (ev_var rfl) (ev_c (v := .int 0)) (rv_ixT (.of hh1) rfl))) (fun Hk e => ⟨_, _, _, _, rfl, e⟩) (fun i σ' Hk ⟨_, _, _, _, _, e⟩ => .of (e _ _ hh2)) (fun i x σ' Hk H' hx ⟨a, b, c, d, eσ, e⟩ wk => ?_) (fun σ' Hk H' ⟨a, b, c, d, eσ, e⟩ wk => ?_)
    · subst eσ
      rw [List.getElem?_map] at hx
      obtain ⟨k, hkk, rfl⟩ := Option.map_eq_some_iff.mp hx
      -- names
      refine w_set (P := isL Hk ((KP.ofKind k (KP.putsOf rs)).map V.str)) (EW.imp (P := isL Hk ((zs.filter fun z => isPut z.2 && decide (putKind z.2 = k)).map fun z => V.str (putName z.2))) (ew_lcTv (a := lg) (ew pureW (ev_var rfl)) fun H1 e1 => ew_fmTn (ys := zs) (gv := fun z => V.ref z.1) pureW (.of (e1 _ _ (e _ _ hlg'))) (by omega) (fun _ _ => rfl)
        (fun z hz Hj e2 => et_and (et_isput ((hzs z hz).ex (e.trans (e1.trans e2))) rfl) fun p => et_test (ev_is (ev_op (ev_row2 ((hzs z hz).ex (e.trans (e1.trans e2))) p rfl) (ev_var rfl) (rv_eq rfl)) (by simp)))
        (fun z hz Hj e2 p => ev_row1 ((hzs z hz).ex (e.trans (e1.trans e2))) (by rw [Bool.and_eq_true] at p; exact p.1) rfl)) fun v H' _ q => by rw [ofKind_sift, ← ers] at q; exact q) wk (fun v Hc1 H1 e1 w1 ⟨pn, _, ev, hpn⟩ => ?_)
      subst ev
      have x1 := e.trans e1
      -- told
      refine w_set (P := isL Hc1 ((KP.toldOf (kdOf (KP.putsOf rs)) k (KP.toldT 0 [] rs)).map V.str)) (ew_call (ewa_of pureW (ea_cons (ev_var rfl) (ea_cons (ev_var rfl) (ea_cons (ev_var rfl) ea_nil)))) fun vs H2 e2 ev => (spw_L pureW fun H3 e3 Q q E => ⟨h, lg, ks, cs, rs, k, by rw [show vs = _ from ev]; rfl, hh.ex (x1.trans (e2.trans e3)), hk, hlg0.ex (x1.trans (e2.trans e3)), ok.rows, ok.len, ok.nd, q⟩).imp fun v H' _ q => q.back e2) w1 (fun v Hc2 H2 e2 w2 ⟨pt, _, ev, hpt⟩ => ?_)
      subst ev
      have x2 := x1.trans e2
      -- left
      refine w_set (P := isL Hc2 ((KP.ofKind k (KP.endT [] rs)).map V.str)) (ew_lcbL (P := fun v H' => ∃ l ps, v = .ref l ∧ H' l = some (.lst (ps.map V.ref)) ∧ Each (ThAt H') ps (KP.endT [] rs))
        (ew_call (ewa_of pureW (ea_cons (ev_var rfl) (ea_cons (ev_var rfl) (ea_cons (ev_lenT (ev_var rfl) (.of (x2 _ _ hlg))) ea_nil)))) fun vs H3 e3 ev H4 e4 Q E q => ⟨h, lg, ks, cs, rs, (qs.map V.ref).length, by rw [show vs = _ from ev]; rfl, by rw [List.length_map]; exact hrs.length, hh.ex (x2.trans (e3.trans e4)), hk, hlg0.ex (x2.trans (e3.trans e4)), ok.rows, by omega, fun l ps H' n e5 hl th => q (.ref l) H' H' (e4.trans e5) (Ex.refl _) ⟨l, ps, rfl, hl, th⟩⟩)
        fun v H3 e3 ⟨l, ps, ev, hl, th⟩ => ?_) w2 (fun v Hc3 H3 e3 w3 ⟨pl, _, ev, hpl⟩ => ?_)
      · subst ev
        obtain ⟨ys, eps, ets, hys⟩ := th.pairs
        have ly : ys.length ≤ rs.length := by
          have z : ∀ (rs : List Rw) (ts : List (Str × Str)), (KP.endT ts rs).length ≤ ts.length + rs.length := fun rs => by
            induction rs with
            | nil => intro ts; simp [KP.endT]
            | cons a r ih => intro ts; have := ih (KP.stepT ts a); have := step_len ts a; simp only [KP.endT, List.length_cons]; omega
          have := congrArg List.length ets
          rw [List.length_map] at this
          have := z rs []
          simp only [List.length_nil, Nat.zero_add] at this
          omega
        refine EW.imp (P := isL H3 ((ys.filter fun y => decide (y.2.2 = k)).map fun y => V.str y.2.1)) (ew_fmL (ys := ys) (gv := fun y => V.ref y.1) (sg := fun y => [some (.ref h), some (.ref lg), some (.str k), some (.ref pn), none, some (.ref pt), d, some (.str y.2.1), some (.str y.2.2)]) pureW (.of (by rw [hl, eps, List.map_map]; rfl)) (by omega)
          (fun y hy H' kc e5 q => ⟨y.1, _, rfl, .of (e5 _ _ (hys y hy)), rfl, _, _, rfl, _, _, rfl, rfl, q⟩) (fun _ _ => rfl) (fun y hy Hj e5 => et_test (ev_is (ev_op (ev_var rfl) (ev_var rfl) (rv_eq rfl)) (by simp))) (fun y hy Hj e5 _ => ev_var rfl)) fun v H' _ q => ?_
        have e6 : (KP.ofKind k (KP.endT [] rs)).map V.str = (ys.filter fun y => decide (y.2.2 = k)).map fun y => V.str y.2.1 := by
          unfold KP.ofKind
          rw [ets, List.filter_map, List.map_map, List.map_map]; rfl
        rw [e6]
        exact q.back e3
      subst ev
      -- the test
      have kt := KP.kinds_told (kd := kdOf (KP.putsOf rs)) (k := k) (rs := rs) (ts := []) (i := 0) ok.plain (fun _ h => by cases h) (fun p hp => kdOf_eq ok.nd p hp)
      have kt : KP.toldOf (kdOf (KP.putsOf rs)) k (KP.toldT 0 [] rs) ++ KP.ofKind k (KP.endT [] rs) = KP.ofKind k (KP.putsOf rs) := kt
      have ntx : ∀ z ∈ KP.ofKind k (KP.putsOf rs), TextOk z := fun z hz => by
        unfold KP.ofKind at hz
        obtain ⟨p, hp, rfl⟩ := List.mem_map.mp hz
        exact ok.text p (List.mem_filter.mp hp).1
      have lk : ((KP.toldOf (kdOf (KP.putsOf rs)) k (KP.toldT 0 [] rs)).map V.str).length + ((KP.ofKind k (KP.endT [] rs)).map V.str).length ≤ 100000 := by
        have := congrArg List.length kt
        rw [List.length_append] at this
        rw [List.length_map, List.length_map, this]
        unfold KP.ofKind
        rw [List.length_map]
        have z1 := List.length_filter_le (fun t : Str × Str => decide (t.2 = k)) (KP.putsOf rs)
        have z2 : (KP.putsOf rs).length ≤ rs.length := by
          rw [← puts_filter, List.length_map]
          exact List.length_filter_le _ _
        omega
      refine seq_last (w_skip (b := false) (ewt_Tv (ew_op (P2 := fun _ => isV (.ref pn)) (ew_catK pureW (ew pureW (ev_var rfl)) (fun H1 _ => ew pureW (ev_var rfl)) (e3 _ _ hpt) hpl lk) (fun x H4 e4 _ => ew pureW (ev_var rfl)) fun x y H4 H5 e4 ⟨pc, _, ex, hpc⟩ e5 ey => ?_)) rfl w3 (fun Hc4 H4 e4 w4 => ?_))
      · subst ex
        rw [show y = V.ref pn from ey]
        rw [← List.map_append, kt] at hpc
        refine rw_of pureW fun H6 e6 Q q => ⟨dL (KP.ofKind k (KP.putsOf rs)), dL (KP.ofKind k (KP.putsOf rs)), dp_L (.of (e6 _ _ (e5 _ _ hpc))), dp_L (.of (e6 _ _ (e5 _ _ (e4 _ _ (e3 _ _ (e2 _ _ hpn)))))), shaped_L ntx, shaped_L ntx, ?_⟩
        rw [eqv_L, decide_eq_true rfl]
        exact q H6 (Ex.refl _)
      · exact ⟨Hc4, w4, _, _, _, _, rfl, x2.trans (e3.trans e4)⟩
    · subst eσ
      exact kk H' (e.trans wk)
end
end KK
set_option maxHeartbeats 4000000
/-! _law_are_eldest_told. -/
namespace KK
open PySem PySem.Spec PyProof.Rows L2 Evl SlX
theorem at_zero {x : V} {r : List V} : atI (x :: r) 0 = some x := by
  show (ixN (x :: r).length 0).bind _ = _
  rw [ixN_zero (by simp)]; rfl
theorem sl_head {xs : List V} {x : V} {r : List V} (h : xs = x :: r) : cutV xs none (some 1) = [x] := by
  subst h
  unfold cutV
  have e1 : HT.sIx (x :: r).length 0 none = 0 := rfl
  have e2 : HT.sIx (x :: r).length (x :: r).length (some 1) = 1 := by simp [HT.sIx]
  rw [e1, e2]; rfl
section
variable {P : Program} {w : World} {K : PySem.W.Frag} {mg : Str → Option Value} {base : Heap}
/-- a log that the eldest's law takes -/
structure LogOk (ks : List Str) (cs : List (List Str)) (rs : List Rw) : Prop where
  rows : RowsOk ks cs [] rs
  len : rs.length < 1000
def spEldest : Sp := fun vs H Q _ => ∃ (h lg : Addr) (ks : List Str) (cs : List (List Str)) (rs : List Rw), vs = [.ref h, .ref lg] ∧ HouseAt H h ks cs ∧ HOk ks cs ∧ LogAt H lg rs ∧ LogOk ks cs rs ∧ RetV (.bl true) H Q
abbrev N47 : List Str := ["_law_house_here", "_law_log_here", "_law_store", "_law_told", "_law_row", "_law_there", "_law_name", "_law_kind", "_law_some", "_law_one_here"]
theorem scEldest : FnScope N47 ["_law_house_here", "_law_log_here"] (defScope (top 47)) := ⟨rfl, rfl, rfl, by decide +kernel, rfl, by decide +kernel, by decide +kernel⟩
/-- the word of the loop -/
def Eld (K : PySem.W.Frag) (h lg p L : Addr) (ks : List Str) (cs : List (List Str)) (rs : List Rw) (H : Hp) (i : Nat) (σ' : L2.St) (H' : Hp) : Prop :=
  ∃ a b c d e Hk nm tl, σ' = [some (.ref h), some (.ref lg), some (.ref p), some (.ref L), a, b, c, d, e, none] ∧ Ex H Hk ∧ StK K p h (KP.endT [] (rs.take i)) nm i Hk H' ∧ Hk L = some (.lst (tl.map V.str)) ∧ RowsOk ks cs nm (rs.drop i) ∧ nm.length ≤ i ∧ (KP.endT [] (rs.take i)).length ≤ i ∧
    KP.Kept (KP.endT [] (rs.take i)) nm tl ∧ tl.length ≤ i ∧ ∀ t ∈ KP.endT [] (rs.take i), TextOk t.1 ∧ TextOk t.2
theorem d_eldest (T : Txt K mg) (S : SlF K) : Dfn P w K mg base 9 "_law_are_eldest_told" ["_law_house_here", "_law_log_here"] spEldest := by
  refine mk_dfn (j := 31) T rfl scEldest (fun vs H Q E h => ?_) (fun _ _ _ _ _ _ us hl => match us, hl with | [_, _], _ => rfl) (fun cdv A outer s H vs Q E hr h => ?_)
  · obtain ⟨_, _, _, _, _, rfl, _⟩ := h
    rfl
  · obtain ⟨h, lg, ks, cs, rs, rfl, hh, hk, hlg0, ok, kk⟩ := h
    obtain ⟨fd0, F0, b0⟩ := f_init (P := P) (w := w) (base := base) T S
    refine ⟨_, (pss_cons (ps_asg (pe_tup (pa_cons (pe_make (E := E0) T.made F0 (hr.mono (by decide)) (by rfl) T.store b0 .nil pass0 (pa_cons (pv 0) pa_nil)) (pa_cons (pe_lst pa_nil) pa_nil))) (pg_tup rfl (pgs_cons (pg_name (i := 2) scEldest.nd rfl (by first | exact Or.inl rfl | exact Or.inr rfl)) (pgs_cons (pg_name (i := 3) scEldest.nd rfl (by first | exact Or.inl rfl | exact Or.inr rfl)) pgs_nil))))
      (pss_cons (ps_for PassesOwn.never rfl (pi_tup (pv 1)) (pg_name (i := 4) scEldest.nd rfl (by first | exact Or.inl rfl | exact Or.inr rfl)) (pss_cons (ps_set (i := 5) scEldest.nd rfl (by first | exact Or.inl rfl | exact Or.inr rfl) (SlX.pe_methSl0 (E := E0) (pv 2) S.cls (T.meth "there") (m_there T S) (hr.mono (by decide)) pass0))
        (pss_one (ps_if (pt_cmpR op_eq (pe_ix ix_tup (pv 4) pe_int (fun _ _ => rfl)) pe_str (nomark _)) (pss_one (ps_expr (SlX.pe_methSl (E := E0) (pv 2) S.cls (T.meth "put") (m_put T S) (hr.mono (by decide)) pass0 (pa_cons (pe_ix ix_tup (pv 4) pe_int (fun _ _ => rfl)) (pa_cons (pe_ix ix_tup (pv 4) pe_int (fun _ _ => rfl)) pa_nil))))) (pss_one (ps_if (pt_cmpR op_eq (pe_ix ix_tup (pv 4) pe_int (fun _ _ => rfl)) pe_str (nomark _)) (pss_one (ps_if (pt_not (pt_val (pe_dfn (d_alike T) (hr.mono (by decide)) (pa_cons (SlX.pe_methSl (E := E0) (pv 2) S.cls (T.meth "drop") (m_drop T S) (hr.mono (by decide)) pass0 (pa_cons (pe_ix ix_tup (pv 4) pe_int (fun _ _ => rfl)) pa_nil)) (pa_cons (pe_cmpR op_in_seq (pe_ix ix_tup (pv 4) pe_int (fun _ _ => rfl)) (pe_lc (own := [("_law_name", 6), ("_law_kind", 7)]) rfl scEldest.nd (pi_list (pv 5)) (blkOk_by (N := N47) (sc := defScope (top 47)) (by decide +kernel)) (fun _ _ _ _ _ => (show PG _ _ (gTup K 2 _) from pg_tup rfl (pgs_cons (pg_name (i := 6) scEldest.nd rfl (by first | exact Or.inl rfl | exact Or.inr rfl)) (pgs_cons (pg_name (i := 7) scEldest.nd rfl (by first | exact Or.inl rfl | exact Or.inr rfl)) pgs_nil)))) (fun _ _ _ _ _ => pts_nil) (fun _ _ _ _ _ => (pv 6))) rfl) pa_nil))))) (pss_one (ps_ret pe_bl)) pss_nil)) (pss_cons (ps_set (i := 6) scEldest.nd rfl (by first | exact Or.inl rfl | exact Or.inr rfl) (SlX.pe_methSl (E := E0) (pv 2) S.cls (T.meth "take") (m_take T S) (hr.mono (by decide)) pass0 (pa_cons (pe_ix ix_tup (pv 4) pe_int (fun _ _ => rfl)) pa_nil)))
            (pss_cons (ps_setLc (i := 8) (own := [("_law_one_here", 9)]) rfl scEldest.nd rfl (by rfl) (sw_true (by rfl) (by rfl) (by rfl) (by rfl)) (pi_list (pv 5)) (blkOk_by (N := N47) (sc := defScope (top 47)) (by decide +kernel)) (fun _ _ _ _ _ => (pg_name (i := 9) scEldest.nd rfl (by first | exact Or.inl rfl | exact Or.inr rfl))) (fun _ _ _ _ _ => (pts_one (pt_cmpR (show OpR _ _ (rIn K false) from op_in_seq) (pe_ix (show IxR _ (rIxT K) from ix_tup) (pv 9) pe_int (fun _ _ => rfl)) (pe_ix (show IxR _ (rIxT K) from ix_tup) (pv 4) pe_int (fun _ _ => rfl)) rfl))) (fun _ _ _ _ _ => (pv 9)))
            (pss_cons (ps_if (pt_cmpR op_ne (pe_cmpR op_isN (pv 6) pe_non (nomark _)) (pe_cmpR (op_eqD hr.units) (pv 8) (pe_lst pa_nil) (nomark _)) (nomark _)) (pss_one (ps_ret pe_bl)) pss_nil)
            (pss_one (ps_if (pt_cmpR op_notN (pv 6) pe_non (nomark _)) (pss_cons (ps_set (i := 7) scEldest.nd rfl (by first | exact Or.inl rfl | exact Or.inr rfl) (pe_slice sl_list (pe_lc (own := [("_law_one_here", 9)]) rfl scEldest.nd (pi_list (pv 8)) (blkOk_by (N := N47) (sc := defScope (top 47)) (by decide +kernel)) (fun _ _ _ _ _ => (pg_name (i := 9) scEldest.nd rfl (by first | exact Or.inl rfl | exact Or.inr rfl))) (fun _ _ _ _ _ => (pts_one (pt_cmpR op_eq (pe_ix (show IxR _ (rIxT K) from ix_tup) (pv 9) pe_int (fun _ _ => rfl)) (pv 6) (nomark _)))) (fun _ _ _ _ _ => (pe_ix (show IxR _ (rIxT K) from ix_tup) (pv 9) pe_int (fun _ _ => rfl)))) po_none (po_some pe_int)))
              (pss_cons (ps_if (PW.pt (pw_or (pt_cmpR (op_eqD hr.units) (pv 7) (pe_lst pa_nil) (nomark _)) (pw_or (pt_cmpR op_ne (pe_ix ix_list (pe_lc (own := [("_law_one_here", 9)]) rfl scEldest.nd (pi_list (pv 8)) (blkOk_by (N := N47) (sc := defScope (top 47)) (by decide +kernel)) (fun _ _ _ _ _ => (pg_name (i := 9) scEldest.nd rfl (by first | exact Or.inl rfl | exact Or.inr rfl))) (fun _ _ _ _ _ => (pts_one (pt_cmpR op_eq (pe_ix (show IxR _ (rIxT K) from ix_tup) (pv 9) pe_int (fun _ _ => rfl)) (pe_ix (show IxR _ (rIxL K) from ix_list) (pv 7) pe_int (fun _ _ => rfl)) (nomark _)))) (fun _ _ _ _ _ => (pe_ix (show IxR _ (rIxT K) from ix_tup) (pv 9) pe_int (fun _ _ => rfl)))) pe_int (fun _ _ => rfl)) (pv 6) (nomark _)) (pw_or1 (pt_cmpR op_in_seq (pv 6) (pv 3) rfl))))) (pss_one (ps_ret pe_bl)) pss_nil)
              (pss_one (ps_expr (pe_bm PySem.F.plainAttrs_list PySem.F.slot_list_append PySem.F.type_list_append mt_append (pv 3) (pa_cons (pv 6) pa_nil)))))) pss_nil)))))))))))
      (pss_one (ps_ret (pe_cmpR (op_eqD hr.units) (pe_lc (own := [("_law_name", 6), ("_law_kind", 7)]) rfl scEldest.nd (pi_list (SlX.pe_methSl0 (E := E0) (pv 2) S.cls (T.meth "there") (m_there T S) (hr.mono (by decide)) pass0)) (blkOk_by (N := N47) (sc := defScope (top 47)) (by decide +kernel)) (fun _ _ _ _ _ => (show PG _ _ (gTup K 2 _) from pg_tup rfl (pgs_cons (pg_name (i := 6) scEldest.nd rfl (by first | exact Or.inl rfl | exact Or.inr rfl)) (pgs_cons (pg_name (i := 7) scEldest.nd rfl (by first | exact Or.inl rfl | exact Or.inr rfl)) pgs_nil)))) (fun _ _ _ _ _ => (pts_one (pt_cmpR (show OpR _ _ (rIn K false) from op_in_seq) (pv 6) (pv 3) rfl))) (fun _ _ _ _ _ => (pv 6))) (pe_lst pa_nil) (nomark _)))))), ?_⟩
    obtain ⟨qs, hlg, hrs⟩ := id hlg0
    have lr := ok.len
    have lq := hrs.length
    refine ⟨_, rfl, fun p dx np nx dxp => ⟨H, p, h, dx, ks, cs, rfl, upd_same, by rw [upd_ne dxp, upd_same], np, nx, (Ex.new nx).trans (Ex.new (by rw [upd_ne dxp.symm]; exact np)), hh, hk, fun Hc1 H1 e1 s1 => ⟨rfl, ?_⟩⟩⟩
    refine ⟨by show 0 ≤ sizeLine; exact Nat.zero_le _, fun L nL => ⟨by show 2 ≤ sizeLine; decide, fun t nt => ⟨t, _, rfl, SqT.of upd_same, rfl, _, _, rfl, _, _, rfl, rfl, ?_⟩⟩⟩
    have W0 := staW (Cst K) p h [] [] 0
    have nL1 : Hc1 L = none := fresh_back (W0.ex s1) nL
    have nL0 : H L = none := fresh_back e1 nL1
    have s2 := W0.grow (W0.add s1 nL (Ex.new nL) (o := .lst []) upd_same) (Ex.new (o := .tup [.ref p, .ref L]) nt)
    refine r_forT (xs := qs.map V.ref) (Eld K h lg p L ks cs rs H) rfl ⟨none, none, none, none, none, _, [], [], rfl, e1.trans (Ex.new nL1), s2, upd_same, ok.rows, Nat.le_refl _, Nat.le_refl _, KP.Kept.nil, Nat.le_refl _, fun _ m => by cases m⟩
      (fun i σ' H' ⟨_, _, _, _, _, Hk, nm, tl, _, e, st, _⟩ => .of ((staW _ _ _ _ _ _).ex st _ _ (e _ _ hlg))) (fun i x σ' H' hx ⟨a, b, c0, d, e0, Hk, nm, tl, eσ, e, st, hL, okd, ln, lt, kept, ltl, txt⟩ => ?_) (fun σ' H' ⟨a, b, c0, d, e0, Hk, nm, tl, eσ, e, st, hL, okd, ln, lt, kept, ltl, txt⟩ => ?_)
    · subst eσ
      rw [List.getElem?_map] at hx
      obtain ⟨q, hq, rfl⟩ := Option.map_eq_some_iff.mp hx
      obtain ⟨r, hr2, hrow⟩ := hrs.get hq
      have li : i < rs.length := (List.getElem?_eq_some_iff.mp hr2).1
      rw [drop_cons hr2] at okd
      have etk := take_snoc hr2
      have l5 : (nmS nm r).length ≤ i + 1 := Nat.le_trans (nmS_len _ _) (by omega)
      have l6 : (KP.endT [] (rs.take (i + 1))).length ≤ i + 1 := by rw [etk, endT_snoc]; exact Nat.le_trans (step_len _ _) (by omega)
      have eT : KP.endT [] (rs.take (i + 1)) = KP.stepT (KP.endT [] (rs.take i)) r := by rw [etk, endT_snoc]
      -- there
      obtain ⟨dx1, R1, T1, D1, rs1, ps1, kvs1, ss, kn⟩ := id st
      refine ⟨_, rfl, p, dx1, _, rfl, ss.slt, Hk, p, h, KP.endT [] (rs.take i), nm, i, rfl, st, fun l ps Hc2 H2 e2 st2 nl hl th => ?_⟩
      clear ss kn
      have txt' : ∀ t ∈ KP.endT [] (rs.take (i + 1)), TextOk t.1 ∧ TextOk t.2 := fun t ht => by
        rw [eT] at ht
        rcases KP.step_mem ht with m | ⟨z, k, er, rfl⟩
        · exact txt t m
        · have := okd.1
          rw [er] at this
          exact ⟨name_text this.1, name_text (hk.name _ this.2.1)⟩
      obtain ⟨ys, eps, ets, hys⟩ := th.pairs
      have ly : ys.length ≤ i := by have := congrArg List.length ets; rw [List.length_map] at this; omega
      have W2 := staW (Cst K) p h (KP.endT [] (rs.take i)) nm i
      have hrow2 := hrow.ex (e.trans e2)
      have hL2 := e2 _ _ hL
      have x2 := e.trans e2
      cases r with
      | put z k =>
        obtain ⟨hz, hkk, hn⟩ := okd.1
        refine w_if1 (ewT W2 (et_test (ev_op (ev_op (ev_var rfl) (ev_c (v := .int 0)) (rv_ixT (.of hrow2) rfl)) (ev_c (v := .str "put")) (rv_eq rfl)))) st2 (fun Hc3 H3 e3 st3 pt => ?_) (fun Hc3 H3 e3 st3 pt => by cases pt)
        obtain ⟨dx1, R1, T1, D1, rs1, ps1, kvs1, ss, kn⟩ := id st3
        have hq3 := W2.ex st3 _ _ (e3 _ _ hrow2)
        refine ⟨_, rfl, p, dx1, _, rfl, ss.slt, _, rfl, q, _, 1, .str z, rfl, rfl, .of hq3, rfl, _, rfl, q, _, 2, .str k, rfl, rfl, .of hq3, rfl, Hc3, p, h, ks, cs, _, nm, i, z, k, rfl, st3, hh.ex (x2.trans e3), hz, hkk, hn, by omega, by omega, by omega, fun Hc4 H4 e4 st4 => ?_⟩
        refine ⟨_, _, _, _, _, Hc4, nmS nm (.put z k), tl, rfl, x2.trans (e3.trans e4), by rw [eT]; exact st4, e4 _ _ (e3 _ _ hL2), okd.2, l5, l6, ?_, by omega, txt'⟩
        rw [eT]
        exact kept.put hn
      | drop z =>
        have hz : NameOk z := okd.1
        have hrow2 : Hc2 q = some (.tup [.str "drop", .str z]) := hrow2
        refine w_if1 (ewT W2 (et_test (ev_op (ev_op (ev_var rfl) (ev_c (v := .int 0)) (rv_ixT (.of hrow2) rfl)) (ev_c (v := .str "put")) (rv_eq rfl)))) st2 (fun Hc3 H3 e3 st3 pt => by cases pt) (fun Hc3 H3 e3 st3 pt => ?_)
        refine w_if1 (ewT W2 (et_test (ev_op (ev_op (ev_var rfl) (ev_c (v := .int 0)) (rv_ixT (.of (e3 _ _ hrow2)) rfl)) (ev_c (v := .str "drop")) (rv_eq rfl)))) st3 (fun Hc4 H4 e4 st4 pt => ?_) (fun Hc4 H4 e4 st4 pt => by cases pt)
        have x4 := e3.trans e4
        obtain ⟨dx1, R1, T1, D1, rs1, ps1, kvs1, ss, kn⟩ := id st4
        have hq4 := W2.ex st4 _ _ (x4 _ _ hrow2)
        refine ⟨_, rfl, p, dx1, _, rfl, ss.slt, _, rfl, q, _, 1, .str z, rfl, rfl, .of hq4, rfl, Hc4, p, h, _, nm, i, z, rfl, st4, hz, by omega, by omega, fun Hc5 H5 e5 st5 => ?_⟩
        have W5 := staW (Cst K) p h (KP.stepT (KP.endT [] (rs.take i)) (.drop z)) nm (i + 1)
        have x5 := x4.trans e5
        refine (ew_op (W := StA (Cst K) p h (KP.stepT (KP.endT [] (rs.take i)) (.drop z)) nm (i + 1)) (P := isV (.bl (decide (z ∈ (KP.endT [] (rs.take i)).map (·.1))))) (P1 := isV (.str z)) (P2 := fun _ v H' => ∃ l, v = .ref l ∧ H' l = some (.lst (((KP.endT [] (rs.take i)).map (·.1)).map V.str))) (ew W5 (ev_op (ev_var rfl) (ev_c (v := .int 1)) (rv_ixT (.of (x5 _ _ hrow2)) rfl)))
          (fun x H6 e6 _ => ew_lcbL (ew W5 (ev_var rfl)) fun v H7 e7 ev => ?_) (fun x y H6 H7 e6 ex e7 ⟨l, ey, hl⟩ => ?_)) H5 st5 _ fun v Hc6 H6 e6 st6 ev => ?_
        · rw [show v = V.ref l from ev]
          refine EW.imp (P := isL H7 (ys.map fun y => V.str y.2.1)) (ew_mpL (ys := ys) (gv := fun y => V.ref y.1) (sg := fun y => [some (.ref h), some (.ref lg), some (.ref p), some (.ref L), some (.ref q), some (.ref l), some (.str y.2.1), some (.str y.2.2), e0, none]) W5 (.of (by have := e7 _ _ (e6 _ _ (x5 _ _ hl)); rw [this, eps, List.map_map]; rfl)) (by omega)
            (fun y hy H' kc e8 g => ⟨y.1, _, rfl, .of (e8 _ _ (e7 _ _ (e6 _ _ (x5 _ _ (hys y hy))))), rfl, _, _, rfl, _, _, rfl, rfl, g⟩) (fun _ _ => rfl) (fun y hy Hj _ => ev_var rfl)) fun v H' _ ⟨pl, n, ev, hp⟩ => ⟨pl, ev, ?_⟩
          rw [hp, ets, List.map_map, List.map_map]; rfl
        · rw [show x = V.str z from ex, ey]
          exact rw_of W5 (rv_strL (.of hl))
        · rw [show v = _ from ev]
          refine ⟨decide (z ∈ (KP.endT [] (rs.take i)).map (·.1)), rfl, fun H7 e7 => ⟨true, rfl, ?_⟩⟩
          have st7 := W5.grow st6 e7
          have x6 := x2.trans (x5.trans e6)
          refine ⟨_, _, _, _, _, Hc6, nmS nm (.drop z), tl, rfl, x6, by rw [eT]; exact st7, e6 _ _ (x5 _ _ hL2), okd.2, l5, l6, ?_, by omega, txt'⟩
          rw [eT]
          exact kept.drop z
      | call c =>
        obtain ⟨b1, hrow2, hb2⟩ := hrow2
        have okc : c ∈ cs := okd.1
        refine w_if1 (ewT W2 (et_test (ev_op (ev_op (ev_var rfl) (ev_c (v := .int 0)) (rv_ixT (.of hrow2) rfl)) (ev_c (v := .str "put")) (rv_eq rfl)))) st2 (fun Hc3 H3 e3 st3 pt => by cases pt) (fun Hc3 H3 e3 st3 pt => ?_)
        refine w_if1 (ewT W2 (et_test (ev_op (ev_op (ev_var rfl) (ev_c (v := .int 0)) (rv_ixT (.of (e3 _ _ hrow2)) rfl)) (ev_c (v := .str "drop")) (rv_eq rfl)))) st3 (fun Hc4 H4 e4 st4 pt => by cases pt) (fun Hc4 H4 e4 st4 pt => ?_)
        have x4 := e3.trans e4
        obtain ⟨dx1, R1, T1, D1, rs1, ps1, kvs1, ss, kn⟩ := id st4
        have hq4 := W2.ex st4 _ _ (x4 _ _ hrow2)
        refine ⟨_, rfl, p, dx1, _, rfl, ss.slt, _, rfl, q, _, 1, .ref b1, rfl, rfl, .of hq4, rfl, Hc4, p, h, ks, cs, _, nm, i, b1, c, rfl, st4, hh.ex (x2.trans x4), hk, x4 _ _ hb2, okc, by omega, by omega, fun Hc5 H5 e5 st5 => ?_⟩
        have W5 := staW (Cst K) p h (KP.stepT (KP.endT [] (rs.take i)) (.call c)) nm (i + 1)
        have x5 := x4.trans e5
        -- those that the call accepts
        refine w_set (P := isL Hc5 ((ys.filter fun y => decide (y.2.2 ∈ c)).map fun y => V.ref y.1)) (ew_lcLv (a := l) (ew W5 (ev_var rfl)) fun H6 e6 => ew_fmLn (ys := ys) (gv := fun y => V.ref y.1) W5 (.of (by have := e6 _ _ (x5 _ _ hl); rw [this, eps, List.map_map]; rfl)) (by omega) (fun _ _ => rfl)
          (fun y hy Hj ej => et_test (ev_op (ev_op (ev_var rfl) (ev_c (v := .int 1)) (rv_ixT (v := .str y.2.2) (.of (ej _ _ (e6 _ _ (x5 _ _ (hys y hy))))) rfl)) (ev_op (ev_var rfl) (ev_c (v := .int 1)) (rv_ixT (v := .ref b1) (.of (ej _ _ (e6 _ _ (x5 _ _ hrow2)))) rfl)) (rv_strT (.of (ej _ _ (e6 _ _ (x5 _ _ hb2)))))))
          (fun y hy Hj ej _ => ev_var rfl)) st5 (fun v Hc6 H6 e6 st6 ⟨pm, _, ev, hpm⟩ => ?_)
        subst ev
        have x6 := x5.trans e6
        have esm : (ys.filter fun y => decide (y.2.2 ∈ c)).map (·.2) = KP.some_ (KP.endT [] (rs.take i)) c := by
          unfold KP.some_
          rw [ets, List.filter_map]; rfl
        have hsm : ∀ y ∈ ys.filter (fun y => decide (y.2.2 ∈ c)), ThAt Hc6 y.1 y.2 := fun y hy => x6 _ _ (hys y (List.mem_filter.mp hy).1)
        have lsm : (ys.filter fun y => decide (y.2.2 ∈ c)).length < 50000 := by have := List.length_filter_le (fun y : Addr × Str × Str => decide (y.2.2 ∈ c)) ys; omega
        have tsm : ∀ y ∈ ys.filter (fun y => decide (y.2.2 ∈ c)), TextOk y.2.1 ∧ TextOk y.2.2 := fun y hy => txt y.2 (by rw [ets]; exact List.mem_map.mpr ⟨y, (List.mem_filter.mp hy).1, rfl⟩)
        generalize (ys.filter fun y => decide (y.2.2 ∈ c)) = sm at hpm esm hsm lsm tsm
        have esome : Ev (tOp (rEqD K) (tVar 8) (tLst tNil)) [some (.ref h), some (.ref lg), some (.ref p), some (.ref L), some (.ref q), some (.ref l), some (tellV (KP.tell (KP.endT [] (rs.take i)) (.call c))), d, some (.ref pm), none] Hc6 (.bl (decide (sm = []))) := by
          refine ev_opL (ev_var rfl) (el_lst ea_nil (by simp)) fun pe H7 he e7 H8 e8 Q qq => ⟨.list (sm.map fun y => dP y.2), .list [], .lst (.of (e8 _ _ (e7 _ _ hpm))) ?_, .lst (.of (e8 _ _ he)) .nil, ?_, ?_, ?_⟩
          · have := dpAll_each (K := K) (f := fun y : Addr × Str × Str => dP y.2) (ps := sm.map (·.1)) (cs := sm) (H := H8) (by
              have : ∀ l : List (Addr × Str × Str), (∀ y ∈ l, ThAt Hc6 y.1 y.2) → Each (fun p (c : Addr × Str × Str) => Dp K H8 (.ref p) (dP c.2)) (l.map (·.1)) l := fun l => by
                induction l with
                | nil => intro _; exact .nil
                | cons a r ih => intro g; exact .cons (dp_T (c := [a.2.1, a.2.2]) (.of (e8 _ _ (e7 _ _ (g a (by simp)))))) (ih fun y hy => g y (by simp [hy]))
              exact this sm hsm)
            rwa [List.map_map] at this
          · refine shaped_of ?_ ?_
            · rw [PyData.canLay0]
              exact canAll _ fun y hy => can_T fun z hz => by
                simp only [List.mem_cons, List.not_mem_nil, or_false] at hz
                rcases hz with rfl | rfl
                · exact (tsm y hy).1
                · exact (tsm y hy).2
            · rw [PyData.depth]
              have := depthAll_le (fun y : Addr × Str × Str => dP y.2) (n := 1) (l := sm) (fun c _ => by rw [depth_T]; exact Nat.le_refl _)
              omega
          · rfl
          · have e9 : PyData.eqv (.list (sm.map fun y => dP y.2)) (.list []) = decide (sm = []) := by
              cases sm with
              | nil => rfl
              | cons a r => rw [PyData.eqv, List.map_cons, PyData.eqvAll]; rfl
            rw [e9]
            exact qq H8 (Ex.refl _)
        cases pk : KP.pick (KP.endT [] (rs.take i)) c with
        | none =>
          have es : sm = [] := by
            have := KP.some_nil.mpr pk
            rw [← esm] at this
            exact List.map_eq_nil_iff.mp this
          have ev : tellV (KP.tell (KP.endT [] (rs.take i)) (.call c)) = .non := by rw [(step_none pk).2]; rfl
          rw [ev] at esome
          rw [ev]
          refine w_skip (b := false) (ewT W5 (et_test (ev_is (ev_op (ev_op (ev_var rfl) (ev_c (v := .non)) rv_isN) esome (rv_ne rfl)) (by rw [es]; rfl)))) rfl st6 (fun Hc7 H7 e7 st7 => ?_)
          refine seq_last (w_skip (b := false) (ewT W5 (et_test (ev_is (ev_op (ev_var rfl) (ev_c (v := .non)) rv_notN) (by rfl)))) rfl st7 (fun Hc8 H8 e8 st8 => ?_))
          refine ⟨_, _, _, _, _, Hc8, nm, tl, rfl, x2.trans (x6.trans (e7.trans e8)), by rw [eT]; exact st8, e8 _ _ (e7 _ _ (x6 _ _ hL2)), okd.2, by omega, l6, ?_, by omega, txt'⟩
          rw [eT, (step_none pk).1]
          exact kept
        | some t1 =>
          have ev : tellV (KP.tell (KP.endT [] (rs.take i)) (.call c)) = .str t1.1 := by
            have : KP.tell (KP.endT [] (rs.take i)) (.call c) = some t1.1 := by show (KP.pick _ c).map (·.1) = _; rw [pk]; rfl
            rw [this]; rfl
          have es : sm ≠ [] := fun e => by
            have : KP.some_ (KP.endT [] (rs.take i)) c = [] := by rw [← esm, e]; rfl
            rw [KP.some_nil, pk] at this
            cases this
          have mt1 : t1 ∈ KP.endT [] (rs.take i) := List.mem_of_find?_eq_some (KP.pick_some pk).2
          rw [ev] at esome
          rw [ev]
          refine w_skip (b := false) (ewT W5 (et_test (ev_is (ev_op (ev_op (ev_var rfl) (ev_c (v := .non)) rv_isN) esome (rv_ne rfl)) (by rw [decide_eq_false es]; rfl)))) rfl st6 (fun Hc7 H7 e7 st7 => ?_)
          refine seq_last (w_when (ewT W5 (et_test (ev_op (ev_var rfl) (ev_c (v := .non)) rv_notN))) st7 (fun Hc8 H8 e8 st8 pt => ?_) (fun Hc8 H8 e8 st8 pt => by cases pt))
          have x8 := e7.trans e8
          -- its kind
          have k1 : (sm.filter fun y => decide (y.2.1 = t1.1)).map (fun y => V.str y.2.2) = [.str t1.2] := by
            have := KP.kind_at kept pk
            rw [← esm, List.filter_map] at this
            have := congrArg (List.map fun u : Str × Str => V.str u.2) this
            rw [List.map_map] at this
            exact this
          obtain ⟨r2, k2⟩ := KP.eldest pk
          have k2 : (sm.filter fun y => decide (y.2.2 = t1.2)).map (fun y => V.str y.2.1) = .str t1.1 :: r2.map fun u => V.str u.1 := by
            rw [← esm, List.filter_map] at k2
            have := congrArg (List.map fun u : Str × Str => V.str u.1) k2
            rw [List.map_map] at this
            exact this
          refine w_set (P := isL Hc8 [.str t1.2]) (fun H1 w1 Q q2 => (ew_lcLv (K := K) (a := pm) (xs := [.str t1.2]) (ew W5 (ev_var rfl)) fun H9 e9 => EW.imp (P := isL H9 ((sm.filter fun y => decide (y.2.1 = t1.1)).map fun y => V.str y.2.2)) (ew_fmLn (ys := sm) (gv := fun y => V.ref y.1) W5 (.of (by have := e9 _ _ (x8 _ _ hpm); rw [this])) lsm (fun _ _ => rfl)
            (fun y hy Hj ej => et_test (ev_is (ev_op (ev_op (ev_var rfl) (ev_c (v := .int 0)) (rv_ixT (v := .str y.2.1) (.of (ej _ _ (e9 _ _ (x8 _ _ (hsm y hy))))) rfl)) (ev_var rfl) (rv_eq rfl)) (by simp)))
            (fun y hy Hj ej _ => ev_op (ev_var rfl) (ev_c (v := .int 1)) (rv_ixT (v := .str y.2.2) (.of (ej _ _ (e9 _ _ (x8 _ _ (hsm y hy))))) rfl))) fun v H' _ g => by rw [k1] at g; exact g) H1 w1 _ fun v Hd H2 e10 w2 ⟨pk1, n1, ev1, hp1⟩ => ⟨_, rfl, pk1, _, ev1, .of (W5.ex w2 _ _ hp1), fun r nr => by
              have n0 := fresh_back (W5.ex w2) nr
              refine q2 (.ref r) _ _ (e10.trans (Ex.new n0)) (W5.add w2 nr (Ex.new nr) upd_same) ⟨r, fresh_back e10 n0, rfl, ?_⟩
              rw [upd_same, sl_head rfl]⟩) st8 (fun v Hc9 H9 e9 st9 ⟨pkd, _, ev2, hpkd⟩ => ?_)
          subst ev2
          have x9 := x8.trans e9
          refine w_skip (b := false) (ewt_or (a := false) (b := false) (ewT W5 (et_test (ev_is (ev_opL (ev_var rfl) (el_lst ea_nil (by simp)) fun pe H7 he e7 H8 e8 Q qq => ⟨dL [t1.2], dL [], dp_L (.of (e8 _ _ (e7 _ _ hpkd))), dp_L (.of (e8 _ _ he)), shaped_L (by simp; exact (txt t1 mt1).2), shaped_L (by simp), qq H8 (Ex.refl _)⟩) (by rw [eqv_L]; rfl))))
            fun _ H10 e10 => ewt_or (a := false) (b := false) (ewt_Tv (ew_op (P1 := isV (.str t1.1)) (P2 := fun _ => isV (.str t1.1)) (ew_op (P1 := isL H10 ((sm.filter fun y => decide (y.2.2 = t1.2)).map fun y => V.str y.2.1)) (P2 := fun _ => isV (.int 0)) (ew_lcLv (a := pm) (ew W5 (ev_var rfl)) fun H11 e11 => ew_fmLn (ys := sm) (gv := fun y => V.ref y.1) W5 (.of (by have := e11 _ _ (e10 _ _ (x9 _ _ hpm)); rw [this])) lsm (fun _ _ => rfl)
                (fun y hy Hj ej => et_test (ev_is (ev_op (ev_op (ev_var rfl) (ev_c (v := .int 1)) (rv_ixT (v := .str y.2.2) (.of (ej _ _ (e11 _ _ (e10 _ _ (x9 _ _ (hsm y hy)))))) rfl)) (ev_op (ev_var rfl) (ev_c (v := .int 0)) (rv_ixL (v := .str t1.2) (.of (ej _ _ (e11 _ _ (e10 _ _ hpkd)))) rfl)) (rv_eq rfl)) (by simp)))
                (fun y hy Hj ej _ => ev_op (ev_var rfl) (ev_c (v := .int 0)) (rv_ixT (v := .str y.2.1) (.of (ej _ _ (e11 _ _ (e10 _ _ (x9 _ _ (hsm y hy)))))) rfl)))
              (fun x H11 _ _ => ew W5 ev_c) (fun x y H11 H12 e11 ⟨pz, _, ex, hz⟩ e12 ey => by
                rw [ex, show y = V.int 0 from ey]
                exact rw_of W5 (rv_ixL (.of (e12 _ _ hz)) (by rw [k2]; exact at_zero))))
              (fun x H11 _ _ => ew W5 (ev_var rfl)) (fun x y H11 H12 e11 ex e12 ey => by
                rw [show x = V.str t1.1 from ex, show y = V.str t1.1 from ey]
                have := rv_ne (x := V.str t1.1) (y := V.str t1.1) (H := H12) rfl
                rw [decide_eq_true rfl] at this
                exact rw_of W5 this)))
            fun _ H11 e11 => ewT W5 (et_test (ev_is (ev_op (ev_var rfl) (ev_var rfl) (rv_strL (.of (e11 _ _ (e10 _ _ (x9 _ _ (e6 _ _ (x5 _ _ hL2)))))))) (by rw [decide_eq_false (KP.Kept.new kept pk)])))) rfl st9 (fun Hc10 H10 e10 st10 => ?_)
          have hL10 := e10 _ _ (x9 _ _ (x6 _ _ hL2))
          refine w_app1 (P := isV (.str t1.1)) W5 st10 (ev_var rfl) hL10 (ew W5 (ev_var rfl)) (by rw [List.length_map]; omega) (fun v Hc11 H11 e11 st11 ev3 => ?_)
          rw [show v = V.str t1.1 from ev3]
          have hL11 := e11 _ _ hL10
          refine ⟨_, _, _, _, _, upd Hc11 L (.lst (tl.map V.str ++ [V.str t1.1])), nm, tl ++ [t1.1], rfl, Ex.mut (x2.trans (x6.trans (x9.trans (e10.trans e11)))) nL0, ?_, upd_same.trans ?_, okd.2, by omega, l6, ?_, ?_, txt'⟩
          · rw [eT]
            exact W5.set st11 hL11 (fun _ z => by cases z)
          · rw [List.map_append]; rfl
          · rw [eT]
            have := KP.Kept.take kept pk
            have e12 : KP.stepT (KP.endT [] (rs.take i)) (.call c) = (KP.endT [] (rs.take i)).erase t1 := by
              unfold KP.stepT
              simp only [pk]
            rw [e12]
            exact this
          · rw [List.length_append]; exact Nat.succ_le_succ ltl
    · subst eσ
      rw [List.length_map, lq, List.take_length] at st kept
      have W := staW (Cst K) p h (KP.endT [] rs) nm (qs.map V.ref).length
      have W : Wld (StA (Cst K) p h (KP.endT [] rs) nm rs.length) := staW (Cst K) p h (KP.endT [] rs) nm rs.length
      refine w_ret (W := StA (Cst K) p h (KP.endT [] rs) nm rs.length) (P := isV (.bl true)) (ew_op (P1 := isL Hk []) (P2 := fun _ v H' => ∃ r, v = .ref r ∧ H' r = some (.lst [])) (ew_lcbL (P := fun v H' => ∃ l ps, v = .ref l ∧ H' l = some (.lst (ps.map V.ref)) ∧ Each (ThAt H') ps (KP.endT [] rs)) (fun H1 w1 Q q => ?_) fun v H2 e2 ⟨l, ps, ev, hl, th⟩ => ?_) (fun x H1 e1 _ => EW.imp (ewL W (el_lst ea_nil (by simp))) fun v H' _ ⟨r, _, ev, hr⟩ => ⟨r, ev, hr⟩) (fun x y H1 H2 e1 ⟨a1, _, ex, ha⟩ e2 ⟨b1, ey, hb⟩ => ?_)) st (fun v Hc' H2 e2 w2 ev => by
          rw [show v = V.bl true from ev]
          exact kk H2 (e.trans (e2.trans (W.ex w2))))
      · obtain ⟨dx1, R1, T1, D1, rs1, ps1, kvs1, ss, kn⟩ := id w1
        exact ⟨_, rfl, p, dx1, _, rfl, ss.slt, Hk, p, h, _, nm, _, rfl, w1, fun l ps Hc2 H2 e2 st2 nl hl th => q (.ref l) Hc2 H2 e2 st2 ⟨l, ps, rfl, hl, th⟩⟩
      · subst ev
        obtain ⟨ys, eps, ets, hys⟩ := th.pairs
        have ly : ys.length ≤ rs.length := by
          have := congrArg List.length ets
          rw [List.length_map] at this
          rw [List.length_map, lq, List.take_length] at lt
          omega
        refine EW.imp (P := isL H2 ((ys.filter fun y => decide (y.2.1 ∈ tl)).map fun y => V.str y.2.1)) (ew_fmL (ys := ys) (gv := fun y => V.ref y.1) (sg := fun y => [some (.ref h), some (.ref lg), some (.ref p), some (.ref L), a, b, some (.str y.2.1), some (.str y.2.2), e0, none]) W (.of (by rw [hl, eps, List.map_map]; rfl)) (by omega)
          (fun y hy H' kc e8 g => ⟨y.1, _, rfl, .of (e8 _ _ (hys y hy)), rfl, _, _, rfl, _, _, rfl, rfl, g⟩) (fun _ _ => rfl) (fun y hy Hj ej => et_test (ev_op (ev_var rfl) (ev_var rfl) (rv_strL (.of (ej _ _ (e2 _ _ hL)))))) (fun y hy Hj ej _ => ev_var rfl)) fun v H' _ g => ?_
        have := KP.Kept.end_ kept
        rw [ets, List.filter_map] at this
        have z : (ys.filter fun y => decide (y.2.1 ∈ tl)) = [] := List.map_eq_nil_iff.mp this
        rw [z] at g
        exact g.back e2
      · rw [ex, ey]
        exact rw_of W fun H6 e6 Q q => ⟨dL [], dL [], dp_L (.of (e6 _ _ (e2 _ _ ha))), dp_L (.of (e6 _ _ hb)), shaped_L (by simp), shaped_L (by simp), q H6 (Ex.refl _)⟩
end
end KK
set_option maxHeartbeats 4000000
/-! _law_bag, _law_one, _law_mixed. -/
namespace KK
open PySem PySem.Spec PyProof.Rows L2 Evl
section
variable {P : Program} {w : World} {K : PySem.W.Frag} {mg : Str → Option Value} {base : Heap}
theorem at_in {xs : List V} {r : Int} (h0 : 0 ≤ r) (h1 : r < xs.length) : ∃ x ∈ xs, atI xs r = some x := by
  obtain ⟨j, rfl⟩ := Int.eq_ofNat_of_zero_le h0
  have hj : j < xs.length := by omega
  refine ⟨xs[j], List.getElem_mem hj, ?_⟩
  show (ixN xs.length (j : Int)).bind _ = _
  rw [ixN_at hj]
  simp [hj]
theorem w_retLst {W : Hp → Hp → Prop} {Hc H : Hp} {σ : L2.St} {D : Ends} {ts : TA} {PL : List V → Hp → Prop} (h : EWA W ts σ Hc PL) (w1 : W Hc H) (k : ∀ vs Hc' H', Ex Hc Hc' → W Hc' H' → PL vs Hc' → vs.length ≤ sizeLine ∧ ∀ p, H' p = none → D.rt (.ref p) (upd H' p (.lst vs))) : tRet (tLst ts) D σ H := h H w1 _ k
theorem w_retTup {W : Hp → Hp → Prop} {Hc H : Hp} {σ : L2.St} {D : Ends} {ts : TA} {PL : List V → Hp → Prop} (h : EWA W ts σ Hc PL) (w1 : W Hc H) (k : ∀ vs Hc' H', Ex Hc Hc' → W Hc' H' → PL vs Hc' → vs.length ≤ sizeLine ∧ ∀ p, H' p = none → D.rt (.ref p) (upd H' p (.tup vs))) : tRet (tTup ts) D σ H := h H w1 _ k
section
variable {W : Hp → Hp → Prop} {Hc H : Hp} {σ : L2.St} {ts : TA} {te : TE} {PL PL' : List V → Hp → Prop} {P1 : V → Hp → Prop} {v : V} {i : Nat}
theorem EWA.imp (h : EWA W ts σ Hc PL) (k : ∀ v H', Ex Hc H' → PL v H' → PL' v H') : EWA W ts σ Hc PL' := fun H1 w Q q => h H1 w Q fun v Hc' H2 e w2 p => q v Hc' H2 e w2 (k v Hc' e p)
theorem ewa_c (h : EWA W ts σ Hc PL) : EWA W (tCons (tC v) ts) σ Hc (fun vs H' => ∃ r, vs = v :: r ∧ PL r H') := fun H1 w1 Q q => h H1 w1 _ fun vs Hc' H2 e w2 p => q _ Hc' H2 e w2 ⟨vs, rfl, p⟩
theorem ewa_v (hσ : σ[i]? = some (some v)) (h : EWA W ts σ Hc PL) : EWA W (tCons (tVar i) ts) σ Hc (fun vs H' => ∃ r, vs = v :: r ∧ PL r H') := fun H1 w1 Q q => ⟨v, hσ, h H1 w1 _ fun vs Hc' H2 e w2 p => q _ Hc' H2 e w2 ⟨vs, rfl, p⟩⟩
theorem ewa_one (h : EW W te σ Hc P1) : EWA W (tCons te tNil) σ Hc (fun vs H' => ∃ x, vs = [x] ∧ P1 x H') := fun H1 w1 Q q => h H1 w1 _ fun v Hc' H2 e w2 p => q _ Hc' H2 e w2 ⟨v, rfl, p⟩
/-- one that leaves a trace, then the rest -/
theorem ewa_two {P2 : V → List V → Hp → Prop} (h : EW W te σ Hc P1) (k : ∀ x H1, Ex Hc H1 → P1 x H1 → EWA W ts σ H1 (P2 x)) : EWA W (tCons te ts) σ Hc (fun vs H' => ∃ x r H1, vs = x :: r ∧ Ex Hc H1 ∧ P1 x H1 ∧ Ex H1 H' ∧ P2 x r H') :=
  fun H1 w1 Q q => h H1 w1 _ fun v Hc1 H2 e1 w2 p => k v Hc1 e1 p H2 w2 _ fun vs Hc2 H3 e2 w3 p2 => q _ Hc2 H3 (e1.trans e2) w3 ⟨v, vs, Hc1, rfl, e1, p, e2, p2⟩
end
/-! the bag -/
def spBag (K : PySem.W.Frag) : Sp := fun vs H Q _ => ∃ (s : Addr) (ns : List Int), vs = [.ref s] ∧ SqL K H s (ns.map V.int) ∧ ∀ a H', Bag H H' a → Q (.ref a) H'
abbrev N29 : List Str := ["_law_script", "_law_cell"]
theorem scBag : FnScope N29 ["_law_script"] (defScope (top 29)) := ⟨rfl, rfl, rfl, by decide +kernel, rfl, by decide +kernel, by decide +kernel⟩
theorem cut_ints (ns : List Int) (lo hi : Option Int) : ∃ ms : List Int, cutV (ns.map V.int) lo hi = ms.map V.int := by
  unfold cutV
  rw [List.length_map, ← List.map_drop, ← List.map_take]
  exact ⟨_, rfl⟩
theorem cut_63 (xs : List V) : (cutV xs none (some 63)).length ≤ 63 := by
  unfold cutV
  have e1 : HT.sIx xs.length 0 none = 0 := rfl
  have e2 : HT.sIx xs.length xs.length (some 63) ≤ 63 := by simp [HT.sIx]; omega
  rw [List.length_take, e1]
  omega
theorem d_bag (T : Txt K mg) : Dfn P w K mg base 1 "_law_bag" ["_law_script"] (spBag K) := by
  refine mk_dfn (j := 13) T rfl scBag (fun vs H Q E h => ?_) (fun _ _ _ _ _ _ us hl => match us, hl with | [_], _ => rfl) (fun cdv A outer s H vs Q E hr h => ?_)
  · obtain ⟨_, _, rfl, _⟩ := h
    rfl
  · obtain ⟨s1, ns, rfl, hs, kk⟩ := h
    refine ⟨_, (pss_one (ps_ret (pe_lst (pa_cons pe_int (pa_cons pe_int (pa_cons pe_int (pa_cons (pe_lc (own := [("_law_cell", 1)]) rfl scBag.nd (pi_list (pe_slice sl_list (pv 0) po_none (po_some pe_int))) (blkOk_by (N := N29) (sc := defScope (top 29)) (by decide +kernel)) (fun _ _ _ _ _ => (pg_name (i := 1) scBag.nd rfl (by first | exact Or.inl rfl | exact Or.inr rfl))) (fun _ _ _ _ _ => pts_nil) (fun _ _ _ _ _ => (pe_callB call_abs (by rfl) (T.free "abs") (by decide +kernel) (pa_cons (pv 1) pa_nil)))) pa_nil))))))), ?_⟩
    obtain ⟨ms, ems⟩ := cut_ints ns none (some 63)
    have l63 : ms.length ≤ 63 := by
      have := cut_63 (ns.map V.int)
      rwa [ems, List.length_map] at this
    have lc : EW Ex _ (L2.start N29 [.ref s1]) H (isL H (ms.map fun i => V.int (if i < 0 then -i else i))) :=
      ew_lcbL (K := K) (tl := tSl (rSlL K) (tVar 0) tNoPart (tPart (tC (.int 63)))) (g := gName 1) (tt := tYes) (te := tCB (fun xs H Q => ∃ i : Int, xs = [V.int i] ∧ Q (V.int (if i < 0 then -i else i)) H) (tCons (tVar 1) tNil)) (vs := [1]) (P := isL H (ms.map V.int)) (fun H1 w1 Q q => ⟨_, rfl, _, rfl, s1, _, rfl, ex_l w1 hs, fun p np => by
        have n0 := fresh_back w1 np
        refine q (.ref p) _ _ (Ex.new n0) (pureW.add w1 np (Ex.new np) upd_same) ⟨p, n0, rfl, ?_⟩
        rw [upd_same, ems]⟩) fun v H1 e1 ⟨p, n, ev, hp⟩ => by
      rw [ev]
      exact (ew_mpLn (ys := ms) (gv := V.int) pureW (.of hp) (by omega) (fun _ _ => rfl) fun i hi Hk ek => (fun H1 e Q q => ⟨_, rfl, i, rfl, q H1 (Ex.refl _)⟩)).imp fun v H' _ q => q.back e1
    refine w_retLst (PL := fun vs H' => ∃ c, H c = none ∧ vs = [.int 0, .int 1234567891, .int 0, .ref c] ∧ H' c = some (.lst (ms.map fun i => V.int (if i < 0 then -i else i)))) ((ewa_c (ewa_c (ewa_c (ewa_one lc)))).imp fun vs H' _ ⟨r1, e1, r2, e2, r3, e3, x, e4, c, nc, ev, hc⟩ => ⟨c, nc, by rw [e1, e2, e3, e4, ev], hc⟩) (Ex.refl H) fun vs Hc1 H1 e1 w1 ⟨c, nc, ev, hc⟩ => ⟨by rw [ev]; show 4 ≤ sizeLine; decide, fun a na => ?_⟩
    subst ev
    have e2 : Ex H (upd H1 a (.lst [.int 0, .int 1234567891, .int 0, .ref c])) := (e1.trans w1).trans (Ex.new na)
    refine kk a _ ⟨c, 0, 1234567891, 0, ms.map fun i => if i < 0 then -i else i, { same := e2, na := fresh_back (e1.trans w1) na, nc := nc, ha := upd_same, hc := ?_, w0 := by decide, s0 := by decide, s1 := by decide, i0 := by decide, cs0 := fun x hx => ?_, cs63 := by rw [List.length_map]; exact l63 }⟩
    · rw [List.map_map]
      exact (Ex.new na) _ _ (w1 _ _ hc)
    · obtain ⟨i, _, rfl⟩ := List.mem_map.mp hx
      split <;> omega
/-! one of some -/
def spOne (K : PySem.W.Frag) : Sp := fun vs H Q _ => ∃ (Hc : Hp) (a l : Addr) (xs : List V), vs = [.ref a, .ref l] ∧ Bag Hc H a ∧ (SqL K Hc l xs ∨ SqT K Hc l xs) ∧ 0 < xs.length ∧ xs.length < 1000000 ∧ ∀ x ∈ xs, ∀ H', Bag Hc H' a → Q x H'
theorem scOne : FnScope ["_law_bag_here", "_law_things"] ["_law_bag_here", "_law_things"] (defScope (top 31)) := ⟨rfl, rfl, rfl, by decide +kernel, rfl, by decide +kernel, by decide +kernel⟩
theorem d_one (T : Txt K mg) : Dfn P w K mg base 2 "_law_one" ["_law_bag_here", "_law_things"] (spOne K) := by
  refine mk_dfn (j := 15) T rfl scOne (fun vs H Q E h => ?_) (fun _ _ _ _ _ _ us hl => match us, hl with | [_, _], _ => rfl) (fun cdv A outer s H vs Q E hr h => ?_)
  · obtain ⟨_, _, _, _, rfl, _⟩ := h
    rfl
  · obtain ⟨Hc, a, l, xs, rfl, B, hx, l0, l1, kk⟩ := h
    refine ⟨_, (pss_one (ps_ret (pe_ix ix_seq (pv 1) (pe_dfn (d_take T) (hr.mono (by decide)) (pa_cons (pv 0) (pa_cons (pe_callB call_len_seq (by rfl) (T.free "len") (by decide +kernel) (pa_cons (pv 1) pa_nil)) pa_nil))) (fun _ _ => rfl)))), ?_⟩
    refine ⟨_, rfl, _, rfl, _, rfl, l, xs, rfl, hx.imp (ex_l B.same) (ex_t B.same), Hc, a, xs.length, rfl, B, by omega, by omega, fun r H' h0 h1 B' => ?_⟩
    obtain ⟨x, mx, ex⟩ := at_in h0 h1
    rcases hx with hx | hx
    · exact .inl ⟨l, xs, r, x, rfl, rfl, ex_l B'.same hx, ex, kk x mx H' B'⟩
    · exact .inr (.inl ⟨l, xs, r, x, rfl, rfl, ex_t B'.same hx, ex, kk x mx H' B'⟩)
/-! mixed -/
def spMixed (K : PySem.W.Frag) : Sp := fun vs H Q _ => ∃ (Hc : Hp) (a l : Addr) (xs : List V), vs = [.ref a, .ref l] ∧ Bag Hc H a ∧ SqL K Hc l xs ∧ xs.length < 1000 ∧ ∀ ys p Hc' H', ys.Perm xs → Ex Hc Hc' → Bag Hc' H' a → Hc p = none → Hc' p = some (.lst ys) → Q (.ref p) H'
theorem scMixed : FnScope ["_law_bag_here", "_law_things", "_law_found", "_law_thing"] ["_law_bag_here", "_law_things"] (defScope (top 32)) := ⟨rfl, rfl, rfl, by decide +kernel, rfl, by decide +kernel, by decide +kernel⟩
theorem d_mixed (T : Txt K mg) : Dfn P w K mg base 2 "_law_mixed" ["_law_bag_here", "_law_things"] (spMixed K) := by
  refine mk_dfn (j := 16) T rfl scMixed (fun vs H Q E h => ?_) (fun _ _ _ _ _ _ us hl => match us, hl with | [_, _], _ => rfl) (fun cdv A outer s H vs Q E hr h => ?_)
  · obtain ⟨_, _, _, _, rfl, _⟩ := h
    rfl
  · obtain ⟨Hc, a, l, xs, rfl, B, hx, l1, kk⟩ := h
    refine ⟨_, (pss_cons (ps_set (i := 2) scMixed.nd rfl (by first | exact Or.inl rfl | exact Or.inr rfl) (pe_lst pa_nil))
      (pss_cons (ps_for PassesOwn.never rfl (pi_list (pv 1)) (pg_name (i := 3) scMixed.nd rfl (by first | exact Or.inl rfl | exact Or.inr rfl)) (pss_one (ps_expr (pe_bm PySem.F.plainAttrs_list PySem.F.slot_list_insert PySem.F.type_list_insert mt_insert (pv 2) (pa_cons (pe_dfn (d_take T) (hr.mono (by decide)) (pa_cons (pv 0) (pa_cons (pe_op op_add (pe_callB call_len_seq (by rfl) (T.free "len") (by decide +kernel) (pa_cons (pv 2) pa_nil)) pe_int) pa_nil))) (pa_cons (pv 3) pa_nil))))))
      (pss_one (ps_ret (pv 2))))), ?_⟩
    have W := bagW a
    refine w_set (P := isL Hc []) (ewL W (el_lst ea_nil (by simp))) B (fun v Hc1 H1 e1 B1 ⟨p, np, ev, hp⟩ => ?_)
    subst ev
    refine w_forL (a := l) (xs := xs) (Pv := fun i σ' Hk => ∃ ys v, σ' = [some (.ref a), some (.ref l), some (.ref p), v] ∧ Ex Hc Hk ∧ Hk p = some (.lst ys) ∧ ys.Perm (xs.take i)) W B1 (ew W (ev_var rfl)) (fun Hk e => ⟨[], none, rfl, e1.trans e, e _ _ hp, by simp⟩) (fun i σ' Hk ⟨_, _, _, e, _⟩ => ex_l e hx) (fun i x σ' Hk H' hi ⟨ys, v, eσ, e, hk, pm⟩ wk => ?_) (fun σ' Hk H' ⟨ys, v, eσ, e, hk, pm⟩ wk => ?_)
    · subst eσ
      have li := (List.getElem?_eq_some_iff.mp hi).1
      have ly : ys.length = i := by have := pm.length_eq; rw [List.length_take] at this; omega
      refine ⟨_, rfl, .inl ⟨rfl, _, .of (wk.same _ _ hk)⟩, _, rfl, _, rfl, p, ys, rfl, .inl (.of (wk.same _ _ hk)), _, _, rfl, rfl, Hk, a, _, rfl, wk, by omega, by omega, fun r H2 h0 h1 B2 => ⟨_, rfl, p, ys, r, x, rfl, rfl, B2.same _ _ hk, Nat.lt_trans (by omega) (by decide : 1000 < sizeLine), h0, by omega, ?_⟩⟩
      refine ⟨_, W.set B2 hk (fun _ z => by cases z), _, _, rfl, Ex.mut e np, upd_same, ?_⟩
      rw [take_snoc hi]
      have : (ys.take r.toNat ++ [x] ++ ys.drop r.toNat).Perm (x :: ys) := by
        rw [List.append_assoc]
        have h1 := List.perm_middle (a := x) (l₁ := ys.take r.toNat) (l₂ := ys.drop r.toNat)
        rwa [List.take_append_drop] at h1
      exact this.trans ((List.Perm.cons x pm).trans (List.perm_append_comm (l₁ := [x]) (l₂ := xs.take i)))
    · subst eσ
      rw [List.take_length] at pm
      exact ⟨_, rfl, kk ys p Hk H' pm e wk np hk⟩
/-! what they give, in the bag's world -/
section
variable {a : Addr} {Hc : Hp} {σ : L2.St} {tb te : TE} {m : Int} {P1 : V → Hp → Prop}
theorem ew_take (hb : EW (fun Hc H => Bag Hc H a) tb σ Hc (isV (.ref a))) (he : ∀ H1, Ex Hc H1 → EW (fun Hc H => Bag Hc H a) te σ H1 (isV (.int m))) (h0 : 0 < m) (h1 : m < 1073741824) : EW (fun Hc H => Bag Hc H a) (tCall spTake [] E0 (tCons tb (tCons te tNil))) σ Hc (fun v _ => ∃ r, v = .int r ∧ 0 ≤ r ∧ r < m) :=
  fun H1 w1 Q q => hb H1 w1 _ fun v Hc1 H2 e1 w2 ev => he Hc1 e1 H2 w2 _ fun u Hc2 H3 e2 w3 eu => ⟨Hc2, a, m, by rw [show v = _ from ev, show u = _ from eu]; rfl, w3, h0, h1, fun r H' h0 h1 B => q _ Hc2 H' (e1.trans e2) B ⟨r, rfl, h0, h1⟩⟩
theorem ew_one (hb : EW (fun Hc H => Bag Hc H a) tb σ Hc (isV (.ref a))) (he : ∀ H1, Ex Hc H1 → EW (fun Hc H => Bag Hc H a) te σ H1 fun v H' => ∃ l xs, v = .ref l ∧ (SqL K H' l xs ∨ SqT K H' l xs) ∧ 0 < xs.length ∧ xs.length < 1000000 ∧ ∀ x ∈ xs, P1 x H') :
    EW (fun Hc H => Bag Hc H a) (tCall (spOne K) [] E0 (tCons tb (tCons te tNil))) σ Hc P1 :=
  fun H1 w1 Q q => hb H1 w1 _ fun v Hc1 H2 e1 w2 ev => he Hc1 e1 H2 w2 _ fun u Hc2 H3 e2 w3 ⟨l, xs, eu, hx, l0, l1, hp⟩ => ⟨Hc2, a, l, xs, by rw [show v = _ from ev, eu]; rfl, w3, hx, l0, l1, fun x mx H' B => q x Hc2 H' (e1.trans e2) B (hp x mx)⟩
theorem ew_mixed {xs : List V} (hb : EW (fun Hc H => Bag Hc H a) tb σ Hc (isV (.ref a))) (he : ∀ H1, Ex Hc H1 → EW (fun Hc H => Bag Hc H a) te σ H1 fun v H' => ∃ l, v = .ref l ∧ SqL K H' l xs) (l1 : xs.length < 1000) :
    EW (fun Hc H => Bag Hc H a) (tCall (spMixed K) [] E0 (tCons tb (tCons te tNil))) σ Hc (fun v H' => ∃ p ys, ys.Perm xs ∧ Hc p = none ∧ v = .ref p ∧ H' p = some (.lst ys)) :=
  fun H1 w1 Q q => hb H1 w1 _ fun v Hc1 H2 e1 w2 ev => he Hc1 e1 H2 w2 _ fun u Hc2 H3 e2 w3 ⟨l, eu, hx⟩ => ⟨Hc2, a, l, xs, by rw [show v = _ from ev, eu]; rfl, w3, hx, l1, fun ys p Hc' H' pm e B n hp => q _ Hc' H' ((e1.trans e2).trans e) B ⟨p, ys, pm, fresh_back (e1.trans e2) n, rfl, hp⟩⟩
/-- a list of numbers written out -/
theorem ew_ints {ns : List Int} {ts : TA} (w1 : Wld (fun Hc H => Bag Hc H a)) (h : EvA ts σ Hc (ns.map V.int)) (l0 : 0 < ns.length) (l1 : ns.length < 1000) : EW (fun Hc H => Bag Hc H a) (tLst ts) σ Hc fun v H' => ∃ l xs, v = .ref l ∧ (SqL K H' l xs ∨ SqT K H' l xs) ∧ 0 < xs.length ∧ xs.length < 1000000 ∧ ∀ x ∈ xs, ∃ i ∈ ns, x = .int i :=
  (ewL w1 (el_lst h (by rw [List.length_map]; omega))).imp fun v H' _ ⟨p, _, ev, hp⟩ => ⟨p, _, ev, .inl (.of hp), by rw [List.length_map]; exact l0, by rw [List.length_map]; omega, fun x mx => by
    obtain ⟨i, hi, rfl⟩ := List.mem_map.mp mx
    exact ⟨i, hi, rfl⟩⟩
end
end
end KK
set_option maxHeartbeats 4000000
/-! More of worlds: ranges, slices, sorted, lists repeated, loops over new lists. -/
namespace KK
open PySem PySem.Spec PyProof.Rows L2 Evl
section
variable {W : Hp → Hp → Prop} {K : PySem.W.Frag} {Hc H Hc1 H' : Hp} {σ : L2.St} {te ta tb tl tx : TE} {tt u : TT} {g : TG} {vs : List Nat} {j : Nat} {v z : V} {xs ys : List V} {P P' : V → Hp → Prop} {a d : Addr} {D : Ends} {tu tz : TS}
/-- over a range, sifted -/
theorem ew_fmR {ts : TA} {n : Nat} {f : Nat → Bool} {h : Nat → V} (w : Wld W) (hl : EWA W ts σ Hc fun us _ => us = [.int (n : Int)]) (hz : n < 50000) (hw : ∀ x, wipe ((wipe σ vs).set j (some x)) vs = wipe σ vs)
    (ht : ∀ (i : Nat), i < n → ∀ Hk, Ex Hc Hk → EvT tt ((wipe σ vs).set j (some (.int (i : Int)))) Hk (f i)) (he : ∀ (i : Nat), i < n → ∀ Hk, Ex Hc Hk → f i = true → Ev te ((wipe σ vs).set j (some (.int (i : Int)))) Hk (h i)) :
    EW W (tLc (iRng1 ts) (gName j) tt te vs) σ Hc (isL Hc (((List.range n).filter f).map h)) :=
  (ew_lcR (PA := fun i acc _ => acc = (((List.range n).take i).filter f).map h) w hl hz hw (fun _ _ _ _ _ h => h) (fun _ _ => rfl) fun i acc Hk hi e pa => by
    have hy : (List.range n)[i]? = some i := by rw [List.getElem?_range hi]
    exact fm_turn w hy pa (ht i hi Hk e) (he i hi Hk e)).imp fun v H' _ ⟨Dl, acc, n0, ev, hd, pa⟩ => ⟨Dl, n0, ev, by rw [hd, pa, List.take_of_length_le (by simp)]⟩
/-- list(range(i, j)) -/
theorem ew_listRg2 {i k : Int} (w : Wld W) (ha : Ev ta σ Hc (.int i)) (hb : Ev tb σ Hc (.int k)) (ok : RgOk i k) : EW W (tLstRg (tRg2 ta tb)) σ Hc (isL Hc (rgV i k)) := fun H1 w1 Q q =>
  ha H1 (w.ex w1) _ fun H2 e2 => hb H2 ((w.ex w1).trans e2) _ fun H3 e3 => ⟨i, k, rfl, rfl, ok, fun p np => by
    have w3 := w.grow w1 (e2.trans e3)
    have n0 := fresh_back (w.ex w3) np
    exact q (.ref p) _ _ (Ex.new n0) (w.add w3 np (Ex.new np) upd_same) ⟨p, n0, rfl, upd_same⟩⟩
theorem ew_listRg1 {k : Int} (w : Wld W) (hb : Ev tb σ Hc (.int k)) (ok : RgOk 0 k) : EW W (tLstRg (tRg1 tb)) σ Hc (isL Hc (rgV 0 k)) := fun H1 w1 Q q =>
  hb H1 (w.ex w1) _ fun H3 e3 => ⟨k, rfl, ok, fun p np => by
    have w3 := w.grow w1 e3
    have n0 := fresh_back (w.ex w3) np
    exact q (.ref p) _ _ (Ex.new n0) (w.add w3 np (Ex.new np) upd_same) ⟨p, n0, rfl, upd_same⟩⟩
/-- xs[:i] of a list -/
theorem cut_take {xs : List V} {i : Int} (h : 0 ≤ i) : cutV xs none (some i) = xs.take i.toNat := by
  unfold cutV
  have e1 : HT.sIx xs.length 0 none = 0 := rfl
  have e2 : HT.sIx xs.length xs.length (some i) = min i.toNat xs.length := by simp [HT.sIx]; omega
  rw [e1, e2, List.drop_zero, Nat.sub_zero]
  by_cases q : i.toNat ≤ xs.length
  · rw [Nat.min_eq_left q]
  · rw [Nat.min_eq_right (by omega), List.take_of_length_le (Nat.le_refl _), List.take_of_length_le (by omega)]
theorem ew_slTo {PL : List V → Hp → Prop} {PI : Int → Prop} (w : Wld W) (h : EW W te σ Hc fun v H' => ∃ p xs, v = .ref p ∧ H' p = some (.lst xs) ∧ PL xs H') (hx : ∀ H1, Ex Hc H1 → EW W tx σ H1 fun v _ => ∃ i, v = .int i ∧ 0 ≤ i ∧ PI i) :
    EW W (tSl (rSlL K) te tNoPart (tPart tx)) σ Hc (fun v H' => ∃ p xs i H1, Hc p = none ∧ v = .ref p ∧ H' p = some (.lst (xs.take i.toNat)) ∧ 0 ≤ i ∧ PI i ∧ PL xs H1 ∧ Ex Hc H1 ∧ Ex H1 H') := fun H1 w1 Q q =>
  h H1 w1 _ fun v Hc1 H2 e1 w2 ⟨p, xs, ev, hp, pl⟩ => hx Hc1 e1 H2 w2 _ fun u Hc2 H3 e2 w3 ⟨i, eu, i0, pi⟩ => ⟨i, eu, p, xs, ev, .of (w.ex w3 _ _ (e2 _ _ hp)), fun r nr => by
    have n0 := fresh_back (w.ex w3) nr
    exact q (.ref r) _ _ ((e1.trans e2).trans (Ex.new n0)) (w.add w3 nr (Ex.new nr) upd_same) ⟨r, xs, i, Hc1, fresh_back (e1.trans e2) n0, rfl, by rw [upd_same, cut_take i0], i0, pi, pl, e1, e2.trans (Ex.new n0)⟩⟩
/-- the iterable first -/
theorem w_forB (hl : EW W tl σ Hc P) (w1 : W Hc H) (k : ∀ v Hc' H', Ex Hc Hc' → W Hc' H' → P v Hc' → tSeq (tFor (iList K (tC v)) g tu) tz D σ H') : tSeq (tFor (iList K tl) g tu) tz D σ H := hl H w1 _ k
/-- a if t else b -/
theorem ew_if {b : Bool} (h : EWT W tt σ Hc (isB b)) (h1 : b = true → ∀ H1, Ex Hc H1 → EW W ta σ H1 P) (h2 : b = false → ∀ H1, Ex Hc H1 → EW W tb σ H1 P) : EW W (tIf tt ta tb) σ Hc P := fun H1 w1 Q q => h H1 w1 _ fun b' Hc1 H2 e1 w2 eb => by
  have eb : b' = b := eb
  subst eb
  cases b' with
  | true => exact iteT (h1 rfl Hc1 e1 H2 w2 Q fun v Hc2 H3 e2 w3 p => q v Hc2 H3 (e1.trans e2) w3 p)
  | false => exact iteF (h2 rfl Hc1 e1 H2 w2 Q fun v Hc2 H3 e2 w3 p => q v Hc2 H3 (e1.trans e2) w3 p)
/-- the test known only by what it tells -/
theorem ew_ifT {PT : Bool → Hp → Prop} (h : EWT W tt σ Hc PT) (h1 : ∀ H1, Ex Hc H1 → PT true H1 → EW W ta σ H1 P) (h2 : ∀ H1, Ex Hc H1 → PT false H1 → EW W tb σ H1 P) : EW W (tIf tt ta tb) σ Hc P := fun H1 w1 Q q => h H1 w1 _ fun b' Hc1 H2 e1 w2 eb => by
  cases b' with
  | true => exact iteT (h1 Hc1 e1 eb H2 w2 Q fun v Hc2 H3 e2 w3 p => q v Hc2 H3 (e1.trans e2) w3 p)
  | false => exact iteF (h2 Hc1 e1 eb H2 w2 Q fun v Hc2 H3 e2 w3 p => q v Hc2 H3 (e1.trans e2) w3 p)
/-- sorted(a list of numbers) -/
theorem ew_sortI {ns : List Int} (w : Wld W) (h : EW W te σ Hc fun v H' => ∃ l, v = .ref l ∧ SqL K H' l (ns.map V.int)) (l : ns.length < 64) : EW W (tCB (rSorted K) (tCons te tNil)) σ Hc (fun v H' => ∃ (p : Addr) (ms : List Int), ms.Perm ns ∧ ms.Pairwise (· ≤ ·) ∧ Hc p = none ∧ v = .ref p ∧ H' p = some (.lst (ms.map V.int))) :=
  fun H1 w1 Q q => h H1 w1 _ fun v Hc1 H2 e1 w2 ⟨p, ev, hp⟩ => ⟨p, ns, by rw [ev], ex_l (w.ex w2) hp, l, fun ms r pm le nr => by
    have n0 := fresh_back (w.ex w2) nr
    exact q (.ref r) _ _ (e1.trans (Ex.new n0)) (w.add w2 nr (Ex.new nr) upd_same) ⟨r, ms, pm, le, fresh_back e1 n0, rfl, upd_same⟩⟩
/-- tuple(a list that stands) -/
theorem eu_tupK (h : Ev te σ H (.ref a)) (ha : SqL K H a xs) : EvU (tThen te (kTup K)) σ H xs := fun H1 e Q q => h H1 e _ fun H2 e2 => .inl ⟨a, xs, rfl, ex_l (e.trans e2) ha, fun p np => q p _ (fresh_back e2 np) (e2.trans (Ex.new np)) upd_same⟩
/-- tuple(a new list), the list told by PL -/
theorem ew_tupB {PL : List V → Hp → Prop} (w : Wld W) (h : EW W te σ Hc fun v H' => ∃ p xs, v = .ref p ∧ H' p = some (.lst xs) ∧ PL xs H') : EW W (tThen te (kTup K)) σ Hc (fun v H' => ∃ p xs H1, Hc p = none ∧ v = .ref p ∧ H' p = some (.tup xs) ∧ PL xs H1 ∧ Ex Hc H1 ∧ Ex H1 H') := fun H1 w1 Q q => h H1 w1 _ fun v Hc1 H2 e1 w2 ⟨p, xs, ev, hp, pl⟩ =>
  .inl ⟨p, xs, ev, SqL.of (w.ex w2 _ _ hp), fun r nr => by
    have n0 := fresh_back (w.ex w2) nr
    exact q (.ref r) _ _ (e1.trans (Ex.new n0)) (w.add w2 nr (Ex.new nr) upd_same) ⟨r, xs, Hc1, fresh_back e1 n0, rfl, upd_same, pl, e1, Ex.new n0⟩⟩
theorem inV_non (ks : List Int) : inV .non (ks.map V.int) = false := by
  unfold inV
  rw [List.any_map, List.any_eq_false]
  intro x _ e
  have e : eqV (V.int x) V.non = true := e
  simp [eqV] at e
end
/-! calls in the heap -/
/-- a list of calls by numbers -/
abbrev isCalls (m : Int) (n : Nat) : V → Hp → Prop := fun v H' => ∃ p ps cs, v = .ref p ∧ H' p = some (.lst (ps.map V.ref)) ∧ Each (TupIAt H') ps cs ∧ KH.FoundOk m cs ∧ cs.length ≤ n
theorem rg_ints (i j : Int) : rgV i j = ((List.range (j - i).toNat).map fun k : Nat => i + (k : Int)).map V.int := by
  unfold rgV
  rw [List.map_map]; rfl
end KK
set_option maxHeartbeats 4000000
/-! _law_paths. -/
namespace KK
open PySem PySem.Spec PyProof.Rows L2 Evl
/-- a list of which A holds -/
abbrev isP (A : List V → Prop) : V → Hp → Prop := fun v H' => ∃ p xs, v = .ref p ∧ H' p = some (.lst xs) ∧ A xs
section
variable {W : Hp → Hp → Prop} {K : PySem.W.Frag} {Hc : Hp} {σ : L2.St} {te ta tb tx : TE} {A B : List V → Prop} {PI : Int → Prop}
theorem ew_catP (w : Wld W) (ha : EW W ta σ Hc (isP A)) (hb : ∀ H1, Ex Hc H1 → EW W tb σ H1 (isP B)) (hz : ∀ xs ys, A xs → B ys → xs.length + ys.length ≤ 100000) :
    EW W (tOp rCat ta tb) σ Hc (isP fun zs => ∃ xs ys, zs = xs ++ ys ∧ A xs ∧ B ys) :=
  fun H1 w1 Q q => ha H1 w1 _ fun x Hc1 H2 e1 w2 ⟨p, xs, ex, hp, pa⟩ => hb Hc1 e1 H2 w2 _ fun y Hc2 H3 e2 w3 ⟨r, ys, ey, hr, pb⟩ => ⟨p, r, xs, ys, ex, ey, w.ex w3 _ _ (e2 _ _ hp), w.ex w3 _ _ hr, sz_of (hz xs ys pa pb), fun l nl => by
    have n0 := fresh_back (w.ex w3) nl
    exact q (.ref l) _ _ ((e1.trans e2).trans (Ex.new n0)) (w.add w3 nl (Ex.new nl) upd_same) ⟨l, _, rfl, upd_same, xs, ys, rfl, pa, pb⟩⟩
theorem ew_slToP (w : Wld W) (h : EW W te σ Hc (isP A)) (hx : ∀ H1, Ex Hc H1 → EW W tx σ H1 fun v _ => ∃ i, v = .int i ∧ 0 ≤ i ∧ PI i) :
    EW W (tSl (rSlL K) te tNoPart (tPart tx)) σ Hc (isP fun zs => ∃ xs i, zs = xs.take i.toNat ∧ A xs ∧ 0 ≤ i ∧ PI i) :=
  (ew_slTo (PL := fun xs _ => A xs) w h hx).imp fun v H' _ ⟨p, xs, i, H1, _, ev, hp, i0, pi, pa, _, _⟩ => ⟨p, _, ev, hp, xs, i, rfl, pa, i0, pi⟩
end
def toI : V → Int
  | .int i => i
  | _ => 0
theorem perm_ints {ys : List V} {is : List Int} (h : ys.Perm (is.map V.int)) : ∃ js : List Int, ys = js.map V.int ∧ js.Perm is := by
  refine ⟨ys.map toI, ?_, ?_⟩
  · rw [List.map_map]
    refine (List.map_id ys).symm.trans (List.map_congr_left fun x hx => ?_)
    obtain ⟨i, _, rfl⟩ := List.mem_map.mp (h.mem_iff.mp hx)
    rfl
  · have := h.map toI
    rw [List.map_map] at this
    have e : (List.map (toI ∘ V.int) is) = is := by
      have : (toI ∘ V.int) = id := rfl
      rw [this, List.map_id]
    rwa [e] at this
theorem at_last {pre : List Int} {x : Int} : atI ((pre ++ [x]).map V.int) (-1) = some (.int x) := by
  rw [List.map_append]
  exact atI_last _ _
theorem asc_snoc {pre : List Int} {x j : Int} (h : KH.Asc (pre ++ [x])) (hj : x < j) : KH.Asc (pre ++ [x] ++ [j]) := by
  refine List.pairwise_append.mpr ⟨h, by simp, fun a ha b hb => ?_⟩
  have eb : b = j := by simpa using hb
  subst eb
  rcases List.mem_append.mp ha with m | m
  · have := (List.pairwise_append.mp h).2.2 a m x (by simp)
    omega
  · have : a = x := by simpa using m
    omega
/-- what stands behind the kind k -/
def BehOk (m k : Nat) (x : V) : Prop := x = .non ∨ ∃ j : Int, x = .int j ∧ (k : Int) < j ∧ j < m
theorem beh_flat {m : Nat} {bs : List V} (h : ∀ (k : Nat) (x : V), bs[k]? = some x → BehOk m k x) : bs.all flatV = true := by
  rw [List.all_eq_true]
  intro x hx
  obtain ⟨k, hk, e⟩ := List.mem_iff_getElem.mp hx
  rcases h k x (by rw [List.getElem?_eq_getElem hk, e]) with rfl | ⟨j, rfl, _⟩ <;> rfl
theorem beh_zero {m : Nat} {bs : List V} (h : ∀ (k : Nat) (x : V), bs[k]? = some x → BehOk m k x) : inV (.int 0) bs = false := by
  unfold inV
  rw [List.any_eq_false]
  intro x hx e
  obtain ⟨k, hk, e2⟩ := List.mem_iff_getElem.mp hx
  rcases h k x (by rw [List.getElem?_eq_getElem hk, e2]) with rfl | ⟨j, rfl, h1, _⟩
  · simp [eqV] at e
  · simp [eqV] at e
    omega
section
variable {P : Program} {w : World} {K : PySem.W.Frag} {mg : Str → Option Value} {base : Heap}
def spPaths : Sp := fun vs H Q _ => ∃ (Hc : Hp) (a : Addr) (m n : Nat), vs = [.ref a, .int m, .int n] ∧ Bag Hc H a ∧ 1 ≤ m ∧ m ≤ 6 ∧ 1 ≤ n ∧ n ≤ 8 ∧ ∀ v Hc' H', Ex Hc Hc' → Bag Hc' H' a → isCalls m 20 v Hc' → Q v H'
abbrev N35 : List Str := ["_law_bag_here", "_law_many", "_law_calls", "_law_behind", "_law_kind", "_law_heads", "_law_found", "_law_head", "_law_call"]
theorem scPaths : FnScope N35 ["_law_bag_here", "_law_many", "_law_calls"] (defScope (top 35)) := ⟨rfl, rfl, rfl, by decide +kernel, rfl, by decide +kernel, by decide +kernel⟩
theorem d_paths (T : Txt K mg) : Dfn P w K mg base 3 "_law_paths" ["_law_bag_here", "_law_many", "_law_calls"] spPaths := by
  refine mk_dfn (j := 19) T rfl scPaths (fun vs H Q E h => ?_) (fun _ _ _ _ _ _ us hl => match us, hl with | [_, _, _], _ => rfl) (fun cdv A outer s H vs Q E hr h => ?_)
  · obtain ⟨_, _, _, _, rfl, _⟩ := h
    rfl
  · obtain ⟨Hc, a, m, n, rfl, B, m1, m6, n1, n8, kk⟩ := h
    refine ⟨_, (pss_cons (ps_set (i := 3) scPaths.nd rfl (by first | exact Or.inl rfl | exact Or.inr rfl) (pe_lc (own := [("_law_kind", 4)]) rfl scPaths.nd (pi_range1 (by rfl) (T.free "range") (pa_cons (pv 1) pa_nil)) (blkOk_by (N := N35) (sc := defScope (top 35)) (by decide +kernel)) (fun _ _ _ _ _ => (pg_name (i := 4) scPaths.nd rfl (by first | exact Or.inl rfl | exact Or.inr rfl))) (fun _ _ _ _ _ => pts_nil) (fun _ _ _ _ _ => (pe_dfn (d_one T) (hr.mono (by decide)) (pa_cons (pv 0) (pa_cons (pe_op op_cat (pe_listRg rfl (by rfl) (T.free "list") (prg_2 (by rfl) (T.free "range") (pe_op op_add (pv 4) pe_int) (pv 1))) (pe_lst (pa_cons pe_non pa_nil))) pa_nil))))))
      (pss_cons (ps_setLc (i := 5) (own := [("_law_kind", 4)]) rfl scPaths.nd rfl (by rfl) (sw_true (by rfl) (by rfl) (by rfl) (by rfl)) (pi_range1 (by rfl) (T.free "range") (pa_cons (pv 1) pa_nil)) (blkOk_by (N := N35) (sc := defScope (top 35)) (by decide +kernel)) (fun _ _ _ _ _ => (pg_name (i := 4) scPaths.nd rfl (by first | exact Or.inl rfl | exact Or.inr rfl))) (fun _ _ _ _ _ => (pts_one (pt_cmpR (show OpR _ _ (rIn K true) from op_notIn_seq) (pv 4) (pv 3) rfl))) (fun _ _ _ _ _ => (pv 4)))
      (pss_cons (ps_set (i := 5) scPaths.nd rfl (by first | exact Or.inl rfl | exact Or.inr rfl) (pe_op op_cat (pv 5) (pe_slice sl_list (pe_dfn (d_mixed T) (hr.mono (by decide)) (pa_cons (pv 0) (pa_cons (pe_lc (own := [("_law_kind", 4)]) rfl scPaths.nd (pi_range1 (by rfl) (T.free "range") (pa_cons (pv 1) pa_nil)) (blkOk_by (N := N35) (sc := defScope (top 35)) (by decide +kernel)) (fun _ _ _ _ _ => (pg_name (i := 4) scPaths.nd rfl (by first | exact Or.inl rfl | exact Or.inr rfl))) (fun _ _ _ _ _ => (pts_one (pt_cmpR (show OpR _ _ (rIn K false) from op_in_seq) (pv 4) (pv 3) rfl))) (fun _ _ _ _ _ => (pv 4))) pa_nil))) po_none (po_some (pe_dfn (d_one T) (hr.mono (by decide)) (pa_cons (pv 0) (pa_cons (pe_lst (pa_cons pe_int (pa_cons pe_int (pa_cons pe_int (pa_cons pe_int pa_nil))))) pa_nil)))))))
      (pss_cons (ps_set (i := 6) scPaths.nd rfl (by first | exact Or.inl rfl | exact Or.inr rfl) (pe_lst pa_nil))
      (pss_cons (ps_for PassesOwn.never rfl (pi_list (pe_slice sl_list (pv 5) po_none (po_some (pv 2)))) (pg_name (i := 7) scPaths.nd rfl (by first | exact Or.inl rfl | exact Or.inr rfl)) (pss_cons (ps_set (i := 8) scPaths.nd rfl (by first | exact Or.inl rfl | exact Or.inr rfl) (pe_lst (pa_cons (pv 7) pa_nil)))
        (pss_cons (ps_while PassesOwn.never (pt_cmpR op_notN (pe_ix ix_list (pv 3) (pe_ix ix_list (pv 8) (pe_un un_neg pe_int) (fun _ _ => rfl)) (fun _ _ => rfl)) pe_non (nomark _)) (pss_one (ps_expr (pe_bm PySem.F.plainAttrs_list PySem.F.slot_list_append PySem.F.type_list_append mt_append (pv 8) (pa_cons (pe_ix ix_list (pv 3) (pe_ix ix_list (pv 8) (pe_un un_neg pe_int) (fun _ _ => rfl)) (fun _ _ => rfl)) pa_nil)))))
        (pss_one (ps_expr (pe_bm PySem.F.plainAttrs_list PySem.F.slot_list_append PySem.F.type_list_append mt_append (pv 6) (pa_cons (pe_tupleOf (by rfl) (T.free "tuple") (pv 8)) pa_nil)))))))
      (pss_one (ps_ret (pv 6)))))))), ?_⟩
    have W := bagW a
    -- behind
    refine w_set (P := MadeL Hc (fun acc _ => acc.length = m ∧ ∀ (k : Nat) x, acc[k]? = some x → BehOk m k x)) (ew_lcR (n := m) (PA := fun i acc _ => acc.length = i ∧ ∀ (k : Nat) x, acc[k]? = some x → BehOk m k x) W (ewa_of W (ea_cons (ev_var rfl) ea_nil)) (by omega) (fun _ => rfl) (fun _ _ _ _ _ h => h) (fun _ _ => ⟨rfl, fun k x h => by simp at h⟩)
      (fun i acc Hk hi e ⟨la, pa⟩ => ewt_yes (EW.imp (ew_one (P1 := fun x _ => BehOk m i x) (ew W (ev_var rfl)) (fun H1 e1 => (ew_cat W (ew_listRg2 W (ev_op (ev_var rfl) (ev_c (v := .int 1)) rv_I0) (ev_var rfl) (RgOk.of_le (by omega) (by omega) (by omega) (by omega))) (fun H2 _ => ewL W (el_lst (ea_cons ev_c ea_nil) (by simp))) (by rw [rgV_length]; simp; omega)).imp fun v H' _ ⟨p, _, ev, hp⟩ => ⟨p, _, ev, .inl (.of hp), by simp, by rw [List.length_append, rgV_length]; simp; omega, fun x hx => by
          rcases List.mem_append.mp hx with h | h
          · rw [rg_ints] at h
            obtain ⟨j, hj, rfl⟩ := List.mem_map.mp h
            obtain ⟨t, ht, rfl⟩ := List.mem_map.mp hj
            have ht := List.mem_range.mp ht
            exact .inr ⟨_, rfl, by omega, by omega⟩
          · exact .inl (by simpa using h)⟩)) fun y H3 _ py => ⟨by simp [la], fun k x hk => by
            rcases Nat.lt_or_ge k acc.length with h | h
            · rw [List.getElem?_append_left h] at hk
              exact pa k x hk
            · rw [List.getElem?_append_right h] at hk
              have ek : k = i := by
                rcases Nat.eq_zero_or_pos (k - acc.length) with z | z
                · omega
                · rw [List.getElem?_eq_none (by simp; omega)] at hk; cases hk
              subst ek
              rw [la, Nat.sub_self] at hk
              injection hk with hk
              subst hk
              exact py⟩))) B (fun v Hc1 H1 e1 B1 ⟨b, bs, nb, ev, hb, lb, pb⟩ => ?_)
    subst ev
    have fb := beh_flat pb
    -- heads
    refine w_set (P := isL Hc1 (((List.range m).filter fun i : Nat => !inV (.int (i : Int)) bs).map fun i : Nat => V.int (i : Int))) (ew_fmR (n := m) W (ewa_of W (ea_cons (ev_var rfl) ea_nil)) (by omega) (fun _ => rfl) (fun i hi Hk e => et_test (ev_op (ev_var rfl) (ev_var rfl) (rv_niL (.of (e _ _ hb)) rfl fb))) (fun i hi Hk e _ => ev_var rfl)) B1 (fun v Hc2 H2 e2 B2 ⟨h1, _, ev, hh1⟩ => ?_)
    subst ev
    have hb2 := e2 _ _ hb
    refine w_set (P := isP fun zs => ∃ hs : List Int, zs = hs.map V.int ∧ hs ≠ [] ∧ (∀ k ∈ hs, 0 ≤ k ∧ k < m) ∧ hs.length ≤ 12) ((ew_catP (A := fun xs => ∃ hs : List Int, xs = hs.map V.int ∧ 0 ∈ hs ∧ (∀ k ∈ hs, 0 ≤ k ∧ k < m) ∧ hs.length ≤ 6) (B := fun xs => ∃ hs : List Int, xs = hs.map V.int ∧ (∀ k ∈ hs, 0 ≤ k ∧ k < m) ∧ hs.length ≤ 6) W
        (EW.imp (ew W (ev_var rfl)) fun v H' e ev => ⟨h1, _, ev, e _ _ hh1, ((List.range m).filter fun i : Nat => !inV (.int (i : Int)) bs).map fun i : Nat => (i : Int), by rw [List.map_map]; rfl, List.mem_map.mpr ⟨0, List.mem_filter.mpr ⟨List.mem_range.mpr (by omega), by simpa using beh_zero pb⟩, rfl⟩, fun k hk => by
          obtain ⟨i, hi, rfl⟩ := List.mem_map.mp hk
          have := List.mem_range.mp (List.mem_filter.mp hi).1
          omega, by
          rw [List.length_map]
          have := List.length_filter_le (fun i : Nat => !inV (.int (i : Int)) bs) (List.range m)
          rw [List.length_range] at this
          omega⟩)
        (fun H3 e3 => (ew_slToP (A := fun xs => ∃ hs : List Int, xs = hs.map V.int ∧ (∀ k ∈ hs, 0 ≤ k ∧ k < m) ∧ hs.length ≤ 6) (PI := fun _ => True) W
          ((ew_mixed (xs := (((List.range m).filter fun i : Nat => inV (.int (i : Int)) bs).map fun i : Nat => (i : Int)).map V.int) (ew W (ev_var rfl)) (fun H4 e4 => (ew_fmR (n := m) (f := fun i : Nat => inV (.int (i : Int)) bs) (h := fun i : Nat => V.int (i : Int)) W (ewa_of W (ea_cons (ev_var rfl) ea_nil)) (by omega) (fun _ => rfl) (fun i hi Hk e => et_test (ev_op (ev_var rfl) (ev_var rfl) (rv_isL (.of (e _ _ (e4 _ _ (e3 _ _ hb2)))) rfl fb))) (fun i hi Hk e _ => ev_var rfl)).imp fun v H' _ ⟨p, _, ev, hp⟩ => ⟨p, ev, .of (by rw [hp, List.map_map]; rfl)⟩) (by
              rw [List.length_map, List.length_map]
              have := List.length_filter_le (fun i : Nat => inV (.int (i : Int)) bs) (List.range m)
              rw [List.length_range] at this
              omega)).imp fun v H' _ ⟨p, ys, pm, _, ev, hp⟩ => by
            obtain ⟨js, rfl, pj⟩ := perm_ints pm
            refine ⟨p, _, ev, hp, js, rfl, fun k hk => ?_, ?_⟩
            · obtain ⟨i, hi, rfl⟩ := List.mem_map.mp (pj.mem_iff.mp hk)
              have := List.mem_range.mp (List.mem_filter.mp hi).1
              omega
            · rw [pj.length_eq, List.length_map]
              have := List.length_filter_le (fun i : Nat => inV (.int (i : Int)) bs) (List.range m)
              rw [List.length_range] at this
              omega)
          (fun H4 e4 => (ew_one (P1 := fun x _ => ∃ i ∈ [(1 : Int), 2, 0, 6], x = .int i) (ew W (ev_var rfl)) (fun H5 e5 => ew_ints W (ns := [1, 2, 0, 6]) (ea_cons ev_c (ea_cons ev_c (ea_cons ev_c (ea_cons ev_c ea_nil)))) (by decide) (by decide))).imp fun v H' _ ⟨i, hi, ev⟩ => ⟨i, ev, by simp at hi; omega, trivial⟩)).imp fun v H' _ ⟨p, zs, ev, hp, xs, i, ez, ⟨hs, ex, h2, h3⟩, _, _⟩ => ⟨p, zs, ev, hp, hs.take i.toNat, by rw [ez, ex, List.map_take], fun k hk => h2 k (List.mem_of_mem_take hk), by rw [List.length_take]; omega⟩)
        (fun xs ys ⟨h, e, _, _, l⟩ ⟨h', e', _, l'⟩ => by rw [e, e', List.length_map, List.length_map]; omega)).imp fun v H' _ ⟨p, zs, ev, hp, xs, ys, ez, ⟨g, eg, g0, g1, g2⟩, ⟨g', eg', g1', g2'⟩⟩ => ⟨p, zs, ev, hp, g ++ g', by rw [ez, eg, eg', List.map_append], (fun h => by rw [List.append_eq_nil_iff] at h; rw [h.1] at g0; cases g0), fun k hk => (List.mem_append.mp hk).elim (g1 k) (g1' k), by rw [List.length_append]; omega⟩) B2 (fun v Hc3 H3 e3 B3 ⟨h2, zs, ev, hh2, hs, ez, hs0, hsr, hsl⟩ => ?_)
    subst ev ez
    have hb3 := e3 _ _ hb2
    -- found
    refine w_set (P := isL Hc3 []) (ewL W (el_lst ea_nil (by simp))) B3 (fun v Hc4 H4 e4 B4 ⟨p, np, ev, hp⟩ => ?_)
    subst ev
    refine w_forB (P := fun v H' => ∃ l, v = .ref l ∧ H' l = some (.lst ((hs.take n).map V.int))) ((ew_slToP (A := fun xs => xs = hs.map V.int) (PI := fun i => i = n) W (EW.imp (ew W (ev_var rfl)) fun v H' e ev => ⟨h2, _, ev, e _ _ (e4 _ _ hh2), rfl⟩) (fun H5 e5 => (ew W (ev_var rfl)).imp fun v H' _ ev => ⟨n, ev, by omega, rfl⟩)).imp fun v H' _ ⟨l, zs, ev, hl, xs, i, ez, ex, _, ei⟩ => ⟨l, ev, by rw [hl, ez, ex, ei, ← List.map_take]; rfl⟩) B4 (fun v Hc5 H5 e5 B5 ⟨l, ev, hl⟩ => ?_)
    subst ev
    have nb4 : ∀ {Hj : Hp}, Ex Hc3 Hj → Hj b = some (.lst bs) := fun e => e _ _ hb3
    have e03 : Ex Hc Hc3 := (e1.trans e2).trans e3
    refine w_forL (a := l) (xs := (hs.take n).map V.int) (Pv := fun i σ' Hk => ∃ hd cl, σ' = [some (.ref a), some (.int m), some (.int n), some (.ref b), none, some (.ref h2), some (.ref p), hd, cl] ∧ Ex Hc3 Hk ∧ Hk l = some (.lst ((hs.take n).map V.int)) ∧ ∃ ps cs, Hk p = some (.lst (ps.map V.ref)) ∧ Each (TupIAt Hk) ps cs ∧ cs.length = i ∧ ∀ c ∈ cs, KH.CallOk m c) W B5 (ew W ev_c)
      (fun Hk e => ⟨none, none, rfl, (e4.trans e5).trans e, e _ _ hl, [], [], e _ _ (e5 _ _ hp), .nil, rfl, fun _ h => by cases h⟩) (fun i σ' Hk ⟨_, _, _, _, hl, _⟩ => .of hl) (fun i x σ' Hk H' hx ⟨hd, cl, eσ, e, hl, ps, cs, hpp, hps, lcs, hcs⟩ wk => ?_) (fun σ' Hk H' ⟨hd, cl, eσ, e, hl, ps, cs, hpp, hps, lcs, hcs⟩ wk => ?_)
    · subst eσ
      rw [List.getElem?_map] at hx
      obtain ⟨k, hk, rfl⟩ := Option.map_eq_some_iff.mp hx
      have rk := hsr k (List.mem_of_mem_take (List.mem_of_getElem? hk))
      refine w_set (P := isL Hk [.int k]) (ewL W (el_lst (ea_cons (ev_var rfl) ea_nil) (by simp))) wk (fun v Hk1 H1 e6 B6 ⟨q, nq, ev, hq⟩ => ?_)
      subst ev
      refine q_while (fun mm σ' H' => ∃ Hj pre x, σ' = [some (.ref a), some (.int m), some (.int n), some (.ref b), none, some (.ref h2), some (.ref p), some (.int k), some (.ref q)] ∧ Bag Hj H' a ∧ Ex Hk Hj ∧ Hj q = some (.lst ((pre ++ [x]).map V.int)) ∧ KH.CallOk m (pre ++ [x]) ∧ (mm : Int) = m - x) ((m : Int) - k).toNat
        ⟨Hk1, [], k, rfl, B6, e6, hq, ⟨by simp, by simp, fun y hy => by simp at hy; rw [hy]; exact rk⟩, by omega⟩ (fun mm σ' H2 ⟨Hj, pre, x, eσ, B7, e7, hq7, ok7, em⟩ => ?_)
      subst eσ
      have rx := ok7.2.2 x (by simp)
      have hbj : Hj b = some (.lst bs) := nb4 (e.trans e7)
      obtain ⟨y, hy⟩ : ∃ y, bs[x.toNat]? = some y := ⟨bs[x.toNat]'(by omega), List.getElem?_eq_getElem _⟩
      have oky := pb _ _ hy
      have gx : Ev (tOp (rIxL K) (tVar 3) (tOp (rIxL K) (tVar 8) (tUn (rU fun i => .int (-i)) (tC (.int 1))))) [some (.ref a), some (.int m), some (.int n), some (.ref b), none, some (.ref h2), some (.ref p), some (.int k), some (.ref q)] Hj y :=
        ev_op (ev_var rfl) (ev_op (ev_var rfl) (ev_un ev_c ru_neg) (rv_ixL (.of hq7) at_last)) (rv_ixL (.of hbj) (by
          have := atI_nat hy
          rwa [Int.toNat_of_nonneg rx.1] at this))
      refine ⟨!decide (y = .non), EvT.mono B7.same (et_test (ev_op gx ev_c rv_notN)), fun hb H3 e8 => ?_, fun hb H3 e8 => ?_⟩
      · have ny : y ≠ .non := by simpa using hb
        rcases oky with h | ⟨j, rfl, j1, j2⟩
        · exact absurd h ny
        · refine ⟨fun σ2 H4 => ∃ m', m' < mm ∧ ∃ Hj pre x, σ2 = [some (.ref a), some (.int m), some (.int n), some (.ref b), none, some (.ref h2), some (.ref p), some (.int k), some (.ref q)] ∧ Bag Hj H4 a ∧ Ex Hk Hj ∧ Hj q = some (.lst ((pre ++ [x]).map V.int)) ∧ KH.CallOk m (pre ++ [x]) ∧ (m' : Int) = m - x, fun _ _ h => h, ?_⟩
          refine w_app1 (P := isV (.int j)) W (W.grow B7 e8) (ev_var rfl) hq7 (ew W gx) (by
            have := ok7.len
            rw [List.length_map]; omega) (fun v Hj2 H4 e9 B9 ev => ?_)
          rw [show v = V.int j from ev]
          refine ⟨((m : Int) - j).toNat, by omega, upd Hj2 q (.lst ((pre ++ [x]).map V.int ++ [V.int j])), pre ++ [x], j, rfl, W.set B9 (e9 _ _ hq7) (fun _ z => by cases z), Ex.mut (e7.trans e9) nq, by rw [upd_same, List.map_append (l₂ := [j])]; rfl, ⟨by simp, asc_snoc ok7.2.1 (by omega), fun z hz => ?_⟩, by omega⟩
          rcases List.mem_append.mp hz with h | h
          · exact ok7.2.2 z h
          · have : z = j := by simpa using h
            omega
      · have hpj := e7 _ _ hpp
        refine w_app1 (P := isU Hj ((pre ++ [x]).map V.int)) W (W.grow B7 e8) (ev_var rfl) hpj (ewU W (eu_tupK (ev_var rfl) (.of hq7))) (by
          rw [List.length_map, hps.length, lcs]
          have := (List.getElem?_eq_some_iff.mp hk).1
          rw [List.length_take] at this
          omega) (fun v Hj2 H4 e9 B9 ⟨t, nt, ev, ht⟩ => ?_)
        subst ev
        have hpj2 := e9 _ _ hpj
        have te := TEx.list (H := Hj2) (ys := ps.map V.ref ++ [V.ref t]) hpj2
        refine ⟨_, W.set (o' := .lst (ps.map V.ref ++ [V.ref t])) B9 hpj2 (fun _ z => by cases z), _, _, rfl, Ex.mut (e.trans (e7.trans e9)) np, ?_, ps ++ [t], cs ++ [pre ++ [x]], by rw [upd_same, List.map_append]; rfl, ?_, by rw [List.length_append, lcs]; rfl, fun c hc => ?_⟩
        · have pl : l ≠ p := fun z => by
            rw [z, hpp] at hl
            injection hl with hl
            injection hl with hl
            cases ps with
            | nil =>
              have := congrArg List.length hl
              have h3 := (List.getElem?_eq_some_iff.mp hk).1
              simp at this
              rw [List.length_take] at h3
              omega
            | cons p0 r =>
              cases hs2 : hs.take n with
              | nil => rw [hs2] at hl; simp at hl
              | cons z0 r0 => rw [hs2] at hl; simp at hl
          rw [upd_ne pl]
          exact e9 _ _ (e7 _ _ hl)
        · refine ((hps.imp fun a c g => te _ _ (e9 _ _ (e7 _ _ g))).app (.cons (te _ _ ht) .nil))
        · rcases List.mem_append.mp hc with h | h
          · exact hcs c h
          · rw [show c = pre ++ [x] by simpa using h]; exact ok7
    · subst eσ
      rw [List.length_map, List.length_take] at lcs
      have : 0 < hs.length := List.length_pos_iff.mpr hs0
      exact ⟨_, rfl, kk _ Hk H' (e03.trans e) wk ⟨p, ps, cs, rfl, hpp, hps, ⟨fun z => by rw [z] at lcs; simp at lcs; omega, hcs⟩, by omega⟩⟩
end
end KK
set_option maxHeartbeats 4000000
/-! _law_bent_call, _law_any_calls. -/
namespace KK
open PySem PySem.Spec PyProof.Rows L2 Evl
def tCs (us : List V) : TA := fun _ H Q => Q us H
section
variable {W : Hp → Hp → Prop} {K : PySem.W.Frag} {Hc H : Hp} {σ : L2.St} {te ta tb tx : TE} {A B : List V → Prop} {P1 : V → Hp → Prop} {a : Addr} {xs : List V} {ts : TA} {g : TG} {tu tz : TS} {D : Ends} {PL : List V → Hp → Prop}
theorem w_forRB (hl : EWA W ts σ Hc PL) (w1 : W Hc H) (k : ∀ us Hc' H', Ex Hc Hc' → W Hc' H' → PL us Hc' → tSeq (tFor (iRng1 (tCs us)) g tu) tz D σ H') : tSeq (tFor (iRng1 ts) g tu) tz D σ H := hl H w1 _ k
theorem ewa_cs {us : List V} : EWA W (tCs us) σ Hc fun vs _ => vs = us := fun H1 w1 Q q => q us Hc H1 (Ex.refl _) w1 rfl
theorem rw_imp {r : R2} {x y : V} {P P' : V → Hp → Prop} (h : RW W r x y Hc P) (k : ∀ v H', Ex Hc H' → P v H' → P' v H') : RW W r x y Hc P' := fun H1 w Q q => h H1 w Q fun v Hc' H2 e w2 p => q v Hc' H2 e w2 (k v Hc' e p)
/-- a list of one -/
theorem ew_lst1 (w : Wld W) (h : EW W te σ Hc P1) : EW W (tLst (tCons te tNil)) σ Hc (fun v H' => ∃ p x H1, Hc p = none ∧ v = .ref p ∧ H' p = some (.lst [x]) ∧ P1 x H1 ∧ Ex Hc H1 ∧ Ex H1 H') := fun H1 w1 Q q => h H1 w1 _ fun v Hc1 H2 e1 w2 p1 => ⟨by show 1 ≤ sizeLine; decide, fun p np => by
  have n0 := fresh_back (w.ex w2) np
  exact q (.ref p) _ _ (e1.trans (Ex.new n0)) (w.add w2 np (Ex.new np) upd_same) ⟨p, v, Hc1, fresh_back e1 n0, rfl, upd_same, p1, e1, Ex.new n0⟩⟩
/-- list(a tuple that stands) -/
theorem el_listT (h : Ev te σ H (.ref a)) (ha : SqT K H a xs) : EvL (tCB (rListS K) (tCons te tNil)) σ H xs := fun H1 e Q q => h H1 e _ fun H2 e2 => ⟨a, xs, rfl, .inr (ex_t (e.trans e2) ha), fun p np => q p _ (fresh_back e2 np) (e2.trans (Ex.new np)) upd_same⟩
end
theorem dp_LInt {K : PySem.W.Frag} {H : Hp} {a : Addr} {c : List Int} (h : SqL K H a (c.map V.int)) : Dp K H (.ref a) (.list (c.map .int)) := .lst h (dpAll_int c)
theorem eqv_LInt (c d : List Int) : PyData.eqv (.list (c.map .int)) (.list (d.map .int)) = decide (c = d) := by
  rw [PyData.eqv]; exact eqvAll_I c d
theorem shaped_LInt (c : List Int) : SeqAt.shaped (.list (c.map .int)) = true := shaped_of (by
  rw [PyData.canLay0]
  exact canAll _ fun z hz => by rw [PyData.canLay0]) (by rw [PyData.depth, PySem.W.depth_ints]; decide)
/-- xs != [] of numbers -/
theorem ev_neNil {K : PySem.W.Frag} {H : Hp} {σ : L2.St} {te : TE} {a : Addr} {c : List Int} (h : Ev te σ H (.ref a)) (ha : H a = some (.lst (c.map V.int))) : Ev (tOp (rNeD K) te (tLst tNil)) σ H (.bl (!decide (c = []))) :=
  ev_opL h (el_lst ea_nil (by simp)) fun p H1 hp e1 H2 e2 Q q => ⟨.list (c.map .int), .list (([] : List Int).map .int), dp_LInt (.of (e2 _ _ (e1 _ _ ha))), dp_LInt (.of (e2 _ _ hp)), shaped_LInt c, shaped_LInt [], by rw [eqv_LInt]; exact q H2 (Ex.refl _)⟩
section
variable {P : Program} {w : World} {K : PySem.W.Frag} {mg : Str → Option Value} {base : Heap}
def spBent : Sp := fun vs H Q _ => ∃ (Hc : Hp) (a f : Addr) (m n : Nat), vs = [.ref a, .int m, .ref f] ∧ Bag Hc H a ∧ 1 ≤ m ∧ m ≤ 6 ∧ n < 1000 ∧ isCalls m n (.ref f) Hc ∧ ∀ v Hc' H', Ex Hc Hc' → Bag Hc' H' a → isCalls m (n + 1) v Hc' → Q v H'
abbrev N36 : List Str := ["_law_bag_here", "_law_many", "_law_found", "_law_call", "_law_kind", "_law_other", "_law_one_here"]
theorem scBent : FnScope N36 ["_law_bag_here", "_law_many", "_law_found"] (defScope (top 36)) := ⟨rfl, rfl, rfl, by decide +kernel, rfl, by decide +kernel, by decide +kernel⟩
theorem d_bent_call (T : Txt K mg) : Dfn P w K mg base 3 "_law_bent_call" ["_law_bag_here", "_law_many", "_law_found"] spBent := by
  refine mk_dfn (j := 20) T rfl scBent (fun vs H Q E h => ?_) (fun _ _ _ _ _ _ us hl => match us, hl with | [_, _, _], _ => rfl) (fun cdv A outer s H vs Q E hr h => ?_)
  · obtain ⟨_, _, _, _, _, rfl, _⟩ := h
    rfl
  · obtain ⟨Hc, a, f, m, n, rfl, B, m1, m6, n1, ⟨f', ps, cs, ef, hf, hps, ok, lcs⟩, kk⟩ := h
    injection ef with ef
    subst ef
    refine ⟨_, (pss_cons (ps_asg (pe_tup (pa_cons (pe_dfn (d_one T) (hr.mono (by decide)) (pa_cons (pv 0) (pa_cons (pv 2) pa_nil))) (pa_cons (pe_dfn (d_take T) (hr.mono (by decide)) (pa_cons (pv 0) (pa_cons (pv 1) pa_nil))) pa_nil))) (pg_tup rfl (pgs_cons (pg_name (i := 3) scBent.nd rfl (by first | exact Or.inl rfl | exact Or.inr rfl)) (pgs_cons (pg_name (i := 4) scBent.nd rfl (by first | exact Or.inl rfl | exact Or.inr rfl)) pgs_nil))))
      (pss_cons (ps_set (i := 5) scBent.nd rfl (by first | exact Or.inl rfl | exact Or.inr rfl) (pe_ifExp (pt_cmpR op_in_seq (pv 4) (pv 3) rfl) (pe_lc (own := [("_law_one_here", 6)]) rfl scBent.nd (pi_tup (pv 3)) (blkOk_by (N := N36) (sc := defScope (top 36)) (by decide +kernel)) (fun _ _ _ _ _ => (pg_name (i := 6) scBent.nd rfl (by first | exact Or.inl rfl | exact Or.inr rfl))) (fun _ _ _ _ _ => (pts_one (pt_cmpR op_ne (pv 6) (pv 4) (nomark _)))) (fun _ _ _ _ _ => (pv 6))) (pe_op op_cat (pe_callTy call_list_of (by rfl) (T.free "list") (by decide +kernel) (pa_cons (pv 3) pa_nil)) (pe_lst (pa_cons (pv 4) pa_nil)))))
      (pss_one (ps_ret (pe_op op_cat (pe_op op_rep (pe_lst (pa_cons (pe_tupleOf (by rfl) (T.free "tuple") (pe_callB cr_sorted (by rfl) (T.free "sorted") (by decide +kernel) (pa_cons (pv 5) pa_nil))) pa_nil)) (pe_callTy call_int1 (by rfl) (T.free "int") (by decide +kernel) (pa_cons (pe_cmpR (op_neD hr.units) (pv 5) (pe_lst pa_nil) (nomark _)) pa_nil))) (pv 2)))))), ?_⟩
    have W := bagW a
    have lps : 0 < ps.length := by rw [hps.length]; exact List.length_pos_iff.mpr ok.1
    refine w_asgTup (ewa_two (P1 := fun x H' => ∃ q c, x = .ref q ∧ TupIAt H' q c ∧ KH.CallOk m c) (P2 := fun _ vs _ => ∃ r : Int, vs = [.int r] ∧ 0 ≤ r ∧ r < m) (ew_one (ew W (ev_var rfl)) (fun H1 e1 => (ew W (ev_var rfl)).imp fun v H' e ev => ⟨f, _, ev, .inl (.of (e _ _ (e1 _ _ hf))), by rw [List.length_map]; exact lps, by rw [List.length_map, hps.length]; omega, fun x hx => by
        obtain ⟨q, hq, rfl⟩ := List.mem_map.mp hx
        obtain ⟨c, hc, ht⟩ := hps.mem q hq
        exact ⟨q, c, rfl, e _ _ (e1 _ _ ht), ok.2 c hc⟩⟩)) (fun x H1 e1 _ => (ewa_one (ew_take (m := m) (ew W (ev_var rfl)) (fun H2 _ => ew W (ev_var rfl)) (by omega) (by omega))).imp fun vs H' _ ⟨x, ev, r, er, h⟩ => ⟨r, by rw [ev, er], h⟩)) B fun vs Hc1 H1 e1 B1 ⟨x, r', H0, ev, e01, ⟨q, c, ex, hq, okc⟩, e02, k, er, k0, k1⟩ => ?_
    subst ev ex er
    refine ⟨by show 2 ≤ sizeLine; decide, fun t nt => ⟨t, _, rfl, SqT.of upd_same, rfl, _, _, rfl, _, _, rfl, rfl, ?_⟩⟩
    have B2 := W.grow B1 (Ex.new (o := .tup [.ref q, .int k]) nt)
    have hq1 := e02 _ _ hq
    have lc : c.length ≤ 6 := by have := okc.len; omega
    -- other
    refine w_set (P := isP fun xs => ∃ os : List Int, xs = os.map V.int ∧ os.Nodup ∧ (∀ x ∈ os, 0 ≤ x ∧ x < m) ∧ os.length ≤ 7) (ew_if (b := decide (k ∈ c)) (ewT W (et_test (ev_op (ev_var rfl) (ev_var rfl) (rv_intT (.of hq1)))))
      (fun hb H2 e2 => (ew_lcTv (a := q) (ew W (ev_var rfl)) fun H3 e3 => ew_fmTn (ys := c) (gv := V.int) (h := V.int) (f := fun x => !decide (x = k)) W (.of (e3 _ _ (e2 _ _ hq1))) (by omega) (fun _ _ => rfl) (fun x hx Hk ek => et_test (ev_is (ev_op (ev_var rfl) (ev_var rfl) (rv_ne rfl)) (by simp))) (fun x hx Hk ek _ => ev_var rfl)).imp fun v H' _ ⟨p, _, ev, hp⟩ => ⟨p, _, ev, hp, _, rfl, (KH.asc_nodup okc.2.1).filter _, fun x hx => okc.2.2 x (List.mem_filter.mp hx).1, by
        have := List.length_filter_le (fun x => !decide (x = k)) c
        omega⟩)
      (fun hb H2 e2 => (ew_cat W (ewL W (el_listT (ev_var rfl) (.of (e2 _ _ hq1)))) (fun H3 e3 => ewL W (el_lst (ea_cons (ev_var rfl) ea_nil) (by simp))) (by rw [List.length_map]; simp; omega)).imp fun v H' _ ⟨p, _, ev, hp⟩ => ⟨p, _, ev, hp, c ++ [k], by rw [List.map_append]; rfl, List.nodup_append.mpr ⟨KH.asc_nodup okc.2.1, by simp, fun x hx y hy => by
          have ey : y = k := by simpa using hy
          rw [ey]
          intro e
          rw [e] at hx
          exact absurd hx (of_decide_eq_false hb)⟩, fun x hx => (List.mem_append.mp hx).elim (okc.2.2 x) (fun h => by
          have : x = k := by simpa using h
          omega), by rw [List.length_append]; simp; omega⟩)) B2 (fun v Hc3 H3 e3 B3 ⟨po, zs, ev, hpo, os, ez, nd, ro, lo⟩ => ?_)
    subst ev ez
    have hf3 := e3 _ _ (e1 _ _ hf)
    have hps3 : Each (TupIAt Hc3) ps cs := hps.imp fun p c g => e3 _ _ (e1 _ _ g)
    -- the answer
    refine w_ret (P := isCalls m (n + 1)) (ew_op (P1 := fun v H' => ∃ p ps cs, v = .ref p ∧ H' p = some (.lst (ps.map V.ref)) ∧ Each (TupIAt H') ps cs ∧ cs.length ≤ 1 ∧ ∀ c ∈ cs, KH.CallOk m c) (P2 := fun _ => isV (.ref f))
      (ew_op (P1 := fun v H' => ∃ p t ms, v = .ref p ∧ H' p = some (.lst [.ref t]) ∧ TupIAt H' t ms ∧ ms.Perm os ∧ ms.Pairwise (· ≤ ·)) (P2 := fun _ => isV (.int (if (!decide (os = [])) = true then 1 else 0)))
        ((ew_lst1 (P1 := fun v H' => ∃ t ms, v = .ref t ∧ TupIAt H' t ms ∧ ms.Perm os ∧ ms.Pairwise (· ≤ ·)) W ((ew_tupB (K := K) (PL := fun xs _ => ∃ ms : List Int, xs = ms.map V.int ∧ ms.Perm os ∧ ms.Pairwise (· ≤ ·)) W ((ew_sortI (K := K) (ns := os) W ((ew W (ev_var rfl)).imp fun v H' e ev => ⟨po, ev, .of (e _ _ hpo)⟩) (by omega)).imp fun v H' _ ⟨p, ms, pm, le, _, ev, hp⟩ => ⟨p, _, ev, hp, ms, rfl, pm, le⟩)).imp fun v H' _ ⟨t, xs, H5, _, ev, ht, ⟨ms, ex, pm, le⟩, _, _⟩ => ⟨t, ms, ev, by show H' t = some (.tup (ms.map V.int)); rw [← ex]; exact ht, pm, le⟩)).imp fun v H' _ ⟨p, x, H5, _, ev, hp, ⟨t, ms, ex, ht, pm, le⟩, _, e6⟩ => ⟨p, t, ms, ev, by rw [hp, ex], e6 _ _ ht, pm, le⟩)
        (fun x H4 e4 _ => ew W (ev_cb (ea_cons (ev_neNil (ev_var rfl) (e4 _ _ hpo)) ea_nil) fun H5 e5 Q q => .inr ⟨_, rfl, q H5 (Ex.refl _)⟩))
        (fun x y H4 H5 e4 ⟨p, t, ms, ex, hp, ht, pm, le⟩ e5 ey H6 w6 Q q => by
          rw [ex, show y = _ from ey]
          refine ⟨p, _, _, rfl, rfl, W.ex w6 _ _ (e5 _ _ hp), by split <;> decide, by split <;> decide, (by split; (show 1 * 1 ≤ sizeLine; decide); (show 1 * 0 ≤ sizeLine; decide)), fun r nr => ?_⟩
          have n0 := fresh_back (W.ex w6) nr
          refine q (.ref r) _ _ (Ex.new n0) (W.add w6 nr (Ex.new nr) upd_same) ?_
          by_cases h0 : os = []
          · refine ⟨r, [], [], rfl, ?_, .nil, by simp, fun _ h => by cases h⟩
            rw [upd_same]
            simp [h0]
          · refine ⟨r, [t], [ms], rfl, ?_, .cons ((Ex.new n0) _ _ (e5 _ _ ht)) .nil, by simp, fun c hc => ?_⟩
            · rw [upd_same]
              simp [h0]
            · have ec : c = ms := by simpa using hc
              subst ec
              exact ⟨fun e => h0 (List.length_eq_zero_iff.mp (by rw [← pm.length_eq, e]; rfl)), KH.asc_of_le le (pm.nodup_iff.mpr nd), fun x hx => ro x (pm.mem_iff.mp hx)⟩))
      (fun x H4 e4 _ => ew W (ev_var rfl)) (fun x y H4 H5 e4 ⟨p, ps1, cs1, ex, hp, hps1, l1, ok1⟩ e5 ey H6 w6 Q q => by
        rw [ex, show y = V.ref f from ey]
        refine ⟨p, f, _, _, rfl, rfl, W.ex w6 _ _ (e5 _ _ hp), W.ex w6 _ _ (e5 _ _ (e4 _ _ hf3)), sz_of (by rw [List.length_map, List.length_map, hps1.length, hps3.length]; omega), fun r nr => ?_⟩
        have n0 := fresh_back (W.ex w6) nr
        refine q (.ref r) _ _ (Ex.new n0) (W.add w6 nr (Ex.new nr) upd_same) ⟨r, ps1 ++ ps, cs1 ++ cs, rfl, by rw [upd_same, List.map_append], ((hps1.imp fun p c g => (Ex.new n0) _ _ (e5 _ _ g)).app (hps3.imp fun p c g => (Ex.new n0) _ _ (e5 _ _ (e4 _ _ g)))), ⟨fun z => ok.1 (List.append_eq_nil_iff.mp z).2, fun c hc => (List.mem_append.mp hc).elim (ok1 c) (ok.2 c)⟩, by rw [List.length_append]; omega⟩)) B3 (fun v Hc4 H4 e4 B4 q => kk v Hc4 H4 (e1.trans (e3.trans e4)) B4 q)
/-! _law_any_calls -/
abbrev N37 : List Str := ["_law_bag_here", "_law_many", "_law_calls", "_law_found", "_law_turn", "_law_call", "_law_kind"]
theorem scAny : FnScope N37 ["_law_bag_here", "_law_many", "_law_calls"] (defScope (top 37)) := ⟨rfl, rfl, rfl, by decide +kernel, rfl, by decide +kernel, by decide +kernel⟩
theorem d_any_calls (T : Txt K mg) : Dfn P w K mg base 2 "_law_any_calls" ["_law_bag_here", "_law_many", "_law_calls"] spPaths := by
  refine mk_dfn (j := 21) T rfl scAny (fun vs H Q E h => ?_) (fun _ _ _ _ _ _ us hl => match us, hl with | [_, _, _], _ => rfl) (fun cdv A outer s H vs Q E hr h => ?_)
  · obtain ⟨_, _, _, _, rfl, _⟩ := h
    rfl
  · obtain ⟨Hc, a, m, n, rfl, B, m1, m6, n1, n8, kk⟩ := h
    refine ⟨_, (pss_cons (ps_set (i := 3) scAny.nd rfl (by first | exact Or.inl rfl | exact Or.inr rfl) (pe_lst pa_nil))
      (pss_cons (ps_for PassesOwn.never rfl (pi_range1 (by rfl) (T.free "range") (pa_cons (pe_op op_add pe_int (pe_dfn (d_take T) (hr.mono (by decide)) (pa_cons (pv 0) (pa_cons (pv 2) pa_nil)))) pa_nil)) (pg_name (i := 4) scAny.nd rfl (by first | exact Or.inl rfl | exact Or.inr rfl)) (pss_cons (ps_setLc (i := 5) (own := [("_law_kind", 6)]) rfl scAny.nd rfl (by rfl) (sw_true (by rfl) (by rfl) (by rfl) (by rfl)) (pi_range1 (by rfl) (T.free "range") (pa_cons (pv 1) pa_nil)) (blkOk_by (N := N37) (sc := defScope (top 37)) (by decide +kernel)) (fun _ _ _ _ _ => (pg_name (i := 6) scAny.nd rfl (by first | exact Or.inl rfl | exact Or.inr rfl))) (fun _ _ _ _ _ => (pts_one (pt_cmpR op_eq (pe_dfn (d_take T) (hr.mono (by decide)) (pa_cons (pv 0) (pa_cons pe_int pa_nil))) pe_int (nomark _)))) (fun _ _ _ _ _ => (pv 6)))
        (pss_one (ps_expr (pe_bm PySem.F.plainAttrs_list PySem.F.slot_list_append PySem.F.type_list_append mt_append (pv 3) (pa_cons (pe_tupleOf (by rfl) (T.free "tuple") (pe_ifExp (pt_cmpR (op_neD hr.units) (pv 5) (pe_lst pa_nil) (nomark _)) (pv 5) (pe_lst (pa_cons (pe_dfn (d_take T) (hr.mono (by decide)) (pa_cons (pv 0) (pa_cons (pv 1) pa_nil))) pa_nil)))) pa_nil))))))
      (pss_one (ps_ret (pv 3))))), ?_⟩
    have W := bagW a
    refine w_set (P := isL Hc []) (ewL W (el_lst ea_nil (by simp))) B (fun v Hc1 H1 e1 B1 ⟨p, np, ev, hp⟩ => ?_)
    subst ev
    refine w_forRB (PL := fun us _ => ∃ k : Nat, us = [.int (k : Int)] ∧ 1 ≤ k ∧ k ≤ n) ((ewa_one (ew_op (P := fun v _ => ∃ k : Nat, v = .int (k : Int) ∧ 1 ≤ k ∧ k ≤ n) (P1 := isV (.int 1)) (P2 := fun _ v _ => ∃ r, v = .int r ∧ 0 ≤ r ∧ r < n) (ew W ev_c) (fun x H2 e2 _ => ew_take (m := n) (ew W (ev_var rfl)) (fun H3 _ => ew W (ev_var rfl)) (by omega) (by omega)) (fun x y H2 H3 e2 ex e3 ⟨r, ey, r0, r1⟩ H4 w4 Q q => ⟨1, r, ex, ey, q _ H3 H4 (Ex.refl _) w4 ⟨(1 + r).toNat, by rw [Int.toNat_of_nonneg (by omega)], by omega, by omega⟩⟩))).imp fun us H' _ ⟨x, eu, k, ex, h⟩ => ⟨k, by rw [eu, ex], h⟩) B1 (fun us Hc2 H2 e2 B2 ⟨k, eu, k1, kn⟩ => ?_)
    subst eu
    refine w_forR (n := k) (Pv := fun i σ' Hk => ∃ u c, σ' = [some (.ref a), some (.int m), some (.int n), some (.ref p), u, c, none] ∧ Ex Hc Hk ∧ ∃ ps cs, Hk p = some (.lst (ps.map V.ref)) ∧ Each (TupIAt Hk) ps cs ∧ cs.length = i ∧ ∀ c ∈ cs, KH.CallOk m c) W B2 ewa_cs (by omega) (fun Hk e => ⟨none, none, rfl, e1.trans (e2.trans e), [], [], e _ _ (e2 _ _ hp), .nil, rfl, fun _ h => by cases h⟩) (fun i σ' Hk H' hi ⟨u, c, eσ, e, ps, cs, hpp, hps, lcs, hcs⟩ wk => ?_) (fun σ' Hk H' ⟨u, c, eσ, e, ps, cs, hpp, hps, lcs, hcs⟩ wk => ?_)
    · subst eσ
      refine w_set (P := MadeL Hk (fun acc _ => ∃ ks : List Int, acc = ks.map V.int ∧ KH.Asc ks ∧ ∀ x ∈ ks, 0 ≤ x ∧ x < (m : Int))) (ew_lcR (n := m) (PA := fun i acc _ => ∃ ks : List Int, acc = ks.map V.int ∧ KH.Asc ks ∧ ∀ x ∈ ks, 0 ≤ x ∧ x < (i : Int)) W (ewa_of W (ea_cons (ev_var rfl) ea_nil)) (by omega) (fun _ => rfl) (fun _ _ _ _ _ h => h) (fun _ _ => ⟨[], rfl, by simp, fun _ h => by cases h⟩) (fun j acc Hj hj ej ⟨ks, eks, asc, rk⟩ => ?_)) wk (fun v Hk1 H3 e3 B3 ⟨q, xs, nq, ev, hq, ks, exs, asc, rk⟩ => ?_)
      · refine (ewt_T (PB := fun _ _ => True) (ew_op (P := fun v _ => ∃ b, v = .bl b ∧ True) (P1 := fun v _ => ∃ r, v = .int r ∧ 0 ≤ r ∧ r < 2) (P2 := fun _ => isV (.int 0)) (ew_take (m := 2) (ew W (ev_var rfl)) (fun H3 _ => ew W ev_c) (by omega) (by omega)) (fun x H3 _ _ => ew W ev_c) (fun x y H3 H4 e3 ⟨r, ex, _⟩ e4 ey => by
          rw [ex, show y = V.int 0 from ey]
          exact rw_imp (rw_of W (rv_eq rfl)) fun v H' _ ev => ⟨_, ev, trivial⟩))).imp fun b H3 e3 _ => ?_
        cases b with
        | true => exact iteT ((ew W (v := .int (j : Int)) (ev_var rfl)).imp fun v H' _ ev => ⟨ks ++ [(j : Int)], by rw [eks, show v = V.int j from ev, List.map_append]; rfl, List.pairwise_append.mpr ⟨asc, by simp, fun x hx y hy => by
            have := rk x hx
            have ey : y = j := by simpa using hy
            omega⟩, fun x hx => (List.mem_append.mp hx).elim (fun h => by have := rk x h; omega) (fun h => by
            have : x = j := by simpa using h
            omega)⟩)
        | false => exact iteF ⟨ks, eks, asc, fun x hx => by have := rk x hx; omega⟩
      · subst ev exs
        have hpp3 := e3 _ _ hpp
        refine seq_last (w_app (P := fun v H' => ∃ t c, v = .ref t ∧ TupIAt H' t c ∧ KH.CallOk m c) W B3 (ev_var rfl) hpp3 ((ew_tupB (PL := fun xs _ => ∃ c : List Int, xs = c.map V.int ∧ KH.CallOk m c) W (ew_if (b := !decide (ks = [])) (ewT W (et_test (ev_neNil (ev_var rfl) hq))) (fun hb H4 e4 => (ew W (ev_var rfl)).imp fun v H' e5 ev => ⟨q, _, ev, e5 _ _ (e4 _ _ hq), ks, rfl, by simpa using hb, asc, rk⟩)
            (fun hb H4 e4 => (ew_lst1 (P1 := fun v _ => ∃ r, v = .int r ∧ 0 ≤ r ∧ r < m) W (ew_take (m := m) (ew W (ev_var rfl)) (fun H5 _ => ew W (ev_var rfl)) (by omega) (by omega))).imp fun v H' _ ⟨p1, x, H5, _, ev, hp1, ⟨r, ex, r0, r1⟩, _, _⟩ => ⟨p1, _, ev, hp1, [r], by rw [ex]; rfl, by simp, by simp, fun y hy => by
              have : y = r := by simpa using hy
              omega⟩))).imp fun v H' _ ⟨t, xs, H5, _, ev, ht, ⟨c, ec, okc⟩, _, _⟩ => ⟨t, c, ev, by show H' t = some (.tup (c.map V.int)); rw [← ec]; exact ht, okc⟩) (by rw [List.length_map, hps.length, lcs]; omega) (fun v Hk2 H4 e4 B4 ⟨t, c2, ev, ht, okc⟩ => ?_))
        subst ev
        have hpp4 := e4 _ _ hpp3
        have te := TEx.list (H := Hk2) (ys := ps.map V.ref ++ [V.ref t]) hpp4
        refine ⟨_, W.set (o' := .lst (ps.map V.ref ++ [V.ref t])) B4 hpp4 (fun _ z => by cases z), _, _, rfl, Ex.mut (e.trans (e3.trans e4)) np, ps ++ [t], cs ++ [c2], by rw [upd_same, List.map_append]; rfl, ((hps.imp fun p c g => te _ _ (e4 _ _ (e3 _ _ g))).app (.cons (te _ _ ht) .nil)), by rw [List.length_append, lcs]; rfl, fun c hc => (List.mem_append.mp hc).elim (hcs c) (fun h => by rw [show c = c2 by simpa using h]; exact okc)⟩
    · subst eσ
      exact ⟨_, rfl, kk _ Hk H' e wk ⟨p, ps, cs, rfl, hpp, hps, ⟨fun z => by rw [z] at lcs; simp at lcs; omega, hcs⟩, by omega⟩⟩
end
end KK
set_option maxHeartbeats 4000000
/-! _law_forks. -/
namespace KK
open PySem PySem.Spec PyProof.Rows L2 Evl
abbrev Fk := List Int × List Int × Int × Int
def FkAt (H : Hp) (q : Addr) (z : Fk) : Prop := ∃ o1 o2, H q = some (.tup [.ref o1, .ref o2, .int z.2.2.1, .int z.2.2.2]) ∧ TupIAt H o1 z.1 ∧ TupIAt H o2 z.2.1
def dF (z : Fk) : PyData := .tuple [dI z.1, dI z.2.1, .int z.2.2.1, .int z.2.2.2]
theorem FkAt.tex {H H' : Hp} {q : Addr} {z : Fk} (e : TEx H H') (h : FkAt H q z) : FkAt H' q z := by
  obtain ⟨o1, o2, h1, h2, h3⟩ := h
  exact ⟨o1, o2, e _ _ h1, e _ _ h2, e _ _ h3⟩
def FInv (H : Hp) (p : Addr) (n : Nat) : Prop := ∃ qs zs, H p = some (.lst (qs.map V.ref)) ∧ Each (FkAt H) qs zs ∧ zs.length ≤ n
theorem FInv.ex {H H' : Hp} {p : Addr} {n n' : Nat} (e : Ex H H') (l : n ≤ n') (h : FInv H p n) : FInv H' p n' := by
  obtain ⟨qs, zs, h1, h2, h3⟩ := h
  exact ⟨qs, zs, e _ _ h1, h2.imp fun a z g => g.tex (.of e), Nat.le_trans h3 l⟩
theorem alike_F (z z' : Fk) : PySem.W.alike (dF z) (dF z') = true := by
  unfold dF
  rw [PySem.W.alike, PySem.W.alikeAll, PySem.W.alikeAll, PySem.W.alikeAll, PySem.W.alikeAll, alike_I, alike_I]
  simp [PySem.W.alike, PySem.W.alikeAll]
theorem depth_F (z : Fk) : (dF z).depth = 2 := by
  unfold dF
  rw [PyData.depth, PyData.depthAll, PyData.depthAll, PyData.depthAll, PyData.depthAll, depth_I, depth_I]
  simp [PyData.depth, PyData.depthAll]
theorem can_F (z : Fk) : (dF z).canLay0 = true := by
  unfold dF
  rw [PyData.canLay0, PyData.canLayAll0, PyData.canLayAll0, PyData.canLayAll0, PyData.canLayAll0, can_I, can_I]
  simp [PyData.canLay0, PyData.canLayAll0]
theorem dp_F {K : PySem.W.Frag} {H : Hp} {q : Addr} {z : Fk} (h : FkAt H q z) : Dp K H (.ref q) (dF z) := by
  obtain ⟨o1, o2, h1, h2, h3⟩ := h
  exact .tup (.of h1) (.cons (dp_I (.of h2)) (.cons (dp_I (.of h3)) (.cons (.int _) (.cons (.int _) .nil))))
theorem cut_from {xs : List V} {i : Nat} (h : i < xs.length) : HT.sIx xs.length 0 (some ((i : Int) + 1)) = i + 1 ∧ cutV xs (some ((i : Int) + 1)) none = xs.drop (i + 1) := by
  have e : HT.sIx xs.length 0 (some ((i : Int) + 1)) = i + 1 := by
    have h0 : ¬ ((i : Int) + 1 < 0) := by omega
    simp [HT.sIx, h0]
    omega
  refine ⟨e, ?_⟩
  unfold cutV
  rw [e]
  have e2 : HT.sIx xs.length xs.length none = xs.length := by simp [HT.sIx]
  rw [e2]
  exact List.take_of_length_le (by rw [List.length_drop]; exact Nat.le_refl _)
theorem each_pairs {α : Type} {R : Addr → α → Prop} {f : α → PyData} : ∀ {ps : List Addr} {xs : List α}, Each R ps xs → ∃ zs : List (V × PyData), zs.map (·.1) = ps.map V.ref ∧ zs.map (·.2) = xs.map f ∧ ∀ z ∈ zs, ∃ p x, R p x ∧ z = (V.ref p, f x)
  | _, _, .nil => ⟨[], rfl, rfl, fun _ h => by cases h⟩
  | p :: _, x :: _, .cons h r => by
    obtain ⟨zs, e1, e2, k⟩ := each_pairs (f := f) r
    refine ⟨(V.ref p, f x) :: zs, by simp [e1], by simp [e2], fun z hz => ?_⟩
    rcases List.mem_cons.mp hz with e | m
    · exact ⟨p, x, h, e⟩
    · exact k z m
theorem dpAll_of {K : PySem.W.Frag} {H : Hp} : ∀ {zs : List (V × PyData)}, (∀ z ∈ zs, Dp K H z.1 z.2) → DpAll K H (zs.map (·.1)) (zs.map (·.2))
  | [], _ => .nil
  | z :: r, h => .cons (h z (by simp)) (dpAll_of fun y hy => h y (by simp [hy]))
theorem rv_niL_T {K : PySem.W.Frag} {H : Hp} {p : Addr} {x : V} {xs : List V} (h : SqT K H p xs) (hx : flatV x = true) (ha : xs.all flatV = true) : RV (rIn K true) x (.ref p) H (.bl (!inV x xs)) := rv_niT h hx ha
theorem w_extend {K : PySem.W.Frag} {H : Hp} {σ : L2.St} {te : TE} {D : Ends} {j : Nat} {p : Addr} {xs : List V} {P : V → Hp → Prop} (hσ : σ[j]? = some (some (.ref p))) (hp : H p = some (.lst xs)) (h : EW Ex te σ H P) (k : ∀ v Hc' H', Ex H Hc' → Ex Hc' H' → P v Hc' → rExtend (.ref p) [v] H' fun _ H2 => D.nx σ H2) :
    tDrop (tBM K "list" rExtend (tVar j) (tCons te tNil)) D σ H := ⟨_, hσ, .inl ⟨rfl, _, .of hp⟩, h H (Ex.refl H) _ fun v Hc' H' e w p => k v Hc' H' e w p⟩
theorem each_map {α β : Type} {R : Addr → List V → Prop} {S : Addr → β → Prop} {f : α → List V} {g : α → β} {l : List α} : ∀ {ps : List Addr}, Each R ps (l.map f) → (∀ q a, R q (f a) → S q (g a)) → Each S ps (l.map g) := by
  induction l with
  | nil => intro ps h _; cases h; exact .nil
  | cons a r ih =>
    intro ps h k
    cases h with
    | cons h1 h2 => exact .cons (k _ _ h1) (ih h2 k)
/-- data stay -/
theorem Dp.grow {K : PySem.W.Frag} {H H' : Hp} (e : Ex H H') : ∀ (d : PyData) (v : V), Dp K H v d → Dp K H' v d := fun d v h =>
  Dp.rec (motive_1 := fun v d _ => Dp K H' v d) (motive_2 := fun vs ds _ => DpAll K H' vs ds) .non (fun b => .bl b) (fun i => .int i) (fun x => .str x) (fun hs _ ih => .lst (ex_l e hs) ih) (fun hs _ ih => .tup (ex_t e hs) ih) .nil (fun _ _ a b => .cons a b) h
section
variable {P : Program} {w : World} {K : PySem.W.Frag} {mg : Str → Option Value} {base : Heap}
def spForks (K : PySem.W.Frag) : Sp := fun vs H Q _ => ∃ (h e f : Addr) (ps : List Addr) (cs : List (List Int)), vs = [.ref h] ∧ H h = some (.tup [.ref e, .ref f]) ∧ H f = some (.lst (ps.map V.ref)) ∧ Each (TupIAt H) ps cs ∧ cs.length ≤ 40 ∧ (∀ c ∈ cs, c.length ≤ 6) ∧
  ∀ v H' ds, Ex H H' → Dp K H' v (.list ds) → SeqAt.shaped (.list ds) = true → Q v H'
abbrev N39 : List Str := ["_law_house_here", "_law_found", "_law_one_here", "_law_other", "_law_at", "_law_kind", "_law_behind"]
theorem scForks : FnScope N39 ["_law_house_here"] (defScope (top 39)) := ⟨rfl, rfl, rfl, by decide +kernel, rfl, by decide +kernel, by decide +kernel⟩
theorem d_forks (T : Txt K mg) : Dfn P w K mg base 1 "_law_forks" ["_law_house_here"] (spForks K) := by
  refine mk_dfn (j := 23) T rfl scForks (fun vs H Q E h => ?_) (fun _ _ _ _ _ _ us hl => match us, hl with | [_], _ => rfl) (fun cdv A outer s H vs Q E hr h => ?_)
  · obtain ⟨_, _, _, _, _, rfl, _⟩ := h
    rfl
  · obtain ⟨h, em, f, ps, cs, rfl, hh, hf, hps, lcs, l6, kk⟩ := h
    refine ⟨_, (pss_cons (ps_set (i := 1) scForks.nd rfl (by first | exact Or.inl rfl | exact Or.inr rfl) (pe_lst pa_nil))
      (pss_cons (ps_for PassesOwn.never rfl (pi_list (pe_ix ix_tup (pv 0) pe_int (fun _ _ => rfl))) (pg_name (i := 2) scForks.nd rfl (by first | exact Or.inl rfl | exact Or.inr rfl)) (pss_one (ps_for PassesOwn.never rfl (pi_list (pe_ix ix_tup (pv 0) pe_int (fun _ _ => rfl))) (pg_name (i := 3) scForks.nd rfl (by first | exact Or.inl rfl | exact Or.inr rfl)) (pss_one (ps_for PassesOwn.never rfl (pi_enumT (T.free "enumerate") (pa_cons (pv 2) pa_nil)) (pg_tup rfl (pgs_cons (pg_name (i := 4) scForks.nd rfl (by first | exact Or.inl rfl | exact Or.inr rfl)) (pgs_cons (pg_name (i := 5) scForks.nd rfl (by first | exact Or.inl rfl | exact Or.inr rfl)) pgs_nil))) (pss_one (ps_if (pt_cmpR op_in_seq (pv 5) (pv 3) rfl) (pss_one (ps_expr (pe_bm PySem.F.plainAttrs_list PySem.F.slot_list_extend PySem.F.type_list_extend mt_extend (pv 1) (pa_cons (pe_lc (own := [("_law_behind", 6)]) rfl scForks.nd (pi_tup (pe_slice sl_tupA (pv 2) (po_some (pe_op op_add (pv 4) pe_int)) po_none)) (blkOk_by (N := N39) (sc := defScope (top 39)) (by decide +kernel)) (fun _ _ _ _ _ => (pg_name (i := 6) scForks.nd rfl (by first | exact Or.inl rfl | exact Or.inr rfl))) (fun _ _ _ _ _ => (pts_one (pt_cmpR (show OpR _ _ (rIn K true) from op_notIn_seq) (pv 6) (pv 3) rfl))) (fun _ _ _ _ _ => (pe_tup (pa_cons (pv 2) (pa_cons (pv 3) (pa_cons (pv 5) (pa_cons (pv 6) pa_nil))))))) pa_nil)))) pss_nil)))))))
      (pss_one (ps_ret (pe_callB (cr_sortedD hr.units) (by rfl) (T.free "sorted") (by decide +kernel) (pa_cons (pv 1) pa_nil)))))), ?_⟩
    have lps := hps.length
    refine w_set (P := isL H []) (ewL pureW (el_lst ea_nil (by simp))) (Ex.refl H) (fun v Hc1 H1 e1 w1 ⟨p, np, ev, hp⟩ => ?_)
    subst ev
    refine w_forL (a := f) (xs := ps.map V.ref) (Pv := fun i σ' Hk => ∃ b c d e, σ' = [some (.ref h), some (.ref p), b, c, d, e, none] ∧ Ex H Hk ∧ FInv Hk p (i * 4000)) pureW w1 (ew pureW (ev_op (ev_var rfl) (ev_c (v := .int 1)) (rv_ixT (.of (e1 _ _ hh)) rfl))) (fun Hk e => ⟨_, _, _, _, rfl, e1.trans e, [], [], e _ _ hp, .nil, Nat.zero_le _⟩) (fun i σ' Hk ⟨_, _, _, _, _, e, _⟩ => .of (e _ _ hf)) (fun i x σ' Hk H' hx ⟨b, c, d, e', eσ, e, fi⟩ wk => ?_) (fun σ' Hk H' ⟨b, c, d, e', eσ, e, fi⟩ wk => ?_)
    · subst eσ
      rw [List.getElem?_map] at hx
      obtain ⟨q1, hq1, rfl⟩ := Option.map_eq_some_iff.mp hx
      obtain ⟨c1, hc1, ht1⟩ := hps.get hq1
      have l1 := l6 c1 (List.mem_of_getElem? hc1)
      refine seq_last (w_forL (a := f) (xs := ps.map V.ref) (Pv := fun j σ' Hl => ∃ c d e, σ' = [some (.ref h), some (.ref p), some (.ref q1), c, d, e, none] ∧ Ex H Hl ∧ FInv Hl p (i * 4000 + j * 50)) pureW wk (ew pureW (ev_op (ev_var rfl) (ev_c (v := .int 1)) (rv_ixT (.of (e _ _ hh)) rfl))) (fun Hl e2 => ⟨_, _, _, rfl, e.trans e2, fi.ex e2 (by omega)⟩) (fun j σ' Hl ⟨_, _, _, _, e, _⟩ => .of (e _ _ hf)) (fun j x σ' Hl H2 hx2 ⟨c, d, e', eσ, e2, fi2⟩ wl => ?_) (fun σ' Hl H2 ⟨c, d, e', eσ, e2, fi2⟩ wl => ?_))
      · subst eσ
        rw [List.getElem?_map] at hx2
        obtain ⟨q2, hq2, rfl⟩ := Option.map_eq_some_iff.mp hx2
        obtain ⟨c2, hc2, ht2⟩ := hps.get hq2
        have lj : j < 40 := by have := (List.getElem?_eq_some_iff.mp hc2).1; omega
        have li : i < 40 := by have := (List.getElem?_eq_some_iff.mp hc1).1; omega
        have e3 := e2.trans wl
        refine seq_last (r_forE (K := K) (a := q1) (xs := c1.map V.int) (fun l σ' H' => ∃ d e, σ' = [some (.ref h), some (.ref p), some (.ref q1), some (.ref q2), d, e, none] ∧ Ex H H' ∧ FInv H' p (i * 4000 + j * 50 + l * 7)) rfl ⟨_, _, rfl, e3, fi2.ex wl (by omega)⟩ (fun l σ' H' ⟨_, _, _, e, _⟩ => .of (e _ _ ht1)) (fun l x σ' H' t hx3 ⟨d, e', eσ, e4, fi3⟩ nt => ?_) (fun σ' H' ⟨d, e', eσ, e4, fi3⟩ => ?_))
        · subst eσ
          rw [List.getElem?_map] at hx3
          obtain ⟨k, hk, rfl⟩ := Option.map_eq_some_iff.mp hx3
          have ll : l < c1.length := (List.getElem?_eq_some_iff.mp hk).1
          have e5 := e4.trans (Ex.new (o := .tup [.int (l : Nat), .int k]) nt)
          have fi4 := fi3.ex (Ex.new (o := .tup [.int (l : Nat), .int k]) nt) (Nat.le_refl _)
          generalize upd H' t (.tup [.int (l : Nat), .int k]) = H5 at e5 fi4
          refine w_if1 (ewT pureW (et_test (ev_op (ev_var rfl) (ev_var rfl) (rv_intT (.of (e5 _ _ ht2)))))) (Ex.refl H5) (fun Hc6 H6 e6 w6 _ => ?_) (fun Hc6 H6 e6 w6 _ => ⟨_, _, rfl, e5.trans (e6.trans w6), fi4.ex (e6.trans w6) (by omega)⟩)
          have e7 := e5.trans (e6.trans w6)
          obtain ⟨qs, zs, h1, h2, h3⟩ := fi4.ex (e6.trans w6) (Nat.le_refl _)
          have lc : EW Ex _ [some (.ref h), some (.ref p), some (.ref q1), some (.ref q2), some (.int (l : Nat)), some (.int k), none] H6 (isLU H6 (((c1.drop (l + 1)).filter fun b => !decide (b ∈ c2)).map fun b => [.ref q1, .ref q2, .int k, .int b])) :=
            ew_lcbT (K := K) (tl := tSl (rSlA K) (tVar 2) (tPart (tOp (rI0 fun i j => .int (i + j)) (tVar 4) (tC (.int 1)))) tNoPart) (g := gName 6) (tt := tTest (tOp (rIn K true) (tVar 6) (tVar 3))) (te := tTup (tCons (tVar 2) (tCons (tVar 3) (tCons (tVar 5) (tCons (tVar 6) tNil))))) (vs := [6])
              (P := isU H6 ((c1.drop (l + 1)).map V.int)) (fun H1 w1 Q q => ⟨_, rfl, _, rfl, _, _, rfl, rfl, _, rfl, q1, c1.map V.int, rfl, .of (w1 _ _ (e7 _ _ ht1)), (fun z => by
                have := z.1
                rw [(cut_from (xs := c1.map V.int) (by rw [List.length_map]; exact ll)).1] at this
                cases this), fun _ r nr => q (.ref r) _ _ (Ex.new (fresh_back w1 nr)) (pureW.add w1 nr (Ex.new nr) upd_same) ⟨r, fresh_back w1 nr, rfl, by rw [upd_same, (cut_from (by rw [List.length_map]; exact ll)).2, List.map_drop]⟩⟩)
              fun v H1 e8 ⟨t2, _, ev, ht⟩ => by
                rw [ev]
                exact (ew_fmTU (K := K) (zs := c1.drop (l + 1)) (gv := V.int) (sg := fun b => [some (.ref h), some (.ref p), some (.ref q1), some (.ref q2), some (.int (l : Nat)), some (.int k), some (.int b)]) pureW (.of ht) (by rw [List.length_drop]; omega) (fun y _ H' k _ g => g) (fun _ _ => rfl) (fun b hb Hk ek => et_test (ev_is (ev_op (ev_var rfl) (ev_var rfl) (rv_niL_T (.of (ek _ _ (e8 _ _ (e7 _ _ ht2)))) rfl (flat_ints c2))) (by rw [inV_int])))
                  (fun b hb Hk ek _ => eu_tup (ea_cons (ev_var rfl) (ea_cons (ev_var rfl) (ea_cons (ev_var rfl) (ea_cons (ev_var rfl) ea_nil)))) (by simp))).imp fun v H' _ q => q.back e8
          refine w_extend (xs := qs.map V.ref) rfl h1 lc fun v Hc8 H8 e8 w8 ⟨pl, ps2, _, ev, hpl, hps2⟩ => ⟨p, pl, qs.map V.ref, ps2.map V.ref, rfl, by rw [ev], w8 _ _ (e8 _ _ h1), w8 _ _ hpl, ?_, ?_⟩
          · rw [List.length_map, List.length_map, h2.length, hps2.length, List.length_map]
            have := List.length_filter_le (fun b => !decide (b ∈ c2)) (c1.drop (l + 1))
            rw [List.length_drop] at this
            exact Nat.le_trans (by omega) (by decide : 200000 ≤ sizeLine)
          · have hp8 := w8 _ _ (e8 _ _ h1)
            have te := TEx.list (H := H8) (ys := qs.map V.ref ++ ps2.map V.ref) hp8
            have e9 := e7.trans (e8.trans w8)
            refine ⟨_, _, rfl, fun b u g => ?_, qs ++ ps2, zs ++ ((c1.drop (l + 1)).filter fun b => !decide (b ∈ c2)).map fun b => (c1, c2, k, b), by rw [upd_same, List.map_append], (h2.imp fun a z g => g.tex ((TEx.of (e8.trans w8)).trans te)).app ?_, ?_⟩
            · have ne : b ≠ p := ne_of_none g np
              rw [upd_ne ne]; exact e9 _ _ g
            · refine each_map (hps2.imp fun a xs g => te _ _ (w8 _ _ g)) fun q b g => ⟨q1, q2, g, te _ _ (e9 _ _ ht1), te _ _ (e9 _ _ ht2)⟩
            · rw [List.length_append, List.length_map]
              have := List.length_filter_le (fun b => !decide (b ∈ c2)) (c1.drop (l + 1))
              rw [List.length_drop] at this
              omega
        · subst eσ
          rw [List.length_map] at fi3
          exact ⟨H', Ex.refl _, _, _, _, rfl, e4, fi3.ex (Ex.refl _) (by omega)⟩
      · subst eσ
        rw [List.length_map, lps] at fi2
        exact ⟨Hl, wl, _, _, _, _, rfl, e2, fi2.ex (Ex.refl _) (by omega)⟩
    · subst eσ
      obtain ⟨qs, zs, h1, h2, h3⟩ := fi
      have hpk := wk _ _ h1
      obtain ⟨ws, ew1, ew2, hws⟩ := each_pairs (f := dF) h2
      refine ⟨_, rfl, p, ws, rfl, .of (by rw [ew1]; exact hpk), fun z hz => ?_, ?_, ?_, fun z hz => ?_, fun r nr => ?_⟩
      · obtain ⟨q, x, g, rfl⟩ := hws z hz
        exact Dp.grow wk _ _ (dp_F g)
      · rw [ew2]
        intro d hd d' hd'
        obtain ⟨z, _, rfl⟩ := List.mem_map.mp hd
        obtain ⟨z', _, rfl⟩ := List.mem_map.mp hd'
        exact alike_F z z'
      · rw [ew2]
        exact .inl fun d hd => by
          obtain ⟨z, _, rfl⟩ := List.mem_map.mp hd
          exact ⟨_, _, rfl⟩
      · obtain ⟨q, x, g, rfl⟩ := hws z hz
        show (dF x).depth ≤ 60
        rw [depth_F]; decide
      · have e9 := (e.trans wk).trans (Ex.new (o := .lst ((ws.mergeSort (PySem.W.dataLe false (·.2))).map (·.1))) nr)
        refine kk (.ref r) _ ((ws.mergeSort (PySem.W.dataLe false (·.2))).map (·.2)) e9 (.lst (.of upd_same) (dpAll_of fun z hz => ?_)) (shaped_of ?_ ?_)
        · obtain ⟨q, x, g, rfl⟩ := hws z ((List.mergeSort_perm _ _).mem_iff.mp hz)
          exact Dp.grow (wk.trans (Ex.new nr)) _ _ (dp_F g)
        · rw [PyData.canLay0]
          exact canAll (fun z : V × PyData => z.2) fun z hz => by
            obtain ⟨q, x, g, rfl⟩ := hws z ((List.mergeSort_perm _ _).mem_iff.mp hz)
            exact can_F x
        · rw [PyData.depth]
          have := depthAll_le (fun z : V × PyData => z.2) (n := 2) (l := ws.mergeSort (PySem.W.dataLe false (·.2))) fun z hz => by
            obtain ⟨q, x, g, rfl⟩ := hws z ((List.mergeSort_perm _ _).mem_iff.mp hz)
            show (dF x).depth ≤ 2
            rw [depth_F]; decide
          omega
end
end KK
set_option maxHeartbeats 4000000
/-! list(zip(a, b)), two lists: a new list of new pairs. -/
namespace KK
open PySem PySem.Spec PyProof.Rows L2
theorem zip_no_len : typeLookup (.type "zip") "__len__" = pure none := am_miss_of_fast (by decide +kernel)
theorem zip_no_hint : typeLookup (.type "zip") "__length_hint__" = pure none := am_miss_of_fast (by decide +kernel)
section
variable {prog : Program} {w : World} {A : Around} {R : Result → Shared → Prop} {z TI TO i1 i2 l1 l2 S : Addr} {xs ys : Array Value}
def ZSt (z TI TO i1 i2 l1 l2 S : Addr) (xs ys : Array Value) (i : Nat) (h : Heap) : Prop :=
  IsPair h TI (.ref i1) (.ref i2) ∧ h.IsListIter i1 l1 i ∧ h.IsListIter i2 l2 i ∧ h.IsList l1 xs ∧ h.IsList l2 ys ∧ (∃ u, h.get? TO = some u) ∧
    ((IsZip h z TI TO .none ∧ ∃ a b, IsPair h TO a b) ∨ ∃ T f oT, IsZipHeld h z TI TO T f ∧ h.get? T = some oT ∧ T ≠ z ∧ T ≠ i1 ∧ T ≠ i2 ∧ T ≠ S)
/-- S is apart from all of them -/
structure OffS (z TI TO i1 i2 l1 l2 S : Addr) : Prop where
  z : S ≠ z
  TI : S ≠ TI
  TO : S ≠ TO
  i1 : S ≠ i1
  i2 : S ≠ i2
  l1 : S ≠ l1
  l2 : S ≠ l2
theorem ZSt.frame {i : Nat} {h h' : Heap} (o : OffS z TI TO i1 i2 l1 l2 S) (st : ZSt z TI TO i1 i2 l1 l2 S xs ys i h) (hk : ∀ b u, b ≠ S → h.get? b = some u → h'.get? b = some u) : ZSt z TI TO i1 i2 l1 l2 S xs ys i h' := by
  obtain ⟨hTI, h1, h2, hl1, hl2, ⟨uTO, eTO⟩, hz⟩ := st
  refine ⟨hk _ _ o.TI.symm hTI, h1.at fun u e => hk _ u o.i1.symm e, h2.at fun u e => hk _ u o.i2.symm e, hl1.at fun u e => hk _ u o.l1.symm e, hl2.at fun u e => hk _ u o.l2.symm e, ⟨uTO, hk _ _ o.TO.symm eTO⟩, ?_⟩
  rcases hz with ⟨hz, a, b, hTO⟩ | ⟨T, f, oT, hz, hT, r1, r2, r3, r4⟩
  · exact .inl ⟨hk _ _ o.z.symm hz, a, b, hk _ _ o.TO.symm hTO⟩
  · exact .inr ⟨T, f, oT, hk _ _ o.z.symm hz, hk _ _ r4 hT, r1, r2, r3, r4⟩
/-- what the list holds after i turns: pairs at places from m on -/
def AccP (z TO i1 i2 S m : Addr) (xs ys : Array Value) (acc : Array Value) (i : Nat) (h : Heap) : Prop :=
  acc.size = i ∧ ∀ j, j < i → ∃ T x y, acc[j]? = some (.ref T) ∧ xs[j]? = some x ∧ ys[j]? = some y ∧ IsPair h T x y ∧ m ≤ T ∧ T ≠ z ∧ T ≠ TO ∧ T ≠ i1 ∧ T ≠ i2 ∧ T ≠ S ∧ ∀ k, k < i → k ≠ j → acc[k]? ≠ some (.ref T)
theorem AccP.keep {m i : Nat} {acc : Array Value} {h h' : Heap} (a : AccP z TO i1 i2 S m xs ys acc i h) (hk : ∀ c o, c ≠ z → c ≠ TO → c ≠ i1 → c ≠ i2 → c ≠ S → h.get? c = some o → h'.get? c = some o) : AccP z TO i1 i2 S m xs ys acc i h' :=
  ⟨a.1, fun j hj => by
    obtain ⟨T, x, y, e, ex, ey, p, q0, q1, q2, q3, q4, q5, q6⟩ := a.2 j hj
    exact ⟨T, x, y, e, ex, ey, hk _ _ q1 q2 q3 q4 q5 p, q0, q1, q2, q3, q4, q5, q6⟩⟩
theorem AccP.lt {m i : Nat} {acc : Array Value} {h : Heap} (a : AccP z TO i1 i2 S m xs ys acc i h) {j : Nat} {T : Addr} (hj : j < i) (e : acc[j]? = some (.ref T)) : T < h.objs.size := by
  obtain ⟨T', x, y, e', _, _, p, _⟩ := a.2 j hj
  rw [e] at e'
  injection e' with e'
  injection e' with e'
  rw [e']
  exact Heap.lt_size p
theorem AccP.push {m i : Nat} {acc : Array Value} {h : Heap} {T : Addr} {x y : Value} (a : AccP z TO i1 i2 S m xs ys acc i h) (ex : xs[i]? = some x) (ey : ys[i]? = some y) (p : IsPair h T x y) (hm : m ≤ T) (q1 : T ≠ z) (q2 : T ≠ TO) (q3 : T ≠ i1) (q4 : T ≠ i2) (q5 : T ≠ S)
    (new : ∀ j, j < i → acc[j]? ≠ some (.ref T)) : AccP z TO i1 i2 S m xs ys (acc.push (.ref T)) (i + 1) h := by
  refine ⟨by rw [Array.size_push, a.1], fun j hj => ?_⟩
  by_cases e : j = i
  · subst e
    refine ⟨T, x, y, by rw [← a.1]; simp, ex, ey, p, hm, q1, q2, q3, q4, q5, fun k hk ne => ?_⟩
    have hk2 : k < acc.size := by rw [a.1]; omega
    rw [Array.getElem?_push_lt hk2, ← Array.getElem?_eq_getElem hk2]
    exact new k (by omega)
  · have hj2 : j < i := by omega
    have hj3 : j < acc.size := by rw [a.1]; exact hj2
    obtain ⟨T', x', y', e', r⟩ := a.2 j hj2
    refine ⟨T', x', y', by rw [Array.getElem?_push_lt hj3, ← Array.getElem?_eq_getElem hj3]; exact e', r.1, r.2.1, r.2.2.1, r.2.2.2.1, r.2.2.2.2.1, r.2.2.2.2.2.1, r.2.2.2.2.2.2.1, r.2.2.2.2.2.2.2.1, r.2.2.2.2.2.2.2.2.1, fun k hk ne => ?_⟩
    by_cases ek : k = i
    · subst ek
      rw [← a.1, Array.getElem?_push_size]
      intro q
      injection q with q
      injection q with q
      exact new j hj2 (by rw [q]; exact e')
    · have hk2 : k < acc.size := by rw [a.1]; omega
      rw [Array.getElem?_push_lt hk2, ← Array.getElem?_eq_getElem hk2]
      exact r.2.2.2.2.2.2.2.2.2 k (by omega) ne
theorem zip_fill (hh : A.handled = none) (D : ZipApart z TI TO i1 i2 l1 l2) (o : OffS z TI TO i1 i2 l1 l2 S) (m : Addr) (res : Value) (hn : min xs.size ys.size ≤ 100000) :
    ∀ (k i : Nat) (s : Shared) (acc : Array Value) (c : Nat), i + k = min xs.size ys.size → ZSt z TI TO i1 i2 l1 l2 S xs ys i s.heap → s.heap.get? S = some { cls := .type "list", dict := none, data := .seq acc c, slots := #[] } → AccP z TO i1 i2 S m xs ys acc i s.heap → m ≤ s.heap.objs.size →
    (∀ h' acc' c', (∀ c o, c ≠ z → c ≠ TO → c ≠ i1 → c ≠ i2 → c ≠ S → s.heap.get? c = some o → h'.get? c = some o) → h'.get? S = some { cls := .type "list", dict := none, data := .seq acc' c', slots := #[] } → AccP z TO i1 i2 S m xs ys acc' (min xs.size ys.size) h' → R (.ok (.ret res)) { s with heap := h' }) →
    codeAny (model prog w) A (.builtin "list.extend.loop" ⟨[.ref S, .ref z, res], []⟩) R s
  | 0, i, s, acc, c, e, st, hS, ha, hm, hR => by
    have ei : i = min xs.size ys.size := by omega
    refine codeAny_builtin F.entry_extend_loop ?_
    rw [Around.under_plainId F.plain_extend_loop _]
    show wpAny _ A.in1 (pyNext (.ref z) >>= _) _ _ s
    obtain ⟨hTI, h1, h2, hl1, hl2, ⟨uTO, eTO⟩, hz⟩ := st
    have hend : xs[i]? = none ∨ ys[i]? = none := by
      rcases Nat.le_total xs.size ys.size with h | h
      · exact .inl (Array.getElem?_eq_none (by rw [ei, Nat.min_eq_left h]; exact Nat.le_refl _))
      · exact .inr (Array.getElem?_eq_none (by rw [ei, Nat.min_eq_right h]; exact Nat.le_refl _))
    have hA : A.in1.handled = none := hh
    have fin : ∀ h', (∀ c o, c ≠ z → c ≠ TO → c ≠ i1 → c ≠ i2 → c ≠ S → s.heap.get? c = some o → h'.get? c = some o) → h'.get? S = some { cls := .type "list", dict := none, data := .seq acc c, slots := #[] } → R (.ok (.ret res)) { s with heap := h' } := fun h' hk hS' =>
      hR h' acc c hk hS' (by rw [← ei]; exact ha.keep hk)
    rcases hz with ⟨hz, a, b, hTO⟩ | ⟨T, f, oT, hz, hT, r1, r2, r3, r4⟩
    · refine wpAny_bind (wpAny_pyNext_zip_end hA D hz hTI hTO h1 h2 hl1 hl2 hend fun h' hk => wpAny_pure (fin h' (fun c o a1 a2 a3 a4 _ e => hk c o a1 a2 a3 a4 e) (hk _ _ o.z o.TO o.i1 o.i2 hS)))
    · refine wpAny_bind (wpAny_pyNext_zip_end_held hA D hz hT hTI h1 h2 hl1 hl2 hend fun h' hk => wpAny_pure (fin h' (fun c o a1 _ a3 a4 _ e => hk c o a1 a3 a4 e) (hk _ _ o.z o.i1 o.i2 hS)))
  | k + 1, i, s, acc, c, e, st, hS, ha, hm, hR => by
    have hi : i < min xs.size ys.size := by omega
    have hix : i < xs.size := Nat.lt_of_lt_of_le hi (Nat.min_le_left ..)
    have hiy : i < ys.size := Nat.lt_of_lt_of_le hi (Nat.min_le_right ..)
    have ex := Array.getElem?_eq_getElem hix
    have ey := Array.getElem?_eq_getElem hiy
    refine codeAny_builtin F.entry_extend_loop ?_
    rw [Around.under_plainId F.plain_extend_loop _]
    show wpAny _ A.in1 (pyNext (.ref z) >>= _) _ _ s
    obtain ⟨hTI, h1, h2, hl1, hl2, ⟨uTO, eTO⟩, hz⟩ := st
    have lt : ∀ {c u}, s.heap.get? c = some u → s.heap.objs.size ≠ c := fun e => Nat.ne_of_gt (Heap.lt_size e)
    have nz : s.heap.objs.size ≠ z := by
      rcases hz with ⟨hz, _⟩ | ⟨_, _, _, hz, _⟩
      · exact lt hz
      · exact lt hz
    have n1 : s.heap.objs.size ≠ i1 := let ⟨_, e, _⟩ := h1; lt e
    have n2 : s.heap.objs.size ≠ i2 := let ⟨_, e, _⟩ := h2; lt e
    have go : ∀ h' : Heap, (s.heap.objs.size ≠ TO) → ZSt z TI TO i1 i2 l1 l2 S xs ys (i + 1) h' → IsPair h' s.heap.objs.size xs[i] ys[i] → h'.objs.size = s.heap.objs.size + 1 → (∀ c o, c ≠ z → c ≠ TO → c ≠ i1 → c ≠ i2 → s.heap.get? c = some o → h'.get? c = some o) →
        wpAny (model prog w) A.in1 (updateSeq S (·.push (.ref s.heap.objs.size)) >>= fun _ => again (.builtin "list.extend.loop" ⟨[.ref S, .ref z, res], []⟩)) (fun fin s' => match fin with | .done f => R (.ok f) s' | .again c' => c'.quiet = true ∧ codeAny (model prog w) A c' R s') (fun e s' => R (.error e) s') { s with heap := h' } := fun h' nTO st' p sz hk => by
      have hS' := hk _ _ o.z o.TO o.i1 o.i2 hS
      refine wpAny_bind ?_
      have kp : ∀ b u, b ≠ S → h'.get? b = some u → (h'.update S (Obj.mapSeq (·.push (Value.ref s.heap.objs.size)))).get? b = some u := fun b u hb e => (Heap.get?_update_other _ _ (Ne.symm hb)).trans e
      have ha' := (ha.keep fun c o a1 a2 a3 a4 _ e => hk c o a1 a2 a3 a4 e).push ex ey p hm nz nTO n1 n2 (Nat.ne_of_gt (Heap.lt_size hS)) fun j hj q => absurd (ha.lt hj q) (Nat.lt_irrefl _)
      refine wpAny_updateSeq hS' rfl (wpAny_pure ⟨plainId_quiet F.plain_extend_loop _, zip_fill hh D o m res hn k (i + 1) _ (acc.push (.ref s.heap.objs.size)) _ (by omega) (st'.frame o kp) (Heap.get?_update_self _ hS' rfl) (ha'.keep fun c u _ _ _ _ a5 e => kp c u a5 e) ?_ fun h'' acc' c' hk2 hS2 ha2 => ?_⟩) ?_ ?_
      · rw [Heap.size_update, sz]; exact Nat.le_succ_of_le hm
      · exact hR h'' acc' c' (fun c u a1 a2 a3 a4 a5 e => hk2 c u a1 a2 a3 a4 a5 (kp c u a5 (hk c u a1 a2 a3 a4 e))) hS2 ha2
      · rw [ha.1, sizeLine_eq]; omega
      · show (acc.push _).size ≤ sizeLine + 1
        rw [Array.size_push, ha.1, sizeLine_eq]; omega
    rcases hz with ⟨hz, a, b, hTO⟩ | ⟨T, f, oT, hz, hT, r1, r2, r3, r4⟩
    · refine wpAny_bind (wpAny_pyNext_zip_item D hz hTI hTO h1 h2 hl1 hl2 ex ey fun h' a1 a2 a3 a4 a5 a6 hk => ?_)
      exact go h' (lt hTO) ⟨hk _ _ D.TIz D.TITO D.TIi1 D.TIi2 hTI, a3, a4, hl1.at fun u e => hk _ u D.l1z D.l1TO D.l1i1 D.l1i2 e, hl2.at fun u e => hk _ u D.l2z D.l2TO D.l2i1 D.l2i2 e, ⟨_, a2⟩, .inr ⟨s.heap.objs.size, false, _, a1, a5, nz, n1, n2, Nat.ne_of_gt (Heap.lt_size hS)⟩⟩ a5 a6 hk
    · refine wpAny_bind (wpAny_pyNext_zip_item_held D hz hT hTI h1 h2 hl1 hl2 ex ey fun h' a1 a3 a4 a5 a6 hk => ?_)
      exact go h' (lt eTO) ⟨hk _ _ D.TIz D.TIi1 D.TIi2 hTI, a3, a4, hl1.at fun u e => hk _ u D.l1z D.l1i1 D.l1i2 e, hl2.at fun u e => hk _ u D.l2z D.l2i1 D.l2i2 e, ⟨_, hk _ _ D.TOz D.TOi1 D.TOi2 eTO⟩, .inr ⟨T, true, oT, a1, hk _ _ r1 r2 r3 hT, r1, r2, r3, r4⟩⟩ a5 a6 fun c u a1 _ a3 a4 e => hk c u a1 a3 a4 e
/-- list(z), z the zip just made -/
theorem call_list_zip {E : Value → Shared → Prop} {s : Shared} {Q : Value → Shared → Prop} (hh : A.handled = none) (D : ZipApart z TI TO i1 i2 l1 l2) (hz : IsZip s.heap z TI TO .none) (hTI : IsPair s.heap TI (.ref i1) (.ref i2)) (hTO : IsPair s.heap TO .none .none) (h1 : s.heap.IsListIter i1 l1 0) (h2 : s.heap.IsListIter i2 l2 0)
    (hl1 : s.heap.IsList l1 xs) (hl2 : s.heap.IsList l2 ys) (hn : min xs.size ys.size ≤ 100000)
    (h : ∀ h' acc' c', (∀ c o, c ≠ z → c ≠ TO → c ≠ i1 → c ≠ i2 → s.heap.get? c = some o → h'.get? c = some o) → h'.get? s.heap.objs.size = some { cls := .type "list", dict := none, data := .seq acc' c', slots := #[] } → AccP z TO i1 i2 s.heap.objs.size s.heap.objs.size xs ys acc' (min xs.size ys.size) h' → Q (.ref s.heap.objs.size) { s with heap := h' }) :
    wpAny (model prog w) A (call (.type "list") [.ref z]) Q E s := by
  have lt : ∀ {c u}, s.heap.get? c = some u → s.heap.objs.size ≠ c := fun e => Nat.ne_of_gt (Heap.lt_size e)
  have o : OffS z TI TO i1 i2 l1 l2 s.heap.objs.size := { z := lt hz, TI := lt hTI, TO := lt hTO, i1 := (let ⟨_, e, _⟩ := h1; lt e), i2 := (let ⟨_, e, _⟩ := h2; lt e), l1 := (let ⟨_, e, _⟩ := hl1; lt e), l2 := (let ⟨_, e, _⟩ := hl2; lt e) }
  refine callType_codes (Q₁ := fun obj s₁ => obj = .ref s.heap.objs.size ∧ s₁ = { s with heap := s.heap.push { cls := .type "list", data := .seq #[] } }) PySem.F.called_list (PySem.F.typeCall_list_1 _) PySem.F.entry_list_init
    (code_list_new _ ⟨rfl, rfl⟩) fun obj s₁ h₁ => ?_
  obtain ⟨rfl, rfl⟩ := h₁
  generalize hS0 : s.heap.objs.size = S at *
  have hS : (s.heap.push { cls := .type "list", data := .seq #[] }).get? S = some { cls := .type "list", data := .seq #[] } := by rw [← hS0]; exact Heap.get?_push_size _ rfl
  refine ⟨⟨_, hS, rfl⟩, PySem.F.args_list_init_2 _ _, ?_⟩
  have pk : ∀ b u, s.heap.get? b = some u → (s.heap.push { cls := .type "list", data := .seq #[] }).get? b = some u := fun b u e => Heap.get?_push_of_some _ e
  have hTy : ∀ (h : Heap) (tk : Nat), IsZip h z TI TO .none → ({ s with heap := h, toks := tk } : Shared).TypeIs (.ref z) "zip" := fun h tk e => ⟨_, e, rfl⟩
  show wpAny _ _ (do let old ← Builtin.List.listItems (.ref S); Builtin.List.listUpdate (.ref S) (fun _ => #[]); letGo old.toList.reverse; Builtin.List.listExtendWith (.ref S) (.ref z) .none) _ _ _
  refine wpAny_bind ?_
  unfold Builtin.List.listItems
  refine wpAny_bind (wpAny_seqItems hS rfl (wpAny_pure ?_))
  show wpAny _ _ (updateSeq S (fun _ => #[]) >>= fun _ => letGo (#[] : Array Value).toList.reverse >>= fun _ => Builtin.List.listExtendWith (.ref S) (.ref z) .none) _ _ _
  refine wpAny_bind (wpAny_updateSeq hS rfl ?_)
  have hS₂ := Heap.get?_update_self (Obj.mapSeq (fun _ => (#[] : Array Value))) hS rfl
  have oth : ∀ b u, b ≠ S → s.heap.get? b = some u → ((s.heap.push { cls := .type "list", data := .seq #[] }).update S (Obj.mapSeq (fun _ => (#[] : Array Value)))).get? b = some u :=
    fun b u hb e => (Heap.get?_update_other _ _ (Ne.symm hb)).trans (pk b u e)
  refine wpAny_bind (wpAny_letGo ?_)
  have sz1 : ((s.heap.push { cls := .type "list", data := .seq #[] }).update S (Obj.mapSeq (fun _ => (#[] : Array Value)))).objs.size = S + 1 := by rw [Heap.size_update, Heap.size_push, hS0]
  generalize (s.heap.push { cls := .type "list", data := .seq #[] }).update S (Obj.mapSeq (fun _ => (#[] : Array Value))) = hA at hS₂ oth sz1
  have hz1 := oth _ _ o.z.symm hz
  unfold Builtin.List.listExtendWith
  refine wpAny_bind (wpAny_typeOf (T := "zip") ⟨_, hz1, rfl⟩ ?_)
  have g1 : Builtin.List.listSameRef (.ref S) (.ref z) = false := by simp [Builtin.List.listSameRef, o.z]
  have g2 : (Value.type "zip" == Value.type "list") = false := by decide
  have g3 : (Value.type "zip" == Value.type "tuple") = false := by decide
  simp only [g1, g2, g3, Bool.or_false, Bool.false_eq_true, if_false]
  refine wpAny_bind (wpAny_pyIter_zip hz1 ?_)
  refine wpAny_bind (wpAny_holding ?_)
  unfold Builtin.List.listLengthHint
  refine wpAny_bind (wpAny_specialOf (T := "zip") ⟨_, hz1, rfl⟩ zip_no_len ?_)
  show wpAny _ _ (specialOf (Value.ref z) (Str.ofString "__length_hint__") >>= _) _ _ _
  refine wpAny_bind (wpAny_specialOf (T := "zip") ⟨_, hz1, rfl⟩ zip_no_hint ?_)
  refine wpAny_pure ?_
  show wpAny _ _ (rule "list.extend.makes-room" >>= fun _ => Builtin.List.listTouch (.ref S) >>= fun _ => again (.builtin "list.extend.loop" ⟨[.ref S, .ref z, .none], []⟩)) _ _ _
  refine wpAny_bind (wpAny_rule ?_)
  refine wpAny_bind ?_
  show wpAny _ _ (updateSeq S (·.push .none) >>= fun _ => updateSeq S (·.pop)) _ _ _
  refine wpAny_bind (wpAny_updateSeq hS₂ rfl ?_)
  have hS₃ := Heap.get?_update_self (Obj.mapSeq (·.push Value.none)) hS₂ rfl
  refine wpAny_updateSeq (hz := by seq_fits) hS₃ rfl ?_
  have hS₄ := Heap.get?_update_self (Obj.mapSeq (·.pop)) hS₃ rfl
  have oth2 : ∀ b u, b ≠ S → s.heap.get? b = some u → ((hA.update S (Obj.mapSeq (·.push Value.none))).update S (Obj.mapSeq (·.pop))).get? b = some u :=
    fun b u hb e => (Heap.get?_update_other _ _ (Ne.symm hb)).trans ((Heap.get?_update_other _ _ (Ne.symm hb)).trans (oth b u hb e))
  refine wpAny_pure ⟨plainId_quiet F.plain_extend_loop _, zip_fill (A := A.in1) hh D o S .none hn (min xs.size ys.size) 0 _ #[] _ (by omega) ⟨oth2 _ _ o.TI.symm hTI, h1.at fun u e => oth2 _ u o.i1.symm e, h2.at fun u e => oth2 _ u o.i2.symm e, hl1.at fun u e => oth2 _ u o.l1.symm e, hl2.at fun u e => oth2 _ u o.l2.symm e, ⟨_, oth2 _ _ o.TO.symm hTO⟩, .inl ⟨oth2 _ _ o.z.symm hz, _, _, oth2 _ _ o.TO.symm hTO⟩⟩ hS₄ ⟨rfl, fun j hj => absurd hj (Nat.not_lt_zero _)⟩ ?_ fun h' acc' c' hk hS' ha => ?_⟩
  · rw [Heap.size_update, Heap.size_update, sz1]; exact Nat.le_succ _
  · exact ⟨rfl, h h' acc' c' (fun c u a1 a2 a3 a4 e => by
      have e := (show s.heap.get? c = some u from e)
      have cS : c ≠ S := by rw [← hS0]; exact Nat.ne_of_lt (Heap.lt_size e)
      exact hk c u a1 a2 a3 a4 cS (oth2 c u cS e)) hS' ha⟩
end
end KK
namespace KK
open PySem PySem.Spec PyProof.Rows L2 Evl
/-- list(zip(a, b)) -/
def tListZip (K : PySem.W.Frag) (ta : TA) : TE := fun σ H Q => ta σ H fun vs H1 => ∃ a b xs ys, vs = [.ref a, .ref b] ∧ SqL K H1 a xs ∧ SqL K H1 b ys ∧ xs.length ≤ 1000 ∧ ∀ p ps H2, H1 p = none → Ex H1 H2 → H2 p = some (.lst (ps.map V.ref)) →
  EachT H2 ps ((xs.zip ys).map fun z => [z.1, z.2]) → Q (.ref p) H2
theorem each_of_get {R : Addr → List V → Prop} : ∀ {ps : List Addr} {xss : List (List V)}, ps.length = xss.length → (∀ (j : Nat) (p : Addr) (xs : List V), ps[j]? = some p → xss[j]? = some xs → R p xs) → Each R ps xss
  | [], [], _, _ => .nil
  | [], _ :: _, h, _ => by simp at h
  | _ :: _, [], h, _ => by simp at h
  | p :: ps, xs :: xss, h, k => .cons (k 0 p xs rfl rfl) (each_of_get (by simpa using h) fun j q ys h1 h2 => k (j + 1) q ys (by simpa using h1) (by simpa using h2))
theorem pe_listZip {X : Cx} {e e2 : Expr} {ta : TA} {p p2 pos pos2 : Pos} (hc : X.calm = true) (hgl : Gl X "list") (hml : X.mg "list" = none) (hgz : Gl X "zip") (hmz : X.mg "zip" = none) (ha : PA X [e, e2] ta)
    (hs : starEach [e, e2] X.env = (false, eval e X.env) :: starEach [e2] X.env := by rfl) (hpl : (backTo pos2 (starEach [e2] X.env)).any (·.1) = false := by rfl)
    (na : starEach [Expr.Call (.Name "zip" p2) [e, e2] [] pos2] X.env = (false, eval (.Call (.Name "zip" p2) [e, e2] [] pos2) X.env) :: starEach [] X.env := by rfl) :
    PE X (.Call (.Name "list" p) [.Call (.Name "zip" p2) [e, e2] [] pos2] [] pos) (tListZip X.K ta) := by
  refine ⟨fun pins s σ H Q I h => ?_⟩
  have hz : wpAny (model X.prog X.w) X.A (eval (.Call (.Name "zip" p2) [e, e2] [] pos2) X.env) (fun v s2 => ∃ s1 a b xs ys its its2 H1, v = .ref (s1.heap.objs.size + 4) ∧ Inv X pins σ H1 s1 ∧ SqL X.K H1 a xs ∧ SqL X.K H1 b ys ∧ Vals xs its ∧ Vals ys its2 ∧ s1.heap.IsList a its.toArray ∧ s1.heap.IsList b its2.toArray ∧ xs.length ≤ 1000 ∧
      (∀ p ps H2, H1 p = none → Ex H1 H2 → H2 p = some (.lst (ps.map V.ref)) → EachT H2 ps ((xs.zip ys).map fun z => [z.1, z.2]) → Q (.ref p) H2) ∧ ∃ h', s2 = { s1 with heap := h' } ∧ IsZip h' (s1.heap.objs.size + 4) (s1.heap.objs.size + 2) (s1.heap.objs.size + 3) .none ∧ IsPair h' (s1.heap.objs.size + 2) (.ref s1.heap.objs.size) (.ref (s1.heap.objs.size + 1)) ∧
      IsPair h' (s1.heap.objs.size + 3) .none .none ∧ h'.IsListIter s1.heap.objs.size a 0 ∧ h'.IsListIter (s1.heap.objs.size + 1) b 0 ∧ h'.objs.size = s1.heap.objs.size + 5 ∧ (∀ c o, s1.heap.get? c = some o → h'.get? c = some o)) X.xe s := by
    refine Call_ (ld_blt I hgz hmz PyProof.Rows.boot_zip (PyProof.Rows.callWith_type1 (thn (ha.run pos2 pins s σ H _ I h) fun us s1 ⟨vs, H1, I1, r1, q1⟩ => ?_) hs hpl))
    obtain ⟨a, b, xs, ys, ex, hqx, hqy, lx, q⟩ := q1
    subst ex
    cases r1 with
    | cons r rr =>
      cases rr with
      | cons r' rr =>
        cases rr
        cases r
        cases r'
        obtain ⟨its, rv, p1, _⟩ := I1.list hqx
        obtain ⟨its2, rv2, p2, _⟩ := I1.list hqy
        exact call_zip_2 p1.isList p2.isList fun h' hz hTI hTO h1 h2 hsz hk => ⟨s1, a, b, xs, ys, its, its2, H1, rfl, I1, hqx, hqy, rv, rv2, p1.isList, p2.isList, lx, q, h', rfl, hz, hTI, hTO, h1, h2, hsz, hk⟩
  refine Call_ (ld_blt I hgl hml boot_list (PyProof.Rows.callWith_type1 (args_cons (thn hz fun v s2 ⟨s1, a, b, xs, ys, its, its2, H1, ev, I1, hqx, hqy, rv, rv2, p1, p2, lx, q, h', es, hz, hTI, hTO, h1, h2, hsz, hk⟩ => args_nil ?_) na) na))
  subst ev es
  have la : a < s1.heap.objs.size := let ⟨_, e, _⟩ := p1; Heap.lt_size e
  have lb : b < s1.heap.objs.size := let ⟨_, e, _⟩ := p2; Heap.lt_size e
  have lx1 := rv.length
  have ly1 := rv2.length
  refine call_list_zip (xs := its.toArray) (ys := its2.toArray) (I1.ok.hd hc) (PySem.W.ktu_apart s1.heap.objs.size a b la lb) hz hTI hTO h1 h2 (p1.at fun u e => hk _ u e) (p2.at fun u e => hk _ u e) (by rw [List.size_toArray, List.size_toArray]; omega) fun h3 acc c' hk3 hS acc_ok => ?_
  have keep : ∀ c o, s1.heap.get? c = some o → h3.get? c = some o := fun c o e => by
    have lc := Heap.lt_size e
    exact hk3 c o (Nat.ne_of_lt (Nat.lt_of_lt_of_le lc (Nat.le_add_right _ _))) (Nat.ne_of_lt (Nat.lt_of_lt_of_le lc (Nat.le_add_right _ _))) (Nat.ne_of_lt lc) (Nat.ne_of_lt (Nat.lt_of_lt_of_le lc (Nat.le_add_right _ _))) (hk c o e)
  generalize hSd : ({ s1 with heap := h' } : Shared).heap.objs.size = S at *
  have eS : S = s1.heap.objs.size + 5 := hsz
  -- the addresses
  have ha1 : acc.toList = (acc.toList.map refAd).map Value.ref := by
    rw [List.map_map]
    refine (List.map_id _).symm.trans (List.map_congr_left fun v hv => ?_)
    obtain ⟨j, hj, e⟩ := List.mem_iff_getElem.mp hv
    obtain ⟨T, x, y, e2, _⟩ := acc_ok.2 j (by rw [← acc_ok.1]; simpa using hj)
    have : acc.toList[j]? = some (.ref T) := by rw [Array.getElem?_toList]; exact e2
    rw [List.getElem?_eq_getElem hj, e] at this
    injection this with this
    subst this
    rfl
  have hn : acc.toList.length = min its.length its2.length := by
    have := acc_ok.1
    rw [List.size_toArray, List.size_toArray] at this
    simpa using this
  generalize hL : acc.toList.map refAd = L at ha1
  have lL : L.length = min its.length its2.length := by rw [← hL, List.length_map]; exact hn
  have getL : ∀ j T, L[j]? = some T → ∃ x y, its[j]? = some x ∧ its2[j]? = some y ∧ IsPair h3 T x y ∧ S ≤ T ∧ T ≠ S ∧ ∀ k, k < min its.length its2.length → k ≠ j → L[k]? ≠ some T := fun j T hj => by
    have hj1 : j < min its.length its2.length := by rw [← lL]; exact (List.getElem?_eq_some_iff.mp hj).1
    obtain ⟨T', x, y, e2, ex, ey, pp, q0, _, _, _, _, q5, q6⟩ := acc_ok.2 j (by rw [List.size_toArray, List.size_toArray]; exact hj1)
    have e3 : acc.toList[j]? = some (.ref T') := by rw [Array.getElem?_toList]; exact e2
    rw [ha1, List.getElem?_map, hj] at e3
    injection e3 with e3
    injection e3 with e3
    subst e3
    refine ⟨x, y, by simpa using ex, by simpa using ey, pp, q0, q5, fun k hk ne hkT => q6 k (by rw [List.size_toArray, List.size_toArray]; exact hk) ne ?_⟩
    have : acc.toList[k]? = some (.ref T) := by rw [ha1, List.getElem?_map, hkT]; rfl
    rwa [Array.getElem?_toList] at this
  have nodup : L.Nodup := by
    rw [List.nodup_iff_pairwise_ne, List.pairwise_iff_getElem]
    intro i j hi hj hij e
    obtain ⟨_, _, _, _, _, _, _, k6⟩ := getL i L[i] (List.getElem?_eq_getElem hi)
    exact k6 j (by rw [← lL]; exact hj) (by omega) (by rw [List.getElem?_eq_getElem hj, e])
  have I2 : Inv X pins σ H1 { s1 with heap := h3 } := I1.kept (t' := s1.toks) keep
  have fr : ∀ {c : Addr}, s1.heap.objs.size ≤ c → H1 c = none := fun h => I1.hok.fresh h
  have I3 : Inv X pins σ (upd H1 S (.lst (L.map V.ref))) { s1 with heap := h3 } := I2.take (h' := h3) (t' := s1.toks) (fun b ob _ e => e) (I1.fpOk (by omega) (fr (by omega))) (show ObjOk X.prog X.w _ _ _ (.lst (L.map V.ref)) from ⟨by rw [List.length_map, lL, sizeLine_eq]; omega, L.map Value.ref, c', vals_refl L, by rw [← ha1, Array.toArray_toList]; exact hS⟩)
  obtain ⟨H2, I4, e4, tups⟩ := DX.takeT (P := fun T vs => ∃ j x y, L[j]? = some T ∧ xs[j]? = some x ∧ ys[j]? = some y ∧ vs = [x, y]) I1 L (upd H1 S (.lst (L.map V.ref))) I3 nodup fun T hT => by
    obtain ⟨j, hj, e⟩ := List.mem_iff_getElem.mp hT
    obtain ⟨u, v, eu, ev, pp, q0, q5, _⟩ := getL j T (by rw [List.getElem?_eq_getElem hj, e])
    have hjx : j < xs.length := by have := (List.getElem?_eq_some_iff.mp eu).1; omega
    have hjy : j < ys.length := by have := (List.getElem?_eq_some_iff.mp ev).1; omega
    obtain ⟨u', eu', ru⟩ := rv.get (List.getElem?_eq_getElem hjx)
    obtain ⟨v', ev', rw'⟩ := rv2.get (List.getElem?_eq_getElem hjy)
    rw [eu] at eu'
    rw [ev] at ev'
    injection eu' with eu'
    injection ev' with ev'
    subst eu' ev'
    exact ⟨by omega, by rw [upd_ne q5]; exact fr (by omega), [xs[j], ys[j]], ⟨j, _, _, by rw [List.getElem?_eq_getElem hj, e], List.getElem?_eq_getElem hjx, List.getElem?_eq_getElem hjy, rfl⟩, fun H2 => ⟨by show 2 ≤ sizeLine; decide, [u, v], .cons ru (.cons rw' .nil), ⟨_, pp, rfl, _, rfl⟩⟩⟩
  have eX : Ex H1 H2 := fun b o g => e4 b o (by rw [upd_ne (ne_of_none g (fr (by omega)))]; exact g)
  refine ⟨.ref S, H2, I4, rfl, q S L H2 (fr (by omega)) eX (e4 _ _ upd_same) (each_of_get ?_ fun j T vs h1 h2 => ?_)⟩
  · rw [lL, List.length_map, List.length_zip]; omega
  · obtain ⟨vs', ⟨j', x, y, e1, ex, ey, evs⟩, hT⟩ := tups T (List.mem_of_getElem? h1)
    obtain ⟨_, _, _, _, _, _, _, k6⟩ := getL j T h1
    have ej : j' = j := by
      by_cases e : j' = j
      · exact e
      · exact absurd e1 (k6 j' (by rw [← lL]; exact (List.getElem?_eq_some_iff.mp e1).1) e)
    subst ej
    rw [List.getElem?_map, List.getElem?_zip_eq_some (z := (x, y)) |>.mpr ⟨ex, ey⟩] at h2
    injection h2 with h2
    show H2 T = some (.tup vs)
    rw [hT, evs, ← h2]
end KK
set_option maxHeartbeats 4000000
/-! _law_named: a house. -/
namespace KK
open PySem PySem.Spec PyProof.Rows L2 Evl
def menuL : List Str := ["a", "b", "c", "d", "e", "ab", "ba", "zz", "call", "put", "drop", "kinds", "abcdef", "x", "zzzzzz"]
theorem menu_nodup : menuL.Nodup := by decide +kernel
theorem menu_name : ∀ z ∈ menuL, NameOk z := by
  have h : ∀ z ∈ menuL, 1 ≤ z.length ∧ z.length ≤ 6 ∧ ∀ c ∈ z.cps.toList, c ∈ letters.cps.toList := by decide +kernel
  exact fun z hz => h z hz
def toS : V → Str
  | .str i => i
  | _ => ""
theorem perm_strs {ys : List V} {is : List Str} (h : ys.Perm (is.map V.str)) : ∃ js : List Str, ys = js.map V.str ∧ js.Perm is := by
  refine ⟨ys.map toS, ?_, ?_⟩
  · rw [List.map_map]
    refine (List.map_id ys).symm.trans (List.map_congr_left fun x hx => ?_)
    obtain ⟨i, _, rfl⟩ := List.mem_map.mp (h.mem_iff.mp hx)
    rfl
  · have := h.map toS
    rw [List.map_map] at this
    have e : (List.map (toS ∘ V.str) is) = is := by
      have : (toS ∘ V.str) = id := rfl
      rw [this, List.map_id]
    rwa [e] at this
/-- the name of a number -/
def nmOf (ns : List Int) (js : List Str) : Int → Str := KH.toName ("" : Str) ns js
/-- the map's items -/
def nKvs (ns : List Int) (xs : List Str) : List (Key × V) := (ns.zip xs).map fun z => (Sum.inl z.1, V.str z.2)
theorem nKvs_val : ∀ {ns : List Int} {xs : List Str} {k : Int}, ns.length = xs.length → k ∈ ns → valV (nKvs ns xs) (Sum.inl k) = some (.str (nmOf ns xs k))
  | [], _, _, _, h => by cases h
  | a :: ns, [], _, h, _ => by simp at h
  | a :: ns, x :: xs, k, h, hk => by
    show valV ((Sum.inl a, V.str x) :: nKvs ns xs) _ = _
    by_cases e : a = k
    · subst e
      rw [valV_pos rfl]
      unfold nmOf KH.toName
      simp
    · rw [valV_neg (by intro q; injection q with q; exact e q)]
      have hk2 : k ∈ ns := (List.mem_cons.mp hk).resolve_left (fun q => e q.symm)
      rw [nKvs_val (by simpa using h) hk2]
      unfold nmOf KH.toName
      have e2 : (k == a) = false := by simpa using fun q => e q.symm
      rw [List.zip_cons_cons, List.lookup_cons, e2]
theorem nKvs_keys : ∀ {ns : List Int} {xs : List Str}, ns.length = xs.length → (nKvs ns xs).map (·.1) = ns.map Sum.inl
  | [], [], _ => rfl
  | [], _ :: _, h => by simp at h
  | _ :: _, [], h => by simp at h
  | a :: ns, x :: xs, h => by
    show Sum.inl a :: (nKvs ns xs).map (·.1) = _
    rw [nKvs_keys (by simpa using h)]; rfl
theorem nKvs_rows : ∀ (ns : List Int) (xs : List Str), (nKvs ns xs).map (fun kv => [kV kv.1, kv.2]) = ((ns.map V.int).zip (xs.map V.str)).map fun z => [z.1, z.2]
  | [], _ => rfl
  | _ :: _, [] => rfl
  | a :: ns, x :: xs => by
    show [kV (Sum.inl a), V.str x] :: (nKvs ns xs).map _ = _
    rw [nKvs_rows ns xs]; rfl
section
variable {W : Hp → Hp → Prop} {K : PySem.W.Frag} {Hc H : Hp} {σ : L2.St} {te : TE} {ts : TA} {a b : Addr} {xs ys : List V}
/-- tuples become known -/
theorem know_tups (w : Wld W) {H : Hp} : ∀ {ps : List Addr} {xss : List (List V)} {Hc : Hp}, W Hc H → EachT H ps xss → ∃ Hk, Ex Hc Hk ∧ W Hk H ∧ EachT Hk ps xss
  | _, _, Hc, w1, .nil => ⟨Hc, Ex.refl _, w1, .nil⟩
  | q :: _, _, Hc, w1, .cons g r => by
    have w2 := w.know w1 g
    obtain ⟨Hk, e, w3, r2⟩ := know_tups w w2 r
    have e0 : Ex Hc (upd Hc q (.tup _)) := fun b u hb => by
      by_cases eq : b = q
      · subst eq
        rw [upd_same, ← g, w.ex w1 _ _ hb]
      · rw [upd_ne eq]; exact hb
    exact ⟨Hk, e0.trans e, w3, .cons (e _ _ upd_same) r2⟩
theorem ew_listZip (w : Wld W) (h : EvA ts σ Hc [.ref a, .ref b]) (hx : Hc a = some (.lst xs)) (hy : Hc b = some (.lst ys)) (hz : xs.length ≤ 1000) : EW W (tListZip K ts) σ Hc (isLU Hc ((xs.zip ys).map fun z => [z.1, z.2])) := fun H1 w1 Q q =>
  h H1 (w.ex w1) _ fun H2 e2 => ⟨a, b, xs, ys, rfl, .of (e2 _ _ (w.ex w1 _ _ hx)), .of (e2 _ _ (w.ex w1 _ _ hy)), hz, fun p ps H3 np e3 hp hps => by
    have w2 := w.grow w1 e2
    have n0 := fresh_back (w.ex w2) np
    have w3 := w.add w2 np e3 hp
    obtain ⟨Hk, eK, wK, tK⟩ := know_tups w w3 hps
    exact q (.ref p) Hk H3 ((Ex.new n0).trans eK) wK ⟨p, ps, n0, rfl, eK _ _ upd_same, tK⟩⟩
theorem each_unmap {α : Type} {f : α → List V} : ∀ {ps : List Addr} {xs : List α}, EachT H ps (xs.map f) → Each (fun p x => H p = some (.tup (f x))) ps xs
  | [], [], _ => .nil
  | [], _ :: _, h => nomatch h
  | _ :: _, [], h => nomatch h
  | _ :: _, _ :: _, .cons h r => .cons h (each_unmap r)
theorem ew_sortT2 {cs : List (List Str)} (w : Wld W) (h : EW W te σ Hc (isLU Hc (cs.map fun c => c.map V.str))) (hc : ∀ c ∈ cs, c ≠ []) : EW W (tCB (rSortedD K) (tCons te tNil)) σ Hc (fun v H' => ∃ p xs, v = .ref p ∧ H' p = some (.lst xs) ∧ ∃ ps2 cs2, xs = ps2.map V.ref ∧ Each (TupAt H') ps2 cs2 ∧ cs2.Perm cs ∧ cs2.Pairwise fun a b => leT a b = true) :=
  fun H1 w1 Q q => h H1 w1 _ fun v Hc1 H2 e1 w2 ⟨p, ps, n, ev, hp, hps⟩ => by
    obtain ⟨ws, eps, ecs, hws⟩ := (each_unmap hps).pairs
    refine ⟨p, ws.map fun w => (V.ref w.1, dT w.2), by rw [ev], .of (by
      have : (ws.map fun w => (V.ref w.1, dT w.2)).map (·.1) = ps.map V.ref := by rw [eps, List.map_map, List.map_map]; rfl
      rw [this]; exact w.ex w2 _ _ hp), fun z hz => ?_, ?_, ?_, fun z hz => ?_, fun r nr => ?_⟩
    · obtain ⟨y, hy, rfl⟩ := List.mem_map.mp hz
      exact dp_T (.of (w.ex w2 _ _ (hws y hy)))
    · intro d hd d' hd'
      rw [List.map_map] at hd hd'
      obtain ⟨y, _, rfl⟩ := List.mem_map.mp hd
      obtain ⟨y', _, rfl⟩ := List.mem_map.mp hd'
      exact alike_T _ _
    · refine .inl fun d hd => ?_
      rw [List.map_map] at hd
      obtain ⟨y, hy, rfl⟩ := List.mem_map.mp hd
      have : y.2 ≠ [] := hc _ (by rw [ecs]; exact List.mem_map.mpr ⟨y, hy, rfl⟩)
      cases h : y.2 with
      | nil => exact absurd h this
      | cons b r => exact ⟨.str b, r.map .str, by show dT y.2 = _; rw [h]; rfl⟩
    · obtain ⟨y, _, rfl⟩ := List.mem_map.mp hz
      show (dT y.2).depth ≤ 60
      rw [depth_T]; decide
    · have sm := PySem.W.sort_maps (r := PySem.W.dataLe false fun w : Addr × List Str => dT w.2) (s := PySem.W.dataLe false fun z : V × PyData => z.2) (fun w : Addr × List Str => (V.ref w.1, dT w.2)) (l := ws) (fun _ _ _ _ => rfl)
      rw [← sm, List.map_map]
      have n0 := fresh_back (w.ex w2) nr
      refine q (.ref r) _ _ (e1.trans (Ex.new n0)) (w.add w2 nr (Ex.new nr) upd_same) ⟨r, _, rfl, upd_same, (ws.mergeSort (PySem.W.dataLe false fun w : Addr × List Str => dT w.2)).map (·.1), (ws.mergeSort (PySem.W.dataLe false fun w : Addr × List Str => dT w.2)).map (·.2), by rw [List.map_map]; rfl, Each.ofPairs fun y hy => (Ex.new n0) _ _ (hws y ((List.mergeSort_perm _ _).mem_iff.mp hy)), ?_, ?_⟩
      · rw [ecs]
        exact (List.mergeSort_perm _ _).map _
      · rw [List.pairwise_map]
        have sp := PySem.W.sort_pairwise (le := PySem.W.dataLe false fun w : Addr × List Str => dT w.2) (PySem.W.sortLe_total (PyProof.Rows.listOrd PyProof.Rows.itemOrd) false fun w : Addr × List Str => PySem.W.keyToks (dT w.2)) ws
        exact sp.imp fun h => h
theorem rw_notInD {c : List Int} {cs : List (List Int)} {ps : List Addr} (w : Wld W) (hq : TupIAt Hc a c) (hp : Hc b = some (.lst (ps.map V.ref))) (e : Each (TupIAt Hc) ps cs) : RV (rNotInD K) (.ref a) (.ref b) Hc (.bl (!decide (c ∈ cs))) :=
  fun H1 e1 Q q => ⟨dI c, cs.map dI, dp_I (.of (e1 _ _ hq)), dp_LI (e1 _ _ hp) (e.imp fun p c g => e1 _ _ g), shaped_I c, shaped_LI cs, by
    have z : (cs.map dI).any (fun z => PyData.eqv z (dI c)) = decide (c ∈ cs) := by
      rw [List.any_map]
      by_cases h : c ∈ cs
      · rw [decide_eq_true h, List.any_eq_true]
        exact ⟨c, h, by show PyData.eqv (dI c) (dI c) = true; rw [eqv_I]; exact decide_eq_true rfl⟩
      · rw [decide_eq_false h, List.any_eq_false]
        intro x hx z
        have z : PyData.eqv (dI x) (dI c) = true := z
        rw [eqv_I] at z
        exact h (of_decide_eq_true z ▸ hx)
    rw [z]
    exact q H1 (Ex.refl _)⟩
end
section
variable {P : Program} {w : World} {K : PySem.W.Frag} {mg : Str → Option Value} {base : Heap}
theorem keep_step {n : Nat} {kept : List (List Int)} {c : List Int} {r : List (List Int)} : KH.keepOnce n kept (c :: r) = KH.keepOnce n (if c ∉ kept ∧ kept.length < n then kept ++ [c] else kept) r := rfl
def spNamed : Sp := fun vs H Q _ => ∃ (Hc : Hp) (a f : Addr) (m n N : Nat), vs = [.ref a, .int m, .ref f, .int n] ∧ Bag Hc H a ∧ 1 ≤ m ∧ m ≤ 6 ∧ 1 ≤ n ∧ n ≤ 8 ∧ N ≤ 1000 ∧ isCalls m N (.ref f) Hc ∧
  ∀ h ks cs Hc' H', Ex Hc Hc' → Bag Hc' H' a → HouseAt Hc' h ks cs → HOk ks cs → Q (.ref h) H'
abbrev N38 : List Str := ["_law_bag_here", "_law_many", "_law_found", "_law_calls", "_law_kept", "_law_call", "_law_numbers", "_law_kind", "_law_menu", "_law_names", "_law_to"]
theorem scNamed : FnScope N38 ["_law_bag_here", "_law_many", "_law_found", "_law_calls"] (defScope (top 38)) := ⟨rfl, rfl, rfl, by decide +kernel, rfl, by decide +kernel, by decide +kernel⟩
theorem d_named (T : Txt K mg) : Dfn P w K mg base 3 "_law_named" ["_law_bag_here", "_law_many", "_law_found", "_law_calls"] spNamed := by
  refine mk_dfn (j := 22) T rfl scNamed (fun vs H Q E h => ?_) (fun _ _ _ _ _ _ us hl => match us, hl with | [_, _, _, _], _ => rfl) (fun cdv A outer s H vs Q E hr h => ?_)
  · obtain ⟨_, _, _, _, _, _, rfl, _⟩ := h
    rfl
  · obtain ⟨Hc, a, f, m, n, N, rfl, B, m1, m6, n1, n8, hN, ⟨f', ps, cs, ef, hf, hps, ok, lcs⟩, kk⟩ := h
    injection ef with ef
    subst ef
    refine ⟨_, (pss_cons (ps_set (i := 4) scNamed.nd rfl (by first | exact Or.inl rfl | exact Or.inr rfl) (pe_lst pa_nil))
      (pss_cons (ps_for PassesOwn.never rfl (pi_list (pv 2)) (pg_name (i := 5) scNamed.nd rfl (by first | exact Or.inl rfl | exact Or.inr rfl)) (pss_one (ps_if (PW.pt (pw_and (pt_cmpR (op_notInD (room65 hr)) (pv 5) (pv 4) rfl) (pw_and1 (pt_cmpR op_lt (pe_callB call_len_seq (by rfl) (T.free "len") (by decide +kernel) (pa_cons (pv 4) pa_nil)) (pv 3) (nomark _))))) (pss_one (ps_expr (pe_bm PySem.F.plainAttrs_list PySem.F.slot_list_append PySem.F.type_list_append mt_append (pv 4) (pa_cons (pv 5) pa_nil)))) pss_nil)))
      (pss_cons (ps_setLc (i := 6) (own := [("_law_kind", 7)]) rfl scNamed.nd rfl (by rfl) (sw_true (by rfl) (by rfl) (by rfl) (by rfl)) (pi_range1 (by rfl) (T.free "range") (pa_cons (pv 1) pa_nil)) (blkOk_by (N := N38) (sc := defScope (top 38)) (by decide +kernel)) (fun _ _ _ _ _ => (pg_name (i := 7) scNamed.nd rfl (by first | exact Or.inl rfl | exact Or.inr rfl))) (fun _ _ _ _ _ => (pts_one (pt_cmpR (show OpR _ _ (rNeD K) from (op_neD hr.units)) (pe_lc (own := [("_law_call", 5)]) rfl scNamed.nd (show PI _ _ _ (iList K _) from (pi_list (pv 4))) (blkOk_by (N := N38) (by rfl)) (fun _ _ _ _ _ => (pg_name (i := 5) scNamed.nd rfl (by first | exact Or.inl rfl | exact Or.inr rfl))) (fun _ _ _ _ _ => (pts_one (pt_cmpR (show OpR _ _ (rIn K false) from op_in_seq) (pv 7) (pv 5) rfl))) (fun _ _ _ _ _ => (pv 5))) (pe_lst pa_nil) (nomark _)))) (fun _ _ _ _ _ => (pv 7)))
      (pss_cons (ps_set (i := 8) scNamed.nd rfl (by first | exact Or.inl rfl | exact Or.inr rfl) (pe_lst (pa_cons pe_str (pa_cons pe_str (pa_cons pe_str (pa_cons pe_str (pa_cons pe_str (pa_cons pe_str (pa_cons pe_str (pa_cons pe_str (pa_cons pe_str (pa_cons pe_str (pa_cons pe_str (pa_cons pe_str (pa_cons pe_str (pa_cons pe_str (pa_cons pe_str pa_nil)))))))))))))))))
      (pss_cons (ps_set (i := 9) scNamed.nd rfl (by first | exact Or.inl rfl | exact Or.inr rfl) (pe_ifExp (pt_cmpR op_gt (pe_dfn (d_take T) (hr.mono (by decide)) (pa_cons (pv 0) (pa_cons pe_int pa_nil))) pe_int (nomark _)) (pe_slice sl_list (pe_dfn (d_mixed T) (hr.mono (by decide)) (pa_cons (pv 0) (pa_cons (pv 8) pa_nil))) po_none (po_some (pe_callB call_len_seq (by rfl) (T.free "len") (by decide +kernel) (pa_cons (pv 6) pa_nil)))) (pe_slice sl_list (pv 8) po_none (po_some (pe_callB call_len_seq (by rfl) (T.free "len") (by decide +kernel) (pa_cons (pv 6) pa_nil))))))
      (pss_cons (ps_set (i := 10) scNamed.nd rfl (by first | exact Or.inl rfl | exact Or.inr rfl) (pe_callTy (call_dictP rfl) (by rfl) (T.free "dict") (by decide +kernel) (pa_cons (pe_listZip rfl (by rfl) (T.free "list") (by rfl) (T.free "zip") (pa_cons (pv 6) (pa_cons (pv 9) pa_nil))) pa_nil)))
      (pss_one (ps_ret (pe_tup (pa_cons (pe_tupleOf (by rfl) (T.free "tuple") (pv 9)) (pa_cons (pe_tupleOf (by rfl) (T.free "tuple") (pe_callB (cr_sortedD hr.units) (by rfl) (T.free "sorted") (by decide +kernel) (pa_cons (pe_lc (own := [("_law_call", 5)]) rfl scNamed.nd (pi_list (pv 4)) (blkOk_by (N := N38) (sc := defScope (top 38)) (by decide +kernel)) (fun _ _ _ _ _ => (pg_name (i := 5) scNamed.nd rfl (by first | exact Or.inl rfl | exact Or.inr rfl))) (fun _ _ _ _ _ => pts_nil) (fun _ _ _ _ _ => (show PE _ _ (tThen _ (kTup K)) from (pe_tupleOf (by rfl) (T.free "tuple") (pe_lc (own := [("_law_kind", 7)]) rfl scNamed.nd (show PI _ _ _ (iTup K _) from (pi_tup (pv 5))) (blkOk_by (N := N38) (by rfl)) (fun _ _ _ _ _ => (pg_name (i := 7) scNamed.nd rfl (by first | exact Or.inl rfl | exact Or.inr rfl))) (fun _ _ _ _ _ => pts_nil) (fun _ _ _ _ _ => (pe_dget (room1 hr) (pv 10) (pv 7) (fun _ _ => rfl)))))))) pa_nil))) pa_nil))))))))))), ?_⟩
    have W := bagW a
    refine w_set (P := isL Hc []) (ewL W (el_lst ea_nil (by simp))) B (fun v Hc1 H1 e1 B1 ⟨p, np, ev, hp⟩ => ?_)
    subst ev
    refine w_forL (a := f) (xs := ps.map V.ref) (Pv := fun i σ' Hk => ∃ c, σ' = [some (.ref a), some (.int m), some (.ref f), some (.int n), some (.ref p), c, none, none, none, none, none] ∧ Ex Hc Hk ∧ ∃ pk kept, Hk p = some (.lst (pk.map V.ref)) ∧ Each (TupIAt Hk) pk kept ∧ KH.keepOnce n kept (cs.drop i) = KH.keepOnce n [] cs ∧ kept.length ≤ i) W B1 (ew W (ev_var rfl))
      (fun Hk e => ⟨none, rfl, e1.trans e, [], [], e _ _ hp, .nil, rfl, Nat.le_refl _⟩) (fun i σ' Hk ⟨_, _, e, _⟩ => .of (e _ _ hf)) (fun i x σ' Hk H' hx ⟨c0, eσ, e, pk, kept, hpk, hkept, hke, lk⟩ wk => ?_) (fun σ' Hk H' ⟨c0, eσ, e, pk, kept, hpk, hkept, hke, lk⟩ wk => ?_)
    · subst eσ
      rw [List.getElem?_map] at hx
      obtain ⟨q, hq, rfl⟩ := Option.map_eq_some_iff.mp hx
      obtain ⟨c, hc, ht⟩ := hps.get hq
      have li : i < cs.length := (List.getElem?_eq_some_iff.mp hc).1
      rw [drop_cons hc, keep_step] at hke
      refine seq_last (w_when (PT := isB (!decide (c ∈ kept) && decide (kept.length < n))) (ewt_and (ewT W (et_test (ev_op (ev_var rfl) (ev_var rfl) (rw_notInD W (e _ _ ht) hpk hkept)))) fun _ H2 e2 => ewT W (et_test (ev_is (ev_op (ev_lenL (ev_var rfl) (.of (e2 _ _ hpk))) (ev_var rfl) rv_I0) (by rw [List.length_map, hkept.length]; simp)))) wk (fun Hk2 H2 e2 w2 pt => ?_) (fun Hk2 H2 e2 w2 pt => ?_))
      · have pt : true = (!decide (c ∈ kept) && decide (kept.length < n)) := pt
        rw [eq_comm, Bool.and_eq_true, Bool.not_eq_true', decide_eq_false_iff_not, decide_eq_true_eq] at pt
        rw [if_pos pt] at hke
        have hp2 := e2 _ _ hpk
        refine w_app1 (P := isV (.ref q)) W w2 (ev_var rfl) hp2 (ew W (ev_var rfl)) (by rw [List.length_map, hkept.length]; omega) (fun v Hk3 H3 e3 w3 ev => ?_)
        rw [show v = V.ref q from ev]
        have hp3 := e3 _ _ hp2
        have te := TEx.list (H := Hk3) (ys := pk.map V.ref ++ [V.ref q]) hp3
        refine ⟨_, W.set (o' := .lst (pk.map V.ref ++ [V.ref q])) w3 hp3 (fun _ z => by cases z), _, rfl, Ex.mut (e.trans (e2.trans e3)) np, pk ++ [q], kept ++ [c], by rw [upd_same, List.map_append]; rfl, ((hkept.imp fun p c g => te _ _ (e3 _ _ (e2 _ _ g))).app (.cons (te _ _ (e3 _ _ (e2 _ _ (e _ _ ht)))) .nil)), hke, by rw [List.length_append]; simp; omega⟩
      · have pt : false = (!decide (c ∈ kept) && decide (kept.length < n)) := pt
        rw [if_neg (fun z => by
          rw [decide_eq_true z.2, decide_eq_false z.1] at pt
          cases pt)] at hke
        exact ⟨Hk2, w2, _, rfl, e.trans e2, pk, kept, e2 _ _ hpk, hkept.imp fun p c g => e2 _ _ g, hke, by omega⟩
    · subst eσ
      rw [List.length_map, hps.length, List.drop_length] at hke
      have hke : kept = KH.keepOnce n [] cs := hke
      obtain ⟨okk, ndk, lkn⟩ := KH.keep_ok (m := m) (n := n) (fs := cs) (kept := []) (by simp) (by simp) (fun _ h => by cases h) ok.2 (.inr ⟨ok.1, by omega⟩)
      rw [← hke] at okk ndk lkn
      clear hke lk
      have eN := e
      -- the numbers
      have lpk := hkept.length
      obtain ⟨zs, epk, ekept, hzs⟩ := hkept.pairs
      have lz : zs.length ≤ 8 := by have := congrArg List.length ekept; rw [List.length_map] at this; omega
      have hne : ∀ (i : Nat) (Hj : Hp), Ex Hk Hj → Ev (tOp (rNeD K) (tLc (iList K (tVar 4)) (gName 5) (tTest (tOp (rIn K false) (tVar 7) (tVar 5))) (tVar 5) [5]) (tLst tNil)) [some (.ref a), some (.int m), some (.ref f), some (.int n), some (.ref p), c0, none, some (.int (i : Int)), none, none, none] Hj (.bl (kept.any fun c => decide ((i : Int) ∈ c))) := fun i Hj ej => by
        have hl : EvL (tLc (iList K (tVar 4)) (gName 5) (tTest (tOp (rIn K false) (tVar 7) (tVar 5))) (tVar 5) [5]) [some (.ref a), some (.int m), some (.ref f), some (.int n), some (.ref p), c0, none, some (.int (i : Int)), none, none, none] Hj ((zs.filter fun z => decide ((i : Int) ∈ z.2)).map fun z => V.ref z.1) :=
          evl_of fun Hl el => ew_lcLv (a := p) (ew pureW (ev_var rfl)) fun H3 e3 => ew_fmLn (ys := zs) (gv := fun z => V.ref z.1) pureW (.of (by
            have := e3 _ _ (el _ _ (ej _ _ hpk))
            rw [this, epk, List.map_map]; rfl)) (by omega) (fun _ _ => rfl) (fun z hz Hm em => et_test (ev_op (ev_var rfl) (ev_var rfl) (rv_intT (.of (em _ _ (e3 _ _ (el _ _ (ej _ _ (hzs z hz))))))))) (fun z hz Hm em _ => ev_var rfl)
        have hb : kept.any (fun c => decide ((i : Int) ∈ c)) = !decide (((zs.filter fun z => decide ((i : Int) ∈ z.2)).map (·.2)) = []) := by
          rw [ekept, List.any_map]
          show zs.any (fun z => decide ((i : Int) ∈ z.2)) = _
          by_cases h : ∃ z ∈ zs, (i : Int) ∈ z.2
          · obtain ⟨z, hz, hi2⟩ := h
            have e0 : ¬ ((zs.filter fun z => decide ((i : Int) ∈ z.2)).map (·.2)) = [] := fun e => by
              have : z ∈ zs.filter fun z => decide ((i : Int) ∈ z.2) := List.mem_filter.mpr ⟨hz, decide_eq_true hi2⟩
              rw [List.map_eq_nil_iff.mp e] at this
              cases this
            rw [decide_eq_false e0, List.any_eq_true.mpr ⟨z, hz, decide_eq_true hi2⟩]
            rfl
          · have e1 : (zs.filter fun z => decide ((i : Int) ∈ z.2)) = [] := List.filter_eq_nil_iff.mpr fun z hz hi2 => h ⟨z, hz, of_decide_eq_true hi2⟩
            rw [e1, List.any_eq_false.mpr fun z hz hi2 => h ⟨z, hz, of_decide_eq_true hi2⟩]
            rfl
        rw [hb]
        refine ev_opLL hl (el_lst ea_nil (by simp)) fun p1 p2 Hn h1 h2 en Ho eo Q q => ⟨.list ((((zs.filter fun z => decide ((i : Int) ∈ z.2)).map (·.2))).map dI), .list (([] : List (List Int)).map dI), dp_LI (ps := (zs.filter fun z => decide ((i : Int) ∈ z.2)).map (·.1)) (eo _ _ (by rw [h1, List.map_map]; rfl)) (Each.ofPairs fun z hz => eo _ _ (en _ _ (ej _ _ (hzs z (List.mem_filter.mp hz).1)))), dp_LI (ps := []) (eo _ _ h2) .nil, shaped_LI _, shaped_LI _, ?_⟩
        have e9 : ∀ l : List (List Int), PyData.eqv (.list (l.map dI)) (.list (([] : List (List Int)).map dI)) = decide (l = []) := fun l => by
          cases l with
          | nil => rfl
          | cons a r => simp [PyData.eqv, PyData.eqvAll]
        rw [e9]
        exact q Ho (Ex.refl _)
      have enum : (KH.numsOf m kept).map V.int = ((List.range m).filter fun i : Nat => kept.any fun c => decide ((i : Int) ∈ c)).map fun i : Nat => V.int (i : Int) := by
        unfold KH.numsOf KH.rng
        rw [List.filter_map, List.map_map]; rfl
      refine w_set (P := isL Hk ((KH.numsOf m kept).map V.int)) (EW.imp (P := isL Hk (((List.range m).filter fun i : Nat => kept.any fun c => decide ((i : Int) ∈ c)).map fun i : Nat => V.int (i : Int))) (ew_fmR (n := m) W (ewa_of W (ea_cons (ev_var rfl) ea_nil)) (by omega) (fun _ => rfl) (fun i hi Hj ej => et_test (hne i Hj ej)) (fun i hi Hj ej _ => ev_var rfl)) fun v H' _ q => by rw [enum]; exact q) wk (fun v Hk2 H2 e2 B2 ⟨pn, _, ev, hpn⟩ => ?_)
      subst ev
      have nl6 := KH.nums_len m kept
      -- the menu, the names
      refine w_set (P := isL Hk2 (menuL.map V.str)) (ewL W (el_lst (ea_cons ev_c (ea_cons ev_c (ea_cons ev_c (ea_cons ev_c (ea_cons ev_c (ea_cons ev_c (ea_cons ev_c (ea_cons ev_c (ea_cons ev_c (ea_cons ev_c (ea_cons ev_c (ea_cons ev_c (ea_cons ev_c (ea_cons ev_c (ea_cons ev_c ea_nil))))))))))))))) (by decide))) B2 (fun v Hk3 H3 e3 B3 ⟨pm, _, ev, hpm⟩ => ?_)
      subst ev
      refine w_set (P := isP fun xs => ∃ js : List Str, xs = js.map V.str ∧ js.length = (KH.numsOf m kept).length ∧ js.Nodup ∧ ∀ z ∈ js, NameOk z) (ew_ifT (PT := fun _ _ => True) ((ewt_T (PB := fun _ _ => True) (ew_op (P := fun v _ => ∃ b, v = .bl b ∧ True) (P1 := fun v _ => ∃ r, v = .int r ∧ 0 ≤ r ∧ r < 3) (P2 := fun _ => isV (.int 0)) (ew_take (m := 3) (ew W (ev_var rfl)) (fun H3 _ => ew W ev_c) (by omega) (by omega)) (fun x H3 _ _ => ew W ev_c) (fun x y H3 H4 e3 ⟨r, ex, _⟩ e4 ey => by
            rw [ex, show y = V.int 0 from ey]
            exact rw_imp (rw_of W rv_I0) fun v H' _ ev => ⟨_, ev, trivial⟩))))
          (fun H4 e4 _ => (ew_slToP (A := fun xs => ∃ js : List Str, xs = js.map V.str ∧ js.Perm menuL) (PI := fun i => i = ((KH.numsOf m kept).length : Int)) W ((ew_mixed (xs := menuL.map V.str) (ew W (ev_var rfl)) (fun H5 e5 => (ew W (ev_var rfl)).imp fun v H' e ev => ⟨pm, ev, .of (e _ _ (e5 _ _ (e4 _ _ hpm)))⟩) (by decide)).imp fun v H' _ ⟨p1, ys, pr, _, ev, hp1⟩ => by
              obtain ⟨js, ej, pj⟩ := perm_strs pr
              exact ⟨p1, ys, ev, hp1, js, ej, pj⟩) (fun H5 e5 => (ew W (ev_lenL (ev_var rfl) (.of (e5 _ _ (e4 _ _ (e3 _ _ hpn)))))).imp fun v H' _ ev => ⟨_, ev, by omega, by rw [List.length_map]⟩)).imp fun v H' _ ⟨p1, zs1, ev, hp1, xs, i, ez, ⟨js, ex, pj⟩, i0, ei⟩ => ⟨p1, zs1, ev, hp1, js.take i.toNat, by rw [ez, ex, List.map_take], by
                have := pj.length_eq
                rw [List.length_take, this]
                show min i.toNat 15 = _
                omega, (pj.nodup_iff.mpr menu_nodup).sublist (List.take_sublist _ _), fun z hz => menu_name z (pj.mem_iff.mp (List.mem_of_mem_take hz))⟩)
          (fun H4 e4 _ => (ew_slToP (A := fun xs => xs = menuL.map V.str) (PI := fun i => i = ((KH.numsOf m kept).length : Int)) W ((ew W (ev_var rfl)).imp fun v H' e ev => ⟨pm, _, ev, e _ _ (e4 _ _ hpm), rfl⟩) (fun H5 e5 => (ew W (ev_lenL (ev_var rfl) (.of (e5 _ _ (e4 _ _ (e3 _ _ hpn)))))).imp fun v H' _ ev => ⟨_, ev, by omega, by rw [List.length_map]⟩)).imp fun v H' _ ⟨p1, zs1, ev, hp1, xs, i, ez, ex, i0, ei⟩ => ⟨p1, zs1, ev, hp1, menuL.take i.toNat, by rw [ez, ex, List.map_take], by
                rw [List.length_take]
                show min i.toNat 15 = _
                omega, menu_nodup.sublist (List.take_sublist _ _), fun z hz => menu_name z (List.mem_of_mem_take hz)⟩)) B3 (fun v Hk4 H4 e4 B4 ⟨pj, xs, ev, hpj, js, exs, ljs, ndj, nmj⟩ => ?_)
      subst ev exs
      have hpn4 := e4 _ _ (e3 _ _ hpn)
      have e24 := e2.trans (e3.trans e4)
      have ndn := KH.asc_nodup (KH.nums_asc m kept)
      -- the map
      refine w_set (P := isD Hk4 (nKvs (KH.numsOf m kept) js)) ((ew_dictP (K := K) (kvs := nKvs (KH.numsOf m kept) js) (f := fun kv => [kV kv.1, kv.2]) W (fun _ _ => rfl) (by
          rw [nKvs_rows]
          exact ew_listZip W (ea_cons (ev_var rfl) (ea_cons (ev_var rfl) ea_nil)) hpn4 hpj (by rw [List.length_map]; omega))).imp fun v H' _ q => by
            rwa [merge_nodup (by
              rw [List.map_nil, List.nil_append, nKvs_keys ljs.symm]
              exact KH.nodup_map_on ndn fun x _ y _ e => by injection e), List.nil_append] at q) B4 (fun v Hk5 H5 e5 B5 ⟨pd, _, ev, hpd⟩ => ?_)
      subst ev
      have e25 := e24.trans e5
      have hzs5 : ∀ z ∈ zs, TupIAt Hk5 z.1 z.2 := fun z hz => e25 _ _ (hzs z hz)
      have hkz : ∀ z ∈ zs, z.2 ∈ kept := fun z hz => by rw [ekept]; exact List.mem_map.mpr ⟨z, hz, rfl⟩
      have hnum : ∀ z ∈ zs, ∀ k ∈ z.2, k ∈ KH.numsOf m kept := fun z hz k hk => KH.nums_mem.mpr ⟨(okk.2 z.2 (hkz z hz)).2.2 k hk, z.2, hkz z hz, hk⟩
      have hf6 : ∀ z ∈ zs, z.2.length ≤ 6 := fun z hz => by have := (okk.2 z.2 (hkz z hz)).len; omega
      -- the answer
      refine w_retTup (ewa_two (P1 := fun v H' => ∃ t, v = .ref t ∧ TupAt H' t js) (P2 := fun _ vs H' => ∃ t ps2 cs2, vs = [.ref t] ∧ H' t = some (.tup (ps2.map V.ref)) ∧ Each (TupAt H') ps2 cs2 ∧ cs2.Perm (kept.map (List.map (nmOf (KH.numsOf m kept) js))) ∧ cs2.Pairwise fun a b => leT a b = true)
        ((ewU W (eu_tupK (ev_var rfl) (.of (e5 _ _ hpj)))).imp fun v H' _ ⟨t, _, ev, ht⟩ => ⟨t, ev, ht⟩) (fun x H6 e6 _ => (ewa_one (P1 := fun v H' => ∃ t ps2 cs2, v = .ref t ∧ H' t = some (.tup (ps2.map V.ref)) ∧ Each (TupAt H') ps2 cs2 ∧ cs2.Perm (kept.map (List.map (nmOf (KH.numsOf m kept) js))) ∧ cs2.Pairwise fun a b => leT a b = true) ?_).imp fun vs H' _ ⟨x, ev, t, ps2, cs2, ex, r⟩ => ⟨t, ps2, cs2, by rw [ev, ex], r⟩)) B5 fun vs Hc7 H7 e7 B7 ⟨x, r, H6, ev, e56, ⟨t1, ex, ht1⟩, e67, t2, ps2, cs2, er, ht2, hps2, pm2, le2⟩ => ⟨by rw [ev, er]; show 2 ≤ sizeLine; decide, fun h nh => ?_⟩
      · -- the calls' tuples, sorted
        have lc : EW (fun Hc H => Bag Hc H a) (tLc (iList K (tVar 4)) (gName 5) tYes (tThen (tLc (iTup K (tVar 5)) (gName 7) tYes (tDGet (tVar 10) (tVar 7)) [7]) (kTup K)) [5]) [some (.ref a), some (.int m), some (.ref f), some (.int n), some (.ref p), c0, some (.ref pn), none, some (.ref pm), some (.ref pj), some (.ref pd)] H6
            (isLU H6 (zs.map fun z => (z.2.map (nmOf (KH.numsOf m kept) js)).map V.str)) :=
          ew_lcbL (ew W (ev_var rfl)) fun v H7 e7 ev => by
            rw [show v = V.ref p from ev]
            have z0 := ew_fmLU (K := K) (tt := tYes) (te := tThen (tLc (iTup K (tVar 5)) (gName 7) tYes (tDGet (tVar 10) (tVar 7)) [7]) (kTup K)) (g := gName 5) (vs := [5]) (zs := zs) (gv := fun z => V.ref z.1) (f := fun _ => true) (h := fun z => (z.2.map (nmOf (KH.numsOf m kept) js)).map V.str) (sg := fun z => [some (.ref a), some (.int m), some (.ref f), some (.int n), some (.ref p), some (.ref z.1), some (.ref pn), none, some (.ref pm), some (.ref pj), some (.ref pd)]) (σ := [some (.ref a), some (.int m), some (.ref f), some (.int n), some (.ref p), c0, some (.ref pn), none, some (.ref pm), some (.ref pj), some (.ref pd)]) (Hc := H7) W
              (.of (by
                have := e7 _ _ (e6 _ _ (e25 _ _ hpk))
                rw [this, epk, List.map_map]; rfl)) (by omega) (fun y _ H' k _ g => g) (fun _ _ => rfl) (fun z hz Hj ej H1 e Q q => q H1 (Ex.refl _)) (fun z hz Hj ej _ => evu_of fun Hl el => ew_tupL pureW (ew_lcTv (a := z.1) (ew pureW (ev_var rfl)) fun Hm em => (ew_mpTn (ys := z.2) (gv := V.int) (h := fun k => V.str (nmOf (KH.numsOf m kept) js k)) pureW (.of (em _ _ (el _ _ (ej _ _ (e7 _ _ (e6 _ _ (hzs5 z hz))))))) (by have := hf6 z hz; omega) (fun _ _ => rfl) (fun k hk Hn en => ev_dget (k := Sum.inl k) (ev_var rfl) (ev_var rfl) (en _ _ (em _ _ (el _ _ (ej _ _ (e7 _ _ (e6 _ _ hpd)))))) (nKvs_val ljs.symm (hnum z hz k hk)))).imp fun v H' _ q => by rw [List.map_map]; exact q))
            rw [filter_all] at z0
            exact z0.imp fun v H' _ q => q.back e7
        refine (ew_tupB (K := K) (PL := fun xs H' => ∃ ps2 cs2, xs = ps2.map V.ref ∧ Each (TupAt H') ps2 cs2 ∧ cs2.Perm (kept.map (List.map (nmOf (KH.numsOf m kept) js))) ∧ cs2.Pairwise fun a b => leT a b = true) W (ew_sortT2 (cs := kept.map (List.map (nmOf (KH.numsOf m kept) js))) W (by
          have e : (kept.map (List.map (nmOf (KH.numsOf m kept) js))).map (fun c => c.map V.str) = zs.map fun z => (z.2.map (nmOf (KH.numsOf m kept) js)).map V.str := by
            rw [ekept, List.map_map, List.map_map]; rfl
          rw [e]; exact lc) (fun c hc => by
          obtain ⟨c0, hc0, rfl⟩ := List.mem_map.mp hc
          exact fun e => (okk.2 c0 hc0).1 (List.map_eq_nil_iff.mp e)))).imp fun v H' _ ⟨t, xs, H8, _, ev, ht, ⟨ps2, cs2, exs, hps2, pm2, le2⟩, _, e8⟩ => ⟨t, ps2, cs2, ev, by rw [ht, exs], hps2.imp fun p c g => e8 _ _ g, pm2, le2⟩
      · have eh := Ex.new (o := .tup vs) nh
        subst ev er ex
        refine kk h js cs2 _ _ ((eN.trans e25).trans (e7.trans (Ex.new (fresh_back (W.ex B7) nh)))) (W.add B7 nh eh upd_same) ⟨t1, t2, ps2, upd_same, (Ex.new (fresh_back (W.ex B7) nh)) _ _ (e67 _ _ ht1), (Ex.new (fresh_back (W.ex B7) nh)) _ _ ht2, hps2.imp fun p c g => (Ex.new (fresh_back (W.ex B7) nh)) _ _ g⟩ ?_
        refine KH.named_ok (le := leT) (n := m) (kept := kept) (f := nmOf (KH.numsOf m kept) js) okk ndk (by omega) m6 (KH.toName_inj ndn ndj ljs.symm) (KH.lookup_zip ndn ljs.symm).symm nmj pm2 le2 fun a b _ _ h1 h2 => leT_lt a b h1 h2
end
end KK
set_option maxHeartbeats 4000000
/-! The names of things: 702 of them, all different. -/
namespace KK
open PySem
def sg (i : Nat) : Str := ⟨#[97 + i]⟩
def thBase (n : Nat) : Str := if n < 26 then sg n else sg ((n - 26) / 26) ++ sg ((n - 26) % 26)
def thName (n : Nat) : Str := if n % 9 = 4 then thBase n ++ ("zzzz" : Str) else thBase n
def dec1 : List Nat → Nat
  | [c] => c - 97
  | [c, d] => (c - 97) * 26 + (d - 97) + 26
  | _ => 0
def decN (z : Str) : Nat := dec1 (if z.cps.size ≤ 2 then z.cps.toList else z.cps.toList.take (z.cps.size - 4))
theorem dec_th : ∀ n < 702, decN (thName n) = n := by decide +kernel
theorem th_inj {m n : Nat} (hm : m < 702) (hn : n < 702) (e : thName m = thName n) : m = n := by
  rw [← dec_th m hm, ← dec_th n hn, e]
theorem th_ok : ∀ n < 702, NameOk (thName n) := by
  have h : ∀ n < 702, 1 ≤ (thName n).length ∧ (thName n).length ≤ 6 ∧ ∀ c ∈ (thName n).cps.toList, c ∈ letters.cps.toList := by decide +kernel
  exact fun n hn => h n hn
theorem let_at : ∀ i < 26, letters.cps.toList[i]? = some (97 + i) := by decide +kernel
/-- the places drawn are different -/
theorem place_inj {s : Int} {j k : Nat} (hj : j < 41) (hk : k < 41) (e : ((j : Int) * 577 + s) % 702 = ((k : Int) * 577 + s) % 702) : j = k := by omega
end KK
set_option maxHeartbeats 4000000
/-! _law_house. -/
namespace KK
open PySem PySem.Spec PyProof.Rows L2 Evl
section
variable {W : Hp → Hp → Prop} {K : PySem.W.Frag} {Hc H : Hp} {σ : L2.St} {te ta tb : TE} {ts : TA} {PL : List V → Hp → Prop}
theorem ew_lstP (w : Wld W) (h : EWA W ts σ Hc PL) (hl : ∀ vs H', PL vs H' → vs.length ≤ 100000) : EW W (tLst ts) σ Hc (fun v H' => ∃ p vs H1, v = .ref p ∧ H' p = some (.lst vs) ∧ PL vs H1 ∧ Ex Hc H1 ∧ Ex H1 H') := fun H1 w1 Q q => h H1 w1 _ fun vs Hc1 H2 e1 w2 pl => ⟨sz_of (hl vs Hc1 pl), fun p np => by
  have n0 := fresh_back (w.ex w2) np
  exact q (.ref p) _ _ (e1.trans (Ex.new n0)) (w.add w2 np (Ex.new np) upd_same) ⟨p, vs, Hc1, rfl, upd_same, pl, e1, Ex.new n0⟩⟩
theorem ew_sortI' {m : Nat} (w : Wld W) (h : EW W te σ Hc fun v H' => ∃ (l : Addr) (ns : List Int), v = .ref l ∧ H' l = some (.lst (ns.map V.int)) ∧ ns.length = 2 ∧ ns.Nodup ∧ ∀ x ∈ ns, 0 ≤ x ∧ x < (m : Int)) :
    EW W (tCB (rSorted K) (tCons te tNil)) σ Hc (fun v H' => ∃ (p : Addr) (x y : Int), v = .ref p ∧ H' p = some (.lst [.int x, .int y]) ∧ True ∧ 0 ≤ x ∧ x < y ∧ y < m) :=
  fun H1 w1 Q q => h H1 w1 _ fun v Hc1 H2 e1 w2 ⟨p, ns, ev, hp, l2, nd, rg⟩ => ⟨p, ns, by rw [ev], .of (w.ex w2 _ _ hp), by omega, fun ms r pm le nr => by
    have n0 := fresh_back (w.ex w2) nr
    have asc := KH.asc_of_le le (pm.nodup_iff.mpr nd)
    have lm : ms.length = 2 := by rw [pm.length_eq, l2]
    match ms, lm, asc, pm with
    | [x, y], _, asc, pm =>
      have h1 := rg x (pm.mem_iff.mp (by simp))
      have h2 := rg y (pm.mem_iff.mp (by simp))
      have h3 : x < y := by simpa using asc
      exact q (.ref r) _ _ (e1.trans (Ex.new n0)) (w.add w2 nr (Ex.new nr) upd_same) ⟨r, x, y, rfl, upd_same, trivial, h1.1, h3, h2.2⟩⟩
theorem isCalls.ex {m : Int} {n : Nat} {v : V} {H H' : Hp} (e : Ex H H') (h : isCalls m n v H) : isCalls m n v H' := by
  obtain ⟨p, ps, cs, ev, hp, hps, ok, l⟩ := h
  exact ⟨p, ps, cs, ev, e _ _ hp, hps.imp fun p c g => e _ _ g, ok, l⟩
/-- lists of calls joined -/
theorem ew_catC {m : Int} {n1 n2 : Nat} (w : Wld W) (ha : EW W ta σ Hc (isCalls m n1)) (hb : ∀ H1, Ex Hc H1 → EW W tb σ H1 (isCalls m n2)) (hz : n1 + n2 ≤ 1000) : EW W (tOp rCat ta tb) σ Hc (isCalls m (n1 + n2)) :=
  fun H1 w1 Q q => ha H1 w1 _ fun x Hc1 H2 e1 w2 ⟨p, ps, cs, ex, hp, hps, ok, l⟩ => hb Hc1 e1 H2 w2 _ fun y Hc2 H3 e2 w3 ⟨p2, ps2, cs2, ey, hp2, hps2, ok2, l2⟩ => ⟨p, p2, _, _, ex, ey, w.ex w3 _ _ (e2 _ _ hp), w.ex w3 _ _ hp2, sz_of (by rw [List.length_map, List.length_map, hps.length, hps2.length]; omega), fun r nr => by
    have n0 := fresh_back (w.ex w3) nr
    exact q (.ref r) _ _ ((e1.trans e2).trans (Ex.new n0)) (w.add w3 nr (Ex.new nr) upd_same) ⟨r, ps ++ ps2, cs ++ cs2, rfl, by rw [upd_same, List.map_append], ((hps.imp fun p c g => (Ex.new n0) _ _ (e2 _ _ g)).app (hps2.imp fun p c g => (Ex.new n0) _ _ g)), ⟨fun z => ok.1 (List.append_eq_nil_iff.mp z).1, fun c hc => (List.mem_append.mp hc).elim (ok.2 c) (ok2.2 c)⟩, by rw [List.length_append]; omega⟩⟩
end
section
variable {P : Program} {w : World} {K : PySem.W.Frag} {mg : Str → Option Value} {base : Heap}
def spHouseG : Sp := fun vs H Q _ => ∃ (Hc : Hp) (a : Addr) (k n : Nat), vs = [.ref a, .int k, .int n] ∧ Bag Hc H a ∧ 1 ≤ k ∧ k ≤ 6 ∧ 1 ≤ n ∧ n ≤ 8 ∧ ∀ h ks cs Hc' H', Ex Hc Hc' → Bag Hc' H' a → HouseAt Hc' h ks cs → HOk ks cs → Q (.ref h) H'
/-- forks(((), found)) == [] -/
theorem ewt_forks {a f : Addr} {m : Int} {n : Nat} {Hc : Hp} {σ : L2.St} {i : Nat} (hσ : σ[i]? = some (some (.ref f))) (hf : isCalls m n (.ref f) Hc) (hm : m ≤ 6) (hn : n ≤ 40) : EWT (fun Hc H => Bag Hc H a) (tTest (tOp (rEqD K) (tCall (spForks K) [] E0 (tCons (tTup (tCons (tTup tNil) (tCons (tVar i) tNil))) tNil)) (tLst tNil))) σ Hc (fun _ _ => True) := fun H1 w1 Q q => by
  obtain ⟨f', ps, cs, ef, hp, hps, ok, l⟩ := hf
  injection ef with ef
  subst ef
  have W := bagW a
  refine ⟨by show 0 ≤ sizeLine; exact Nat.zero_le _, fun p1 n1 => ⟨_, hσ, by show 2 ≤ sizeLine; decide, fun p2 n2 => ?_⟩⟩
  have e2 := (Ex.new (o := .tup []) n1).trans (Ex.new (o := .tup [.ref p1, .ref f]) n2)
  have w2 := W.grow w1 e2
  refine ⟨p2, p1, f, ps, cs, rfl, upd_same, w2.same _ _ hp, hps.imp fun p c g => w2.same _ _ g, by omega, fun c hc => by have := (ok.2 c hc).len; omega, fun v H' ds e dp sh => ⟨by show 0 ≤ sizeLine; exact Nat.zero_le _, fun p3 n3 => ?_⟩⟩
  exact ⟨.list ds, .list [], Dp.grow (Ex.new n3) _ _ dp, .lst (.of upd_same) .nil, sh, rfl, _, rfl, q _ Hc _ (Ex.refl _) (W.grow w2 (e.trans (Ex.new n3))) trivial⟩
theorem scHouseG : FnScope ["_law_bag_here", "_law_kinds", "_law_calls", "_law_many", "_law_way", "_law_found", "_law_turn", "_law_two"] ["_law_bag_here", "_law_kinds", "_law_calls"] (defScope (top 34)) := ⟨rfl, rfl, rfl, by decide +kernel, rfl, by decide +kernel, by decide +kernel⟩
theorem ew_spPaths {a : Addr} {m n : Nat} {Hc : Hp} {us : List V} (eu : us = [.ref a, .int m, .int n]) (m1 : 1 ≤ m) (m6 : m ≤ 6) (n1 : 1 ≤ n) (n8 : n ≤ 8) : SpW (fun Hc H => Bag Hc H a) spPaths us Hc (isCalls m 20) := fun H1 w1 Q E q => ⟨Hc, a, m, n, eu, w1, m1, m6, n1, n8, fun v Hc' H' e B c => q v Hc' H' e B c⟩
theorem d_house (T : Txt K mg) : Dfn P w K mg base 4 "_law_house" ["_law_bag_here", "_law_kinds", "_law_calls"] spHouseG := by
  refine mk_dfn (j := 18) T rfl scHouseG (fun vs H Q E h => ?_) (fun _ _ _ _ _ _ us hl => match us, hl with | [_, _, _], _ => rfl) (fun cdv A outer s H vs Q E hr h => ?_)
  · obtain ⟨_, _, _, _, rfl, _⟩ := h
    rfl
  · obtain ⟨Hc, a, k, n, rfl, B, k1, k6, n1, n8, kk⟩ := h
    refine ⟨_, (pss_cons (ps_par (i := 3) (j := 4) rfl scHouseG.nd rfl rfl (by decide) (by rfl) (by rfl) (pa_cons (pe_callB (call_min2 rfl) (by rfl) (T.free "min") (by decide +kernel) (pa_cons (pv 1) (pa_cons (pe_dfn (d_one T) (hr.mono (by decide)) (pa_cons (pv 0) (pa_cons (pe_lst (pa_cons pe_int (pa_cons pe_int (pa_cons pe_int (pa_cons pe_int (pa_cons pe_int (pa_cons (pv 1) (pa_cons pe_int (pa_cons pe_int pa_nil))))))))) pa_nil))) pa_nil))) (pa_cons (pe_dfn (d_take T) (hr.mono (by decide)) (pa_cons (pv 0) (pa_cons pe_int pa_nil))) pa_nil)) rfl)
      (pss_cons (ps_if (pt_cmpR op_lt (pv 4) pe_int (nomark _)) (pss_cons (ps_set (i := 5) scHouseG.nd rfl (by first | exact Or.inl rfl | exact Or.inr rfl) (pe_dfn (d_paths T) (hr.mono (by decide)) (pa_cons (pv 0) (pa_cons (pv 3) (pa_cons (pv 2) pa_nil)))))
        (pss_one (ps_for PassesOwn.never rfl (pi_range1 (by rfl) (T.free "range") (pa_cons (pe_op op_mul pe_int (pe_callTy call_int1 (by rfl) (T.free "int") (by decide +kernel) (pa_cons (pe_and (pe_cmpR op_gt (pv 4) pe_int (nomark _)) (pe_one (pe_cmpR op_gt (pv 3) pe_int (nomark _)))) pa_nil))) pa_nil)) (pg_name (i := 6) scHouseG.nd rfl (by first | exact Or.inl rfl | exact Or.inr rfl)) (pss_one (ps_if (pt_cmpR (op_eqD hr.units) (pe_dfn (d_forks T) (hr.mono (by decide)) (pa_cons (pe_tup (pa_cons (pe_tup pa_nil) (pa_cons (pv 5) pa_nil))) pa_nil)) (pe_lst pa_nil) (nomark _)) (pss_one (ps_set (i := 5) scHouseG.nd rfl (by first | exact Or.inl rfl | exact Or.inr rfl) (pe_dfn (d_bent_call T) (hr.mono (by decide)) (pa_cons (pv 0) (pa_cons (pv 3) (pa_cons (pv 5) pa_nil)))))) pss_nil))))) (pss_one (ps_if (PW.pt (pw_and (pt_cmpR op_eq (pv 4) pe_int (nomark _)) (pw_and1 (pt_cmpR op_gt (pv 3) pe_int (nomark _))))) (pss_cons (ps_set (i := 7) scHouseG.nd rfl (by first | exact Or.inl rfl | exact Or.inr rfl) (pe_callB cr_sorted (by rfl) (T.free "sorted") (by decide +kernel) (pa_cons (pe_slice sl_list (pe_dfn (d_mixed T) (hr.mono (by decide)) (pa_cons (pv 0) (pa_cons (pe_listRg rfl (by rfl) (T.free "list") (prg_1 (by rfl) (T.free "range") (pv 3))) pa_nil))) po_none (po_some pe_int)) pa_nil)))
          (pss_one (ps_set (i := 5) scHouseG.nd rfl (by first | exact Or.inl rfl | exact Or.inr rfl) (pe_op op_cat (pe_lst (pa_cons (pe_tupleOf (by rfl) (T.free "tuple") (pv 7)) (pa_cons (pe_tup (pa_cons (pe_ix ix_list (pv 7) pe_int (fun _ _ => rfl)) pa_nil)) (pa_cons (pe_tup (pa_cons (pe_ix ix_list (pv 7) pe_int (fun _ _ => rfl)) pa_nil)) pa_nil)))) (pe_dfn (d_any_calls T) (hr.mono (by decide)) (pa_cons (pv 0) (pa_cons (pv 3) (pa_cons pe_int pa_nil)))))))) (pss_one (ps_set (i := 5) scHouseG.nd rfl (by first | exact Or.inl rfl | exact Or.inr rfl) (pe_dfn (d_any_calls T) (hr.mono (by decide)) (pa_cons (pv 0) (pa_cons (pv 3) (pa_cons (pv 2) pa_nil)))))))))
      (pss_one (ps_ret (pe_dfn (d_named T) (hr.mono (by decide)) (pa_cons (pv 0) (pa_cons (pv 3) (pa_cons (pv 5) (pa_cons (pv 2) pa_nil))))))))), ?_⟩
    have W := bagW a
    refine w_par (PL := fun vs _ => ∃ (m : Nat) (y : Int), vs = [.int (m : Int), .int y] ∧ 1 ≤ m ∧ m ≤ 6) ((ewa_two (P1 := fun v _ => ∃ m : Nat, v = .int (m : Int) ∧ 1 ≤ m ∧ m ≤ 6) (P2 := fun _ vs _ => ∃ y : Int, vs = [.int y]) (ew_cb (P1 := fun vs _ => ∃ x : Int, vs = [.int k, .int x] ∧ x ∈ [(2 : Int), 3, 1, 4, 3, k, 5, 2]) ((ewa_v rfl (ewa_one (ew_one (P1 := fun x _ => ∃ i ∈ [(2 : Int), 3, 1, 4, 3, (k : Int), 5, 2], x = .int i) (ew W (ev_var rfl)) (fun H1 e1 => ew_ints W (ns := [2, 3, 1, 4, 3, (k : Int), 5, 2]) (ea_cons ev_c (ea_cons ev_c (ea_cons ev_c (ea_cons ev_c (ea_cons ev_c (ea_cons (ev_var rfl) (ea_cons ev_c (ea_cons ev_c ea_nil)))))))) (by simp) (by simp))))).imp fun vs H' _ ⟨r, e1, x, e2, i, hi, e3⟩ => ⟨i, by rw [e1, e2, e3], hi⟩)
          (fun vs H1 e1 ⟨x, ev, hx⟩ H2 w2 Q q => ⟨k, x, ev, q _ H1 H2 (Ex.refl _) w2 ⟨(if x < k then x else k).toNat, by
            simp at hx
            rw [Int.toNat_of_nonneg (by split <;> omega)], by simp at hx; split <;> omega, by simp at hx; split <;> omega⟩⟩))
        (fun x H1 e1 _ => (ewa_one (ew_take (m := 10) (ew W (ev_var rfl)) (fun H2 _ => ew W ev_c) (by omega) (by omega))).imp fun vs H' _ ⟨x, ev, r, er, _⟩ => ⟨r, by rw [ev, er]⟩)).imp fun vs H' _ ⟨x, r, H1, ev, _, ⟨m, ex, m1, m6⟩, _, y, er⟩ => ⟨m, y, by rw [ev, ex, er], m1, m6⟩) B fun vs Hc1 H1 e1 B1 ⟨m, y, ev, m1, m6⟩ => ⟨_, _, ev, ?_⟩
    -- the last row
    have fin : ∀ (D : Ends) (Hk H' : Hp) (f : Addr) (N : Nat) (u t : Option V), D.rt = Q → Ex Hc Hk → Bag Hk H' a → N ≤ 1000 → isCalls m N (.ref f) Hk → tRet (tCall spNamed [] E0 (tCons (tVar 0) (tCons (tVar 3) (tCons (tVar 5) (tCons (tVar 2) tNil))))) D [some (.ref a), some (.int k), some (.int n), some (.int m), some (.int y), some (.ref f), u, t] H' := fun D Hk H' f N u t eD e B' hN hc => by
      refine ⟨_, rfl, _, rfl, _, rfl, _, rfl, Hk, a, f, m, n, N, rfl, B', m1, m6, n1, n8, hN, hc, fun h ks cs Hc' H2 e2 B2 hh ho => ?_⟩
      rw [eD]
      exact kk h ks cs Hc' H2 (e.trans e2) B2 hh ho
    refine w_if (ewT W (et_test (ev_op (ev_var rfl) (ev_c (v := .int 7)) rv_I0))) B1 (fun Hc2 H2 e2 B2 _ => ?_) (fun Hc2 H2 e2 B2 _ => ?_)
    · refine w_set (P := isCalls m 20) (ew_call (ewa_of W (ea_cons (ev_var rfl) (ea_cons (ev_var rfl) (ea_cons (ev_var rfl) ea_nil)))) fun vs H3 e3 ev => ew_spPaths (by rw [show vs = _ from ev]; rfl) m1 m6 n1 n8) B2 (fun v Hc3 H3 e3 B3 hc => ?_)
      obtain ⟨f0, ps0, cs0, ev, _⟩ := id hc
      subst ev
      have x3 := (e1.trans e2).trans e3
      refine seq_last (w_forRB (PL := fun us _ => ∃ j : Nat, us = [.int (j : Int)] ∧ j ≤ 4) ((ewa_one (P1 := fun v _ => ∃ j : Nat, v = .int (j : Int) ∧ j ≤ 4) (ew_op (P1 := isV (.int 4)) (P2 := fun _ v _ => ∃ b : Bool, v = .int (if b then 1 else 0)) (ew W ev_c) (fun x H4 e4 _ => (ew W (ev_cb (ea_cons (ev_andV (ev_op (ev_var rfl) ev_c rv_I0) fun _ => ev_op (ev_var rfl) ev_c rv_I0) ea_nil) fun H5 e5 Q q => .inr ⟨_, rfl, q H5 (Ex.refl _)⟩)).imp fun v H' _ ev => ⟨_, ev⟩) (fun x y H4 H5 e4 ex e5 ⟨b, ey⟩ => by
          rw [show x = V.int 4 from ex, ey]
          refine rw_imp (rw_of W (rv_I ?_)) fun v H' _ ev => ⟨if b then 4 else 0, by rw [show v = _ from ev]; cases b <;> rfl, by cases b <;> decide⟩
          cases b <;> exact .inr ⟨by decide, by decide⟩))).imp fun us H' _ ⟨x, ev, j, ex, hj⟩ => ⟨j, by rw [ev, ex], hj⟩) B3 (fun us Hc4 H4 e4 B4 ⟨j, eu, hj⟩ => ?_))
      subst eu
      refine w_forR (n := j) (Pv := fun i σ' Hk => ∃ f u, σ' = [some (.ref a), some (.int k), some (.int n), some (.int m), some (.int y), some (.ref f), u, none] ∧ Ex Hc Hk ∧ isCalls m (20 + i) (.ref f) Hk) W B4 ewa_cs (by omega) (fun Hk e => ⟨f0, none, rfl, x3.trans (e4.trans e), hc.ex (e4.trans e)⟩) (fun i σ' Hk H' hi ⟨f, u, eσ, e, hcf⟩ wk => ?_) (fun σ' Hk H' ⟨f, u, eσ, e, hcf⟩ wk => ?_)
      · subst eσ
        refine w_if1 (ewt_forks (K := K) (m := m) (n := 20 + i) rfl hcf (by omega) (by omega)) wk (fun Hk2 H5 e5 B5 _ => ?_) (fun Hk2 H5 e5 B5 _ => ?_)
        · refine w_set1 (P := isCalls m (20 + i + 1)) (ew_call (ewa_of W (ea_cons (ev_var rfl) (ea_cons (ev_var rfl) (ea_cons (ev_var rfl) ea_nil)))) fun vs H6 e6 ev H7 w7 Q E q => ⟨H6, a, f, m, 20 + i, by rw [show vs = _ from ev]; rfl, w7, m1, m6, by omega, hcf.ex (e5.trans e6), fun v Hc' H' e B c => q v Hc' H' e B c⟩) B5 (fun v Hk3 H6 e6 B6 hc6 => ?_)
          obtain ⟨f6, _, _, ev, _⟩ := id hc6
          subst ev
          exact ⟨Hk3, B6, f6, _, rfl, e.trans (e5.trans e6), hc6⟩
        · obtain ⟨g1, g2, g3, g4, g5, g6, g7, g8⟩ := hcf.ex e5
          exact ⟨Hk2, B5, f, _, rfl, e.trans e5, g1, g2, g3, g4, g5, g6, g7, by omega⟩
      · subst eσ
        exact fin _ Hk H' f _ _ _ rfl e wk (by omega) hcf
    · refine w_if1 (PT := fun b _ => b = true → 1 < m) ((ewt_and (ewT W (et_test (ev_op (ev_var rfl) (ev_c (v := .int 7)) (rv_eq rfl)))) fun _ H3 e3 => ewT W (et_test (ev_op (ev_var rfl) (ev_c (v := .int 1)) rv_I0))).imp fun b H' _ eb hb => by
          have eb : b = _ := eb
          rw [hb, eq_comm, Bool.and_eq_true] at eb
          have := of_decide_eq_true eb.2
          omega) B2 (fun Hc3 H3 e3 B3 hm => ?_) (fun Hc3 H3 e3 B3 _ => ?_)
      · have hm := hm rfl
        -- two
        refine w_set (P := fun v H' => ∃ (p : Addr) (x y : Int), v = .ref p ∧ H' p = some (.lst [.int x, .int y]) ∧ 0 ≤ x ∧ x < y ∧ y < m) ((ew_sortI' (K := K) W ((ew_slToP (A := fun xs => ∃ js : List Int, xs = js.map V.int ∧ js.Nodup ∧ js.length = m ∧ ∀ x ∈ js, 0 ≤ x ∧ x < (m : Int)) (PI := fun i => i = 2) W ((ew_mixed (xs := (KH.rng m).map V.int) (ew W (ev_var rfl)) (fun H5 e5 => (ew_listRg1 W (ev_var rfl) (RgOk.of_le (by omega) (by omega) (by omega) (by omega))).imp fun v H' _ ⟨p, _, ev, hp⟩ => ⟨p, ev, .of (by
              rw [hp, rg_ints]
              have : ((List.range ((m : Int) - 0).toNat).map fun k : Nat => (0 : Int) + (k : Int)) = KH.rng m := by
                unfold KH.rng
                rw [Int.sub_zero, Int.toNat_natCast]
                exact List.map_congr_left fun _ _ => Int.zero_add _
              rw [this])⟩) (by rw [List.length_map, KH.rng_len]; omega)).imp fun v H' _ ⟨p, ys, pm, _, ev, hp⟩ => by
              obtain ⟨js, ej, pj⟩ := perm_ints pm
              exact ⟨p, ys, ev, hp, js, ej, pj.nodup_iff.mpr (KH.asc_nodup (KH.rng_asc m)), by rw [pj.length_eq, KH.rng_len], fun x hx => KH.rng_mem.mp (pj.mem_iff.mp hx)⟩)
            (fun H5 e5 => (ew W (ev_c (v := .int 2))).imp fun v H' _ ev => ⟨2, ev, by omega, rfl⟩)).imp fun v H' _ ⟨p, zs, ev, hp, xs, i, ez, ⟨js, ex, nd, lj, rj⟩, _, ei⟩ => ⟨p, js.take 2, ev, by rw [hp, ez, ex, ei, ← List.map_take]; rfl, (by
              have : (js.take 2).length = 2 := by rw [List.length_take]; omega
              exact this), nd.sublist (List.take_sublist _ _), fun x hx => rj x (List.mem_of_mem_take hx)⟩)).imp fun v H' _ ⟨p, x, y, ev, hp, xy, h⟩ => ⟨p, x, y, ev, hp, h⟩) B3 (fun v Hc4 H4 e4 B4 ⟨p, x, y, ev, hp, x0, xy, ym⟩ => ?_)
        subst ev
        refine w_set1 (P := isCalls m (3 + 20)) (ew_catC (n1 := 3) (n2 := 20) W ((ew_lstP (PL := fun vs H' => ∃ t1 t2 t3, vs = [.ref t1, .ref t2, .ref t3] ∧ TupIAt H' t1 [x, y] ∧ TupIAt H' t2 [x] ∧ TupIAt H' t3 [y]) W
            ((ewa_two (P2 := fun _ vs H' => ∃ t2 t3, vs = [.ref t2, .ref t3] ∧ TupIAt H' t2 [x] ∧ TupIAt H' t3 [y]) (ewU W (eu_tupK (xs := [.int x, .int y]) (ev_var rfl) (.of hp))) (fun _ H5 e5 _ =>
              (ewa_two (P2 := fun _ vs H' => ∃ t3, vs = [.ref t3] ∧ TupIAt H' t3 [y]) (ewU W (eu_tup (vs := [.int x]) (ea_cons (ev_op (ev_var rfl) (ev_c (v := .int 0)) (rv_ixL (.of (e5 _ _ hp)) at_zero)) ea_nil) (by simp))) (fun _ H6 e6 _ =>
                (ewa_one (ewU W (eu_tup (vs := [.int y]) (ea_cons (ev_op (ev_var rfl) (ev_c (v := .int 1)) (rv_ixL (.of (e6 _ _ (e5 _ _ hp))) (atI_nat (j := 1) rfl))) ea_nil) (by simp)))).imp fun vs H' _ ⟨u, ev, t, _, eu, ht⟩ => ⟨t, by rw [ev, eu], ht⟩)).imp fun vs H' _ ⟨u, r, H7, ev, _, ⟨t, _, eu, ht⟩, e8, t3, er, ht3⟩ => ⟨t, t3, by rw [ev, eu, er], e8 _ _ ht, ht3⟩)).imp fun vs H' _ ⟨u, r, H7, ev, _, ⟨t, _, eu, ht⟩, e8, t2, t3, er, ht2, ht3⟩ => ⟨t, t2, t3, by rw [ev, eu, er], e8 _ _ ht, ht2, ht3⟩)
            (fun vs H' ⟨_, _, _, ev, _⟩ => by rw [ev]; show 3 ≤ 100000; decide)).imp fun v H' _ ⟨p3, vs, H5, ev, hp3, ⟨t1, t2, t3, evs, h1, h2, h3⟩, _, e6⟩ => ⟨p3, [t1, t2, t3], [[x, y], [x], [y]], ev, by rw [hp3, evs]; rfl, .cons (e6 _ _ h1) (.cons (e6 _ _ h2) (.cons (e6 _ _ h3) .nil)), ⟨by simp, fun c hc => by
              simp only [List.mem_cons, List.not_mem_nil, or_false] at hc
              rcases hc with rfl | rfl | rfl
              · exact ⟨by simp, by simpa using xy, fun z hz => by
                  simp only [List.mem_cons, List.not_mem_nil, or_false] at hz
                  rcases hz with rfl | rfl <;> omega⟩
              · exact ⟨by simp, by simp, fun z hz => by
                  have : z = x := by simpa using hz
                  omega⟩
              · exact ⟨by simp, by simp, fun z hz => by
                  have : z = y := by simpa using hz
                  omega⟩⟩, by simp⟩)
          (fun H5 e5 => ew_call (ewa_of W (ea_cons (ev_var rfl) (ea_cons (ev_var rfl) (ea_cons ev_c ea_nil)))) fun vs H6 e6 ev => ew_spPaths (n := 2) (by rw [show vs = _ from ev]; rfl) m1 m6 (by omega) (by omega)) (by omega)) B4 (fun v Hc5 H5 e5 B5 hc => ?_)
        obtain ⟨f0, ps0, cs0, ev, _⟩ := id hc
        subst ev
        exact fin _ Hc5 H5 f0 _ _ _ rfl (e1.trans (e2.trans (e3.trans (e4.trans e5)))) B5 (by omega) hc
      · refine w_set1 (P := isCalls m 20) (ew_call (ewa_of W (ea_cons (ev_var rfl) (ea_cons (ev_var rfl) (ea_cons (ev_var rfl) ea_nil)))) fun vs H4 e4 ev => ew_spPaths (by rw [show vs = _ from ev]; rfl) m1 m6 n1 n8) B3 (fun v Hc4 H4 e4 B4 hc => ?_)
        obtain ⟨f0, ps0, cs0, ev, _⟩ := id hc
        subst ev
        exact fin _ Hc4 H4 f0 _ _ _ rfl (e1.trans (e2.trans (e3.trans e4))) B4 (by omega) hc
end
end KK
set_option maxHeartbeats 4000000
/-! _law_stretch. -/
namespace KK
open PySem PySem.Spec PyProof.Rows L2 Evl
inductive Dd where
  | put (k : Str)
  | call (c : List Str)
def DdAt (H : Hp) (q : Addr) : Dd → Prop
  | .put k => H q = some (.tup [.str "put", .str k])
  | .call c => ∃ b, H q = some (.tup [.str "call", .ref b]) ∧ TupAt H b c
def DdOk (ks : List Str) (cs : List (List Str)) : Dd → Prop
  | .put k => k ∈ ks
  | .call c => c ∈ cs
theorem DdAt.tex {H H' : Hp} {q : Addr} (e : TEx H H') : ∀ {d : Dd}, DdAt H q d → DdAt H' q d
  | .put _, h => e _ _ h
  | .call _, ⟨b, h1, h2⟩ => ⟨b, e _ _ h1, e _ _ h2⟩
theorem DdAt.ex {H H' : Hp} {q : Addr} {d : Dd} (e : Ex H H') (h : DdAt H q d) : DdAt H' q d := h.tex (.of e)
abbrev DdR (ks : List Str) (cs : List (List Str)) (H : Hp) (q : Addr) (d : Dd) : Prop := DdAt H q d ∧ DdOk ks cs d
def tagD : Dd → Str × PyData
  | .put k => ("put", .str k)
  | .call c => ("call", dT c)
theorem tag_alike : ∀ {d e : Dd}, (tagD d).1 = (tagD e).1 → PySem.W.alike (tagD d).2 (tagD e).2 = true
  | .put _, .put _, _ => by simp [tagD, PySem.W.alike]
  | .call _, .call _, _ => alike_T _ _
  | .put _, .call _, h => by
    have h : ("put" : Str) = "call" := h
    exact absurd h (by decide)
  | .call _, .put _, h => by
    have h : ("call" : Str) = "put" := h
    exact absurd h (by decide)
theorem tag_flat : ∀ d : Dd, Flatish (tagD d).2
  | .put _ => ⟨(fun h => by cases h), by show PyData.depth (.str _) ≤ 60; rw [PyData.depth]; decide⟩
  | .call _ => flat_T _
theorem tag_at {K : PySem.W.Frag} {H : Hp} {q : Addr} : ∀ {d : Dd}, DdAt H q d → ∃ y, SqT K H q [.str (tagD d).1, y] ∧ Dp K H y (tagD d).2
  | .put k, h => ⟨_, .of h, .str k⟩
  | .call c, ⟨b, h1, h2⟩ => ⟨_, .of h1, dp_T (.of h2)⟩
section
variable {W : Hp → Hp → Prop} {K : PySem.W.Frag} {Hc H : Hp} {σ : L2.St} {te ta tb : TE} {ts : TA} {PL : List V → Hp → Prop}
theorem ew_tupP (w : Wld W) (h : EWA W ts σ Hc PL) (hl : ∀ vs H', PL vs H' → vs.length ≤ 100000) : EW W (tTup ts) σ Hc (fun v H' => ∃ p vs H1, v = .ref p ∧ H' p = some (.tup vs) ∧ PL vs H1 ∧ Ex Hc H1 ∧ Ex H1 H') := fun H1 w1 Q q => h H1 w1 _ fun vs Hc1 H2 e1 w2 pl => ⟨sz_of (hl vs Hc1 pl), fun p np => by
  have n0 := fresh_back (w.ex w2) np
  exact q (.ref p) _ _ (e1.trans (Ex.new n0)) (w.add w2 np (Ex.new np) upd_same) ⟨p, vs, Hc1, rfl, upd_same, pl, e1, Ex.new n0⟩⟩
/-- sorted(deeds)[::-1] -/
theorem ew_sortDd {ks : List Str} {cs : List (List Str)} {l : Addr} {qs : List Addr} {ds : List Dd} (w : Wld W) (h : EW W te σ Hc (isV (.ref l))) (hl : Hc l = some (.lst (qs.map V.ref))) (hq : Each (DdR ks cs Hc) qs ds) :
    EW W (tRevL K (tCB (rSortedT K) (tCons te tNil))) σ Hc (fun v H' => ∃ p us es, Hc p = none ∧ v = .ref p ∧ H' p = some (.lst (us.map V.ref)) ∧ Each (DdR ks cs H') us es ∧ es.length = ds.length) := fun H1 w1 Q q => h H1 w1 _ fun v Hc1 H2 e1 w2 ev => by
  classical
  have ev : v = .ref l := ev
  subst ev
  have hm : ∀ t ∈ qs, ∃ d, DdR ks cs Hc t d := fun t ht => by
    obtain ⟨d, _, r⟩ := hq.mem t ht
    exact ⟨d, r⟩
  let g : Addr → Dd := fun t => if h : ∃ d, DdR ks cs Hc t d then Classical.choose h else .put ""
  have hg : ∀ t ∈ qs, DdR ks cs Hc t (g t) := fun t ht => by
    have h := hm t ht
    show DdR ks cs Hc t (if h : ∃ d, DdR ks cs Hc t d then Classical.choose h else .put "")
    rw [dif_pos h]
    exact Classical.choose_spec h
  refine ⟨l, qs, fun t => tagD (g t), rfl, .of (w.ex w2 _ _ (e1 _ _ hl)), fun t ht => tag_at ((hg t ht).1.ex (e1.trans (w.ex w2))), fun t _ u _ e => tag_alike e, fun t _ => tag_flat _, fun p us pm np => ⟨p, us.map V.ref, rfl, .of upd_same, fun r nr => ?_⟩⟩
  have w3 := w.add w2 np (Ex.new np) (o := .lst (us.map V.ref)) upd_same
  have n0 := fresh_back (w.ex w3) nr
  have n1 := fresh_back (w.ex w2) np
  have e4 := (e1.trans (Ex.new n1)).trans (Ex.new (o := .lst (us.map V.ref).reverse) n0)
  refine q (.ref r) _ _ e4 (w.add w3 nr (Ex.new nr) upd_same) ⟨r, us.reverse, us.reverse.map g, fresh_back (e1.trans (Ex.new n1)) n0, rfl, by rw [upd_same, List.map_reverse], Each.of g fun t ht => ?_, ?_⟩
  · have z := hg t (pm.mem_iff.mp (List.mem_reverse.mp ht))
    exact ⟨z.1.ex e4, z.2⟩
  · rw [List.length_map, List.length_reverse, pm.length_eq, hq.length]
end
section
variable {P : Program} {w : World} {K : PySem.W.Frag} {mg : Str → Option Value} {base : Heap}
def spStretch : Sp := fun vs H Q _ => ∃ (Hc : Hp) (a h : Addr) (ks : List Str) (cs : List (List Str)) (most : Nat), vs = [.ref a, .ref h, .int most] ∧ Bag Hc H a ∧ HouseAt Hc h ks cs ∧ HOk ks cs ∧ most ≤ 40 ∧
  ∀ t qs ds Hc' H', Ex Hc Hc' → Bag Hc' H' a → Hc' t = some (.tup (qs.map V.ref)) → Each (DdR ks cs Hc') qs ds → ds.length ≤ most → Q (.ref t) H'
theorem scStretch : FnScope ["_law_bag_here", "_law_house_here", "_law_most", "_law_many", "_law_share", "_law_found", "_law_turn", "_law_is_put"] ["_law_bag_here", "_law_house_here", "_law_most"] (defScope (top 40)) := ⟨rfl, rfl, rfl, by decide +kernel, rfl, by decide +kernel, by decide +kernel⟩
theorem d_stretch (T : Txt K mg) : Dfn P w K mg base 3 "_law_stretch" ["_law_bag_here", "_law_house_here", "_law_most"] spStretch := by
  refine mk_dfn (j := 24) T rfl scStretch (fun vs H Q E h => ?_) (fun _ _ _ _ _ _ us hl => match us, hl with | [_, _, _], _ => rfl) (fun cdv A outer s H vs Q E hr h => ?_)
  · obtain ⟨_, _, _, _, _, _, rfl, _⟩ := h
    rfl
  · obtain ⟨Hc, a, h, ks, cs, most, rfl, B, hh, hk, hm, kk⟩ := h
    refine ⟨_, (pss_cons (ps_par (i := 3) (j := 4) rfl scStretch.nd rfl rfl (by decide) (by rfl) (by rfl) (pa_cons (pe_dfn (d_take T) (hr.mono (by decide)) (pa_cons (pv 0) (pa_cons (pe_op op_add (pv 2) pe_int) pa_nil))) (pa_cons (pe_dfn (d_one T) (hr.mono (by decide)) (pa_cons (pv 0) (pa_cons (pe_lst (pa_cons pe_int (pa_cons pe_int (pa_cons pe_int (pa_cons pe_int (pa_cons pe_int pa_nil)))))) pa_nil))) pa_nil)) rfl)
      (pss_cons (ps_set (i := 5) scStretch.nd rfl (by first | exact Or.inl rfl | exact Or.inr rfl) (pe_lst pa_nil))
      (pss_cons (ps_for PassesOwn.never rfl (pi_range1 (by rfl) (T.free "range") (pa_cons (pv 3) pa_nil)) (pg_name (i := 6) scStretch.nd rfl (by first | exact Or.inl rfl | exact Or.inr rfl)) (pss_cons (ps_set (i := 7) scStretch.nd rfl (by first | exact Or.inl rfl | exact Or.inr rfl) (pe_cmpR op_lt (pe_dfn (d_take T) (hr.mono (by decide)) (pa_cons (pv 0) (pa_cons pe_int pa_nil))) (pv 4) (nomark _)))
        (pss_one (ps_expr (pe_bm PySem.F.plainAttrs_list PySem.F.slot_list_append PySem.F.type_list_append mt_append (pv 5) (pa_cons (pe_ifExp (pt_val (pv 7)) (pe_tup (pa_cons pe_str (pa_cons (pe_dfn (d_one T) (hr.mono (by decide)) (pa_cons (pv 0) (pa_cons (pe_ix ix_tup (pv 1) pe_int (fun _ _ => rfl)) pa_nil))) pa_nil))) (pe_tup (pa_cons pe_str (pa_cons (pe_dfn (d_one T) (hr.mono (by decide)) (pa_cons (pv 0) (pa_cons (pe_ix ix_tup (pv 1) pe_int (fun _ _ => rfl)) pa_nil))) pa_nil)))) pa_nil))))))
      (pss_cons (ps_if (pt_cmpR op_eq (pe_dfn (d_take T) (hr.mono (by decide)) (pa_cons (pv 0) (pa_cons pe_int pa_nil))) pe_int (nomark _)) (pss_one (ps_set (i := 5) scStretch.nd rfl (by first | exact Or.inl rfl | exact Or.inr rfl) (pe_revL (pe_callB (cr_sortedT (room66 hr)) (by rfl) (T.free "sorted") (by decide +kernel) (pa_cons (pv 5) pa_nil))))) pss_nil)
      (pss_one (ps_ret (pe_tupleOf (by rfl) (T.free "tuple") (pv 5)))))))), ?_⟩
    have W := bagW a
    refine w_par (PL := fun vs _ => ∃ (m : Nat) (y : Int), vs = [.int (m : Int), .int y] ∧ m ≤ most) ((ewa_two (P1 := fun v _ => ∃ r : Int, v = .int r ∧ 0 ≤ r ∧ r < (most : Int) + 1) (P2 := fun _ vs _ => ∃ y : Int, vs = [.int y]) (ew_take (m := (most : Int) + 1) (ew W (ev_var rfl)) (fun H1 _ => ew W (ev_op (ev_var rfl) ev_c rv_I0)) (by omega) (by omega))
        (fun x H1 e1 _ => (ewa_one (ew_one (P1 := fun x _ => ∃ i ∈ [(3 : Int), 3, 5, 2, 4], x = .int i) (ew W (ev_var rfl)) (fun H2 e2 => ew_ints W (ns := [3, 3, 5, 2, 4]) (ea_cons ev_c (ea_cons ev_c (ea_cons ev_c (ea_cons ev_c (ea_cons ev_c ea_nil))))) (by decide) (by decide)))).imp fun vs H' _ ⟨x, ev, i, _, ei⟩ => ⟨i, by rw [ev, ei]⟩)).imp fun vs H' _ ⟨x, r, H1, ev, _, ⟨m, ex, m0, m1⟩, _, y, er⟩ => ⟨m.toNat, y, by rw [ev, ex, er, Int.toNat_of_nonneg m0], by omega⟩) B fun vs Hc1 H1 e1 B1 ⟨m, y, ev, hmm⟩ => ⟨_, _, ev, ?_⟩
    refine w_set (P := isL Hc1 []) (ewL W (el_lst ea_nil (by simp))) B1 (fun v Hc2 H2 e2 B2 ⟨p, np, ev, hp⟩ => ?_)
    subst ev
    have hh2 := hh.ex (e1.trans e2)
    refine w_forR (n := m) (Pv := fun i σ' Hk => ∃ u b, σ' = [some (.ref a), some (.ref h), some (.int most), some (.int m), some (.int y), some (.ref p), u, b] ∧ Ex Hc1 Hk ∧ ∃ qs ds, Hk p = some (.lst (qs.map V.ref)) ∧ Each (DdR ks cs Hk) qs ds ∧ ds.length = i) W B2 (ewa_of W (ea_cons (ev_var rfl) ea_nil)) (by omega) (fun Hk e => ⟨none, none, rfl, e2.trans e, [], [], e _ _ hp, .nil, rfl⟩) (fun i σ' Hk H' hi ⟨u, b, eσ, e, qs, ds, hpp, hqs, ld⟩ wk => ?_) (fun σ' Hk H' ⟨u, b, eσ, e, qs, ds, hpp, hqs, ld⟩ wk => ?_)
    · subst eσ
      obtain ⟨ka, kb, pc, hk1, hk2, hk3, hk4⟩ := hh.ex (e1.trans e)
      refine w_set (P := fun v _ => ∃ b, v = .bl b) (ew_op (P1 := fun v _ => ∃ r : Int, v = .int r ∧ 0 ≤ r ∧ r < 6) (P2 := fun _ => isV (.int y)) (ew_take (m := 6) (ew W (ev_var rfl)) (fun H1 _ => ew W ev_c) (by omega) (by omega)) (fun x H3 _ _ => ew W (ev_var rfl)) (fun x z H3 H4 e3 ⟨r, ex, _⟩ e4 ez => by
          rw [ex, show z = V.int y from ez]
          exact rw_imp (rw_of W rv_I0) fun v H' _ ev => ⟨_, ev⟩)) wk (fun v Hk1 H3 e3 B3 ⟨b1, ev⟩ => ?_)
      subst ev
      have hpp1 := e3 _ _ hpp
      refine w_app1 (P := fun v H' => ∃ q d, v = .ref q ∧ DdR ks cs H' q d) W B3 (ev_var rfl) hpp1 (ew_if (b := b1) (ewT W (et_B (ev_var rfl)))
        (fun _ H4 e4 => (ew_tupP (PL := fun vs _ => ∃ k ∈ ks, vs = [.str "put", .str k]) W ((ewa_c (ewa_one (ew_one (P1 := fun x _ => ∃ k ∈ ks, x = .str k) (ew W (ev_var rfl)) (fun H5 e5 => (ew W (ev_op (ev_var rfl) (ev_c (v := .int 0)) (rv_ixT (.of (e5 _ _ (e4 _ _ (e3 _ _ hk1)))) rfl))).imp fun v H' e6 ev => ⟨ka, _, ev, .inr (.of (e6 _ _ (e5 _ _ (e4 _ _ (e3 _ _ hk2))))), by rw [List.length_map]; exact hk.k1, by rw [List.length_map]; have := hk.k6; omega, fun x hx => by
            obtain ⟨k, hk, rfl⟩ := List.mem_map.mp hx
            exact ⟨k, hk, rfl⟩⟩)))).imp fun vs H' _ ⟨r, e1, x, e2, k, hk, e3⟩ => ⟨k, hk, by rw [e1, e2, e3]⟩) (fun vs H' ⟨k, _, e⟩ => by rw [e]; show 2 ≤ 100000; decide)).imp fun v H' _ ⟨p1, vs, H5, ev, hp1, ⟨k, hkk, evs⟩, _, _⟩ => ⟨p1, .put k, ev, by show H' p1 = _; rw [hp1, evs], hkk⟩)
        (fun _ H4 e4 => (ew_tupP (PL := fun vs H' => ∃ b c, vs = [.str "call", .ref b] ∧ TupAt H' b c ∧ c ∈ cs) W ((ewa_c (ewa_one (ew_one (P1 := fun x H' => ∃ b c, x = .ref b ∧ TupAt H' b c ∧ c ∈ cs) (ew W (ev_var rfl)) (fun H5 e5 => (ew W (ev_op (ev_var rfl) (ev_c (v := .int 1)) (rv_ixT (.of (e5 _ _ (e4 _ _ (e3 _ _ hk1)))) rfl))).imp fun v H' e6 ev => ⟨kb, _, ev, .inr (.of (e6 _ _ (e5 _ _ (e4 _ _ (e3 _ _ hk3))))), by rw [List.length_map, hk4.length]; exact hk.c1, by rw [List.length_map, hk4.length]; have := hk.c8; omega, fun x hx => by
            obtain ⟨b, hb, rfl⟩ := List.mem_map.mp hx
            obtain ⟨c, hc, ht⟩ := hk4.mem b hb
            exact ⟨b, c, rfl, e6 _ _ (e5 _ _ (e4 _ _ (e3 _ _ ht))), hc⟩⟩)))).imp fun vs H' _ ⟨r, e1, x, e2, b, c, e3, ht, hc⟩ => ⟨b, c, by rw [e1, e2, e3], ht, hc⟩) (fun vs H' ⟨b, c, e, _⟩ => by rw [e]; show 2 ≤ 100000; decide)).imp fun v H' _ ⟨p1, vs, H5, ev, hp1, ⟨b, c, evs, ht, hc⟩, _, e6⟩ => ⟨p1, .call c, ev, ⟨b, by rw [hp1, evs], e6 _ _ ht⟩, hc⟩)) (by rw [List.length_map, hqs.length, ld]; omega) (fun v Hk2 H4 e4 B4 ⟨q, d, ev, hd⟩ => ?_)
      subst ev
      have hpp2 := e4 _ _ hpp1
      have te := TEx.list (H := Hk2) (ys := qs.map V.ref ++ [V.ref q]) hpp2
      refine ⟨_, W.set (o' := .lst (qs.map V.ref ++ [V.ref q])) B4 hpp2 (fun _ z => by cases z), _, _, rfl, Ex.mut (e.trans (e3.trans e4)) np, qs ++ [q], ds ++ [d], by rw [upd_same, List.map_append]; rfl, ((hqs.imp fun p c g => ⟨(g.1.ex (e3.trans e4)).tex te, g.2⟩).app (.cons ⟨hd.1.tex te, hd.2⟩ .nil)), by rw [List.length_append, ld]; rfl⟩
    · subst eσ
      have fin : ∀ (Hk2 H3 : Hp) (l : Addr) (us : List Addr) (es : List Dd), Ex Hk Hk2 → Bag Hk2 H3 a → Hk2 l = some (.lst (us.map V.ref)) → Each (DdR ks cs Hk2) us es → es.length ≤ most → tRet (tThen (tVar 5) (kTup K)) { nx := fun _ H' => Q .non H', rt := Q } [some (.ref a), some (.ref h), some (.int most), some (.int m), some (.int y), some (.ref l), u, b] H3 := fun Hk2 H3 l us es e3 B3 hl hus le => by
        refine w_ret (ewU W (eu_tupK (ev_var rfl) (.of hl))) B3 (fun v Hk3 H4 e4 B4 ⟨t, _, ev, ht⟩ => ?_)
        rw [ev]
        exact kk t us es Hk3 H4 (e1.trans (e.trans (e3.trans e4))) B4 ht (hus.imp fun p c g => ⟨g.1.ex e4, g.2⟩) le
      refine w_when (PT := fun _ _ => True) (ewt_T (PB := fun _ _ => True) (ew_op (P := fun v _ => ∃ b, v = .bl b ∧ True) (P1 := fun v _ => ∃ r, v = .int r ∧ 0 ≤ r ∧ r < 8) (P2 := fun _ => isV (.int 0)) (ew_take (m := 8) (ew W (ev_var rfl)) (fun H3 _ => ew W ev_c) (by omega) (by omega)) (fun x H3 _ _ => ew W ev_c) (fun x y H3 H4 e3 ⟨r, ex, _⟩ e4 ey => by
          rw [ex, show y = V.int 0 from ey]
          exact rw_imp (rw_of W (rv_eq rfl)) fun v H' _ ev => ⟨_, ev, trivial⟩))) wk (fun Hk2 H3 e3 B3 _ => ?_) (fun Hk2 H3 e3 B3 _ => fin Hk2 H3 p qs ds e3 B3 (e3 _ _ hpp) (hqs.imp fun p c g => ⟨g.1.ex e3, g.2⟩) (by omega))
      refine w_set1 (P := fun v H' => ∃ p us es, Hk2 p = none ∧ v = .ref p ∧ H' p = some (.lst (us.map V.ref)) ∧ Each (DdR ks cs H') us es ∧ es.length = ds.length) (ew_sortDd W (ew W (ev_var rfl)) (e3 _ _ hpp) (hqs.imp fun p c g => ⟨g.1.ex e3, g.2⟩)) B3 (fun v Hk3 H4 e4 B4 ⟨l, us, es, _, ev, hl, hus, le⟩ => ?_)
      subst ev
      exact fin Hk3 H4 l us es (e3.trans e4) B4 hl hus (by omega)
end
end KK
set_option maxHeartbeats 4000000
/-! _law_thing_names, _law_log_of, _law_plain_log. -/
namespace KK
open PySem PySem.Spec PyProof.Rows L2 Evl
theorem RowAt.tex {H H' : Hp} {q : Addr} (e : TEx H H') : ∀ {r : Rw}, RowAt H q r → RowAt H' q r
  | .put _ _, h => e _ _ h
  | .call _, ⟨b, h1, h2⟩ => ⟨b, e _ _ h1, e _ _ h2⟩
  | .drop _, h => e _ _ h
section
variable {W : Hp → Hp → Prop} {Hc H : Hp} {σ : L2.St} {D : Ends} {tz : TS} {te : TE} {i : Int}
theorem w_par3 {i j l : Nat} {ta : TA} {PL : List V → Hp → Prop} (h : EWA W ta σ Hc PL) (w1 : W Hc H) (k : ∀ vs Hc' H', Ex Hc Hc' → W Hc' H' → PL vs Hc' → ∃ u v w, vs = [u, v, w] ∧ tz D (((σ.set i (some u)).set j (some v)).set l (some w)) H') : tSeq (tPar3 i j l ta) tz D σ H := h H w1 _ k
theorem ev_int1 (h : Ev te σ H (.int i)) : Ev (tCB rInt1 (tCons te tNil)) σ H (.int i) := fun H1 e Q q => h H1 e _ fun H2 e2 => .inl ⟨i, rfl, q H2 e2⟩
theorem rv_addS {x y : Str} (h : x.length + y.length ≤ 1000) : RV (fun x y H Q => ∃ i j : Str, x = V.str i ∧ y = V.str j ∧ i.length + j.length ≤ sizeLine ∧ Q (V.str (i ++ j)) H) (.str x) (.str y) H (.str (x ++ y)) := fun H1 e Q q => ⟨x, y, rfl, rfl, sz_of (by omega), q H1 (Ex.refl _)⟩
theorem ev_let {tx : TE} {n : Nat} (h : Ev te σ H (.str letters)) (hx : Ev tx σ H (.int (n : Int))) (hn : n < 26) : Ev (tOp rIxS te tx) σ H (.str (sg n)) :=
  ev_op h hx (rv_ixS (by decide) (atI_nat (let_at n hn)))
end
/-- two values, the second a new list -/
theorem ewa_twoL {W : Hp → Hp → Prop} {Hc : Hp} {σ : L2.St} {te tb : TE} {P1 : V → Hp → Prop} {ys : List V} (h : EW W te σ Hc P1) (k : ∀ x H1, Ex Hc H1 → P1 x H1 → EW W tb σ H1 (isL H1 ys)) : EWA W (tCons te (tCons tb tNil)) σ Hc (fun vs H' => ∃ x p H1, vs = [x, .ref p] ∧ Ex Hc H1 ∧ P1 x H1 ∧ Ex H1 H' ∧ H1 p = none ∧ H' p = some (.lst ys)) :=
  fun H1 w1 Q q => h H1 w1 _ fun v Hc1 H2 e1 w2 p1 => k v Hc1 e1 p1 H2 w2 _ fun u Hc2 H3 e2 w3 ⟨p, np, eu, hp⟩ => q [v, u] Hc2 H3 (e1.trans e2) w3 ⟨v, p, Hc1, by rw [eu], e1, p1, e2, np, hp⟩
/-- the place of the k-th name -/
def plc (s : Int) (k : Nat) : Nat := (((k : Int) * 577 + s) % 702).toNat
theorem plc_int (s : Int) (k : Nat) : ((plc s k : Nat) : Int) = ((k : Int) * 577 + s) % 702 := Int.toNat_of_nonneg (Int.emod_nonneg _ (by decide))
theorem plc_lt (s : Int) (k : Nat) : plc s k < 702 := by
  have := plc_int s k
  have := Int.emod_lt_of_pos ((k : Int) * 577 + s) (show (0 : Int) < 702 by decide)
  omega
def namesL (s : Int) (n : Nat) : List Str := (List.range n).map fun k => thName (plc s k)
theorem names_nodup (s : Int) {n : Nat} (hn : n ≤ 40) : (namesL s n).Nodup := by
  refine KH.nodup_map_on List.nodup_range fun x hx y hy e => ?_
  have h1 := List.mem_range.mp hx
  have h2 := List.mem_range.mp hy
  have z := th_inj (plc_lt s x) (plc_lt s y) e
  refine place_inj (s := s) (by omega) (by omega) ?_
  rw [← plc_int, ← plc_int, z]
theorem names_ok (s : Int) (n : Nat) : ∀ z ∈ namesL s n, NameOk z := fun z hz => by
  obtain ⟨k, _, rfl⟩ := List.mem_map.mp hz
  exact th_ok _ (plc_lt s k)
theorem thBase_len (n : Nat) : (thBase n).length ≤ 2 := by
  unfold thBase
  split
  · show 1 ≤ 2; decide
  · show (sg _ ++ sg _).cps.size ≤ 2
    show ((sg _).cps ++ (sg _).cps).size ≤ 2
    rw [Array.size_append]
    show 1 + 1 ≤ 2; decide
def mkRow (z : Str) : Dd → Rw
  | .put k => .put z k
  | .call c => .call c
theorem mk_rows {ks : List Str} {cs : List (List Str)} : ∀ {zs : List Str} {ds : List Dd} {nm : List Str}, (∀ z ∈ zs, NameOk z ∧ z ∉ nm) → zs.Nodup → (∀ d ∈ ds, DdOk ks cs d) → RowsOk ks cs nm (List.zipWith mkRow zs ds)
  | [], _, _, _, _, _ => by simp [RowsOk]
  | _ :: _, [], _, _, _, _ => by simp [RowsOk]
  | z :: zs, .put k :: ds, nm, h, nd, hd => by
    rw [List.nodup_cons] at nd
    refine ⟨⟨(h z (by simp)).1, hd (.put k) (by simp), (h z (by simp)).2⟩, mk_rows (fun y hy => ⟨(h y (by simp [hy])).1, fun m => ?_⟩) nd.2 fun d hd' => hd d (by simp [hd'])⟩
    rcases List.mem_append.mp m with m | m
    · exact (h y (by simp [hy])).2 m
    · have : y = z := by simpa using m
      exact nd.1 (this ▸ hy)
  | z :: zs, .call c :: ds, nm, h, nd, hd => by
    rw [List.nodup_cons] at nd
    exact ⟨hd (.call c) (by simp), mk_rows (fun y hy => h y (by simp [hy])) nd.2 fun d hd' => hd d (by simp [hd'])⟩
theorem mk_puts : ∀ {zs : List Str} {ds : List Dd}, ((KP.putsOf (List.zipWith mkRow zs ds)).map (·.1)).Sublist zs
  | [], _ => by simp [KP.putsOf]
  | _ :: _, [] => by simp [KP.putsOf]
  | z :: zs, .put k :: ds => by
    show (z :: (KP.putsOf (List.zipWith mkRow zs ds)).map (·.1)).Sublist (z :: zs)
    exact mk_puts.cons₂ z
  | z :: zs, .call c :: ds => by
    show ((KP.putsOf (List.zipWith mkRow zs ds)).map (·.1)).Sublist (z :: zs)
    exact mk_puts.cons z
theorem mk_plain : ∀ {zs : List Str} {ds : List Dd}, ∀ r ∈ List.zipWith mkRow zs ds, KP.isPlain r = true
  | [], _, r, h => by simp at h
  | _ :: _, [], r, h => by simp at h
  | z :: zs, .put k :: ds, r, h => by
    rcases List.mem_cons.mp h with e | h
    · rw [e]; rfl
    · exact mk_plain r h
  | z :: zs, .call c :: ds, r, h => by
    rcases List.mem_cons.mp h with e | h
    · rw [e]; rfl
    · exact mk_plain r h
/-- a plain log that was drawn -/
structure GoodLog (ks : List Str) (cs : List (List Str)) (rs : List Rw) : Prop where
  ok : PlainOk ks cs rs
  len : rs.length ≤ 40
  name : ∀ p ∈ KP.putsOf rs, NameOk p.1
theorem mk_good {ks : List Str} {cs : List (List Str)} {zs : List Str} {ds : List Dd} (hz : ∀ z ∈ zs, NameOk z) (nd : zs.Nodup) (hd : ∀ d ∈ ds, DdOk ks cs d) (l : zs.length ≤ 40) : GoodLog ks cs (List.zipWith mkRow zs ds) := by
  have hn : ∀ p ∈ KP.putsOf (List.zipWith mkRow zs ds), NameOk p.1 := fun p hp => hz _ (mk_puts.mem (List.mem_map.mpr ⟨p, hp, rfl⟩))
  have ll : (List.zipWith mkRow zs ds).length ≤ 40 := by rw [List.length_zipWith]; omega
  exact { ok := { rows := mk_rows (fun z h => ⟨hz z h, by simp⟩) nd hd, len := by omega, plain := mk_plain, nd := nd.sublist mk_puts, text := fun p hp => name_text (hn p hp) }, len := ll, name := hn }
section
variable {P : Program} {w : World} {K : PySem.W.Frag} {mg : Str → Option Value} {base : Heap}
def spThN : Sp := fun vs H Q _ => ∃ (Hc : Hp) (a : Addr) (n : Nat), vs = [.ref a, .int n] ∧ Bag Hc H a ∧ n ≤ 40 ∧ ∀ p s Hc' H', Ex Hc Hc' → Bag Hc' H' a → Hc' p = some (.lst ((namesL s n).map V.str)) → Q (.ref p) H'
theorem scThN : FnScope ["_law_bag_here", "_law_many", "_law_signs", "_law_shift", "_law_found", "_law_k", "_law_at", "_law_name"] ["_law_bag_here", "_law_many"] (defScope (top 41)) := ⟨rfl, rfl, rfl, by decide +kernel, rfl, by decide +kernel, by decide +kernel⟩
theorem d_thing_names (T : Txt K mg) : Dfn P w K mg base 2 "_law_thing_names" ["_law_bag_here", "_law_many"] spThN := by
  refine mk_dfn (j := 25) T rfl scThN (fun vs H Q E h => ?_) (fun _ _ _ _ _ _ us hl => match us, hl with | [_, _], _ => rfl) (fun cdv A outer s H vs Q E hr h => ?_)
  · obtain ⟨_, _, _, rfl, _⟩ := h
    rfl
  · obtain ⟨Hc, a, n, rfl, B, hn, kk⟩ := h
    refine ⟨_, (pss_cons (ps_par3 (i := 2) (j := 3) (l := 4) rfl scThN.nd rfl rfl rfl (by decide) (by decide) (by decide) (by rfl) (by rfl) (by rfl) (pa_cons pe_str (pa_cons (pe_dfn (d_take T) (hr.mono (by decide)) (pa_cons (pv 0) (pa_cons pe_int pa_nil))) (pa_cons (pe_lst pa_nil) pa_nil))) rfl)
      (pss_cons (ps_for PassesOwn.never rfl (pi_range1 (by rfl) (T.free "range") (pa_cons (pv 1) pa_nil)) (pg_name (i := 5) scThN.nd rfl (by first | exact Or.inl rfl | exact Or.inr rfl)) (pss_cons (ps_set (i := 6) scThN.nd rfl (by first | exact Or.inl rfl | exact Or.inr rfl) (pe_op op_mod (pe_callTy call_int1 (by rfl) (T.free "int") (by decide +kernel) (pa_cons (pe_op op_add (pe_op op_mul (pv 5) pe_int) (pv 3)) pa_nil)) pe_int))
        (pss_cons (ps_set (i := 7) scThN.nd rfl (by first | exact Or.inl rfl | exact Or.inr rfl) (pe_ifExp (pt_cmpR op_lt (pv 6) pe_int (nomark _)) (pe_ix ix_str (pv 2) (pv 6) (fun _ _ => rfl)) (pe_op op_add_str (pe_ix ix_str (pv 2) (pe_op op_fdiv (pe_callTy call_int1 (by rfl) (T.free "int") (by decide +kernel) (pa_cons (pe_op op_sub (pv 6) pe_int) pa_nil)) pe_int) (fun _ _ => rfl)) (pe_ix ix_str (pv 2) (pe_op op_mod (pe_callTy call_int1 (by rfl) (T.free "int") (by decide +kernel) (pa_cons (pe_op op_sub (pv 6) pe_int) pa_nil)) pe_int) (fun _ _ => rfl)))))
        (pss_one (ps_expr (pe_bm PySem.F.plainAttrs_list PySem.F.slot_list_append PySem.F.type_list_append mt_append (pv 4) (pa_cons (pe_ifExp (pt_cmpR op_eq (pe_op op_mod (pe_callTy call_int1 (by rfl) (T.free "int") (by decide +kernel) (pa_cons (pv 6) pa_nil)) pe_int) pe_int (nomark _)) (pe_op op_add_str (pv 7) pe_str) (pv 7)) pa_nil)))))))
      (pss_one (ps_ret (pv 4))))), ?_⟩
    have W := bagW a
    refine w_par3 (PL := fun vs H' => ∃ (s : Int) (p : Addr), vs = [.str letters, .int s, .ref p] ∧ Hc p = none ∧ H' p = some (.lst [])) ((ewa_c (ewa_two (P1 := fun v _ => ∃ s : Int, v = .int s) (P2 := fun _ vs H' => ∃ p, vs = [.ref p] ∧ Hc p = none ∧ H' p = some (.lst [])) ((ew_take (m := 702) (ew W (ev_var rfl)) (fun H1 _ => ew W ev_c) (by omega) (by omega)).imp fun v H' _ ⟨s, ev, _⟩ => ⟨s, ev⟩) (fun x H1 e1 _ => (ewa_one (ewL W (el_lst ea_nil (by simp)))).imp fun vs H' _ ⟨v, ev, p, np, ep, hp⟩ => ⟨p, by rw [ev, ep], fresh_back e1 np, hp⟩))).imp fun vs H' _ ⟨r, e1, x, r2, H1, er, _, ⟨s, ex⟩, _, p, e2, np, hp⟩ => ⟨s, p, by rw [e1, er, ex, e2]; rfl, np, hp⟩) B fun vs Hc1 H1 e1 B1 ⟨s, p, ev, np, hp⟩ => ⟨_, _, _, ev, ?_⟩
    refine w_forR (n := n) (Pv := fun i σ' Hk => ∃ u v x, σ' = [some (.ref a), some (.int n), some (.str letters), some (.int s), some (.ref p), u, v, x] ∧ Ex Hc Hk ∧ Hk p = some (.lst ((namesL s i).map V.str))) W B1 (ewa_of W (ea_cons (ev_var rfl) ea_nil)) (by omega) (fun Hk e => ⟨none, none, none, rfl, e1.trans e, e _ _ hp⟩) (fun i σ' Hk H' hi ⟨u, v, x, eσ, e, hpp⟩ wk => ?_) (fun σ' Hk H' ⟨u, v, x, eσ, e, hpp⟩ wk => ?_)
    · subst eσ
      refine w_set (P := isV (.int ((plc s i : Nat) : Int))) (ew W (ev_is (ev_op (ev_int1 (ev_op (ev_op (ev_var rfl) (ev_c (v := .int 577)) (rv_I (.inr ⟨by decide, by decide⟩))) (ev_var rfl) rv_I0)) (ev_c (v := .int 702)) (rv_I (by decide))) (by rw [plc_int]))) wk (fun v1 Hk1 H2 e2 B2 ev => ?_)
      rw [show v1 = V.int ((plc s i : Nat) : Int) from ev]
      have hd := plc_lt s i
      generalize hdd : plc s i = d at hd
      refine w_set (P := isV (.str (thBase d))) (ew W (ev_if (b := decide (d < 26)) (et_test (ev_is (ev_op (ev_var rfl) (ev_c (v := .int 26)) rv_I0) (by simp; omega)))
        (fun hb => by
          have hb := of_decide_eq_true hb
          unfold thBase
          rw [if_pos hb]
          exact ev_let (ev_var rfl) (ev_var rfl) hb)
        (fun hb => by
          have hb := of_decide_eq_false hb
          unfold thBase
          rw [if_neg hb]
          refine ev_op (ev_let (n := (d - 26) / 26) (ev_var rfl) (ev_is (ev_op (ev_int1 (ev_op (ev_var rfl) (ev_c (v := .int 26)) rv_I0)) (ev_c (v := .int 26)) (rv_I ⟨by decide, by decide⟩)) (by congr 1; omega)) (by omega)) (ev_let (n := (d - 26) % 26) (ev_var rfl) (ev_is (ev_op (ev_int1 (ev_op (ev_var rfl) (ev_c (v := .int 26)) rv_I0)) (ev_c (v := .int 26)) (rv_I (by decide))) (by congr 1; omega)) (Nat.mod_lt _ (by decide))) (rv_addS (by show 1 + 1 ≤ 1000; decide))))) B2 (fun v2 Hk2 H3 e3 B3 ev => ?_)
      rw [show v2 = V.str (thBase d) from ev]
      have hpp2 := e3 _ _ (e2 _ _ hpp)
      refine w_app1 (P := isV (.str (thName d))) W B3 (ev_var rfl) hpp2 (ew W (ev_if (b := decide (d % 9 = 4)) (et_test (ev_is (ev_op (ev_op (ev_int1 (ev_var rfl)) (ev_c (v := .int 9)) (rv_I (by decide))) (ev_c (v := .int 4)) (rv_eq rfl)) (by
            congr 1
            by_cases h : d % 9 = 4
            · rw [decide_eq_true h]
              exact decide_eq_true (by congr 1; omega)
            · rw [decide_eq_false h]
              exact decide_eq_false fun e => by
                injection e with e
                omega)))
        (fun hb => by
          have hb := of_decide_eq_true hb
          unfold thName
          rw [if_pos hb]
          exact ev_op (ev_var rfl) (ev_c (v := .str "zzzz")) (rv_addS (by have := thBase_len d; show (thBase d).length + 4 ≤ 1000; omega)))
        (fun hb => by
          have hb := of_decide_eq_false hb
          unfold thName
          rw [if_neg hb]
          exact ev_var rfl))) (by unfold namesL; rw [List.length_map, List.length_map, List.length_range]; omega) (fun v3 Hk3 H4 e4 B4 ev => ?_)
      rw [show v3 = V.str (thName d) from ev]
      refine ⟨_, W.set (o' := .lst ((namesL s i).map V.str ++ [V.str (thName d)])) B4 (e4 _ _ hpp2) (fun _ z => by cases z), _, _, _, rfl, Ex.mut (e.trans (e2.trans (e3.trans e4))) np, ?_⟩
      rw [upd_same]
      unfold namesL
      rw [List.range_succ, List.map_append, List.map_append, ← hdd]
      rfl
    · subst eσ
      exact ⟨_, rfl, kk p s Hk H' e wk hpp⟩
/-! _law_log_of -/
def spLogOf : Sp := fun vs H Q _ => ∃ (Hc : Hp) (a t : Addr) (ks : List Str) (cs : List (List Str)) (qs : List Addr) (ds : List Dd), vs = [.ref a, .ref t] ∧ Bag Hc H a ∧ Hc t = some (.tup (qs.map V.ref)) ∧ Each (DdR ks cs Hc) qs ds ∧ ds.length ≤ 40 ∧
  ∀ lg rs Hc' H', Ex Hc Hc' → Bag Hc' H' a → LogAt Hc' lg rs → GoodLog ks cs rs → rs.length = ds.length → Q (.ref lg) H'
theorem scLogOf : FnScope ["_law_bag_here", "_law_stretch_here", "_law_names", "_law_found", "_law_deed"] ["_law_bag_here", "_law_stretch_here"] (defScope (top 42)) := ⟨rfl, rfl, rfl, by decide +kernel, rfl, by decide +kernel, by decide +kernel⟩
theorem d_log_of (T : Txt K mg) : Dfn P w K mg base 3 "_law_log_of" ["_law_bag_here", "_law_stretch_here"] spLogOf := by
  refine mk_dfn (j := 26) T rfl scLogOf (fun vs H Q E h => ?_) (fun _ _ _ _ _ _ us hl => match us, hl with | [_, _], _ => rfl) (fun cdv A outer s H vs Q E hr h => ?_)
  · obtain ⟨_, _, _, _, _, _, _, rfl, _⟩ := h
    rfl
  · obtain ⟨Hc, a, t, ks, cs, qs, ds, rfl, B, ht, hqs, hl, kk⟩ := h
    refine ⟨_, (pss_cons (ps_par (i := 2) (j := 3) rfl scLogOf.nd rfl rfl (by decide) (by rfl) (by rfl) (pa_cons (pe_dfn (d_thing_names T) (hr.mono (by decide)) (pa_cons (pv 0) (pa_cons (pe_callB call_len_seq (by rfl) (T.free "len") (by decide +kernel) (pa_cons (pv 1) pa_nil)) pa_nil))) (pa_cons (pe_lst pa_nil) pa_nil)) rfl)
      (pss_cons (ps_for PassesOwn.never rfl (pi_tup (pv 1)) (pg_name (i := 4) scLogOf.nd rfl (by first | exact Or.inl rfl | exact Or.inr rfl)) (pss_one (ps_expr (pe_bm PySem.F.plainAttrs_list PySem.F.slot_list_append PySem.F.type_list_append mt_append (pv 3) (pa_cons (pe_ifExp (pt_cmpR op_eq (pe_ix ix_tup (pv 4) pe_int (fun _ _ => rfl)) pe_str (nomark _)) (pe_tup (pa_cons pe_str (pa_cons (pe_ix ix_list (pv 2) (pe_callB call_len_seq (by rfl) (T.free "len") (by decide +kernel) (pa_cons (pv 3) pa_nil)) (fun _ _ => rfl)) (pa_cons (pe_ix ix_tup (pv 4) pe_int (fun _ _ => rfl)) pa_nil)))) (pv 4)) pa_nil)))))
      (pss_one (ps_ret (pe_tupleOf (by rfl) (T.free "tuple") (pv 3)))))), ?_⟩
    have W := bagW a
    have lq : (qs.map V.ref).length = ds.length := by rw [List.length_map, hqs.length]
    refine w_par (ewa_twoL (P1 := fun v H' => ∃ p1 s, v = .ref p1 ∧ H' p1 = some (.lst ((namesL s ds.length).map V.str))) (ys := []) (ew_call (ewa_of W (ea_cons (ev_var rfl) (ea_cons (ev_lenT (ev_var rfl) (.of ht)) ea_nil))) fun vs H1 e1 ev H2 w2 Q E q => ⟨H1, a, ds.length, by rw [show vs = _ from ev, lq]; rfl, w2, hl, fun p s Hc' H' e B hp => q (.ref p) Hc' H' e B ⟨p, s, rfl, hp⟩⟩)
        (fun x H1 e1 _ => ewL W (el_lst ea_nil (by simp)))) B fun vs Hc1 H1 e1 B1 ⟨x, p2, Hn, ev, e0, ⟨p1, s, ex, hp1⟩, en, np2, hp2⟩ => ⟨_, _, ev, ?_⟩
    subst ex
    have lz : (namesL s ds.length).length = ds.length := by unfold namesL; rw [List.length_map, List.length_range]
    refine w_forT (a := t) (xs := qs.map V.ref) (Pv := fun i σ' Hk => ∃ u, σ' = [some (.ref a), some (.ref t), some (.ref p1), some (.ref p2), u] ∧ Ex Hn Hk ∧ ∃ us, Hk p2 = some (.lst (us.map V.ref)) ∧ Each (RowAt Hk) us ((List.zipWith mkRow (namesL s ds.length) ds).take i)) W B1 (ew W (ev_var rfl)) (fun Hk e => ⟨none, rfl, en.trans e, [], e _ _ hp2, .nil⟩) (fun i σ' Hk ⟨_, _, e, _⟩ => .of (e _ _ (e0 _ _ ht))) (fun i x σ' Hk H' hx ⟨u, eσ, e, us, hu, hus⟩ wk => ?_) (fun σ' Hk H' ⟨u, eσ, e, us, hu, hus⟩ wk => ?_)
    · subst eσ
      rw [List.getElem?_map] at hx
      obtain ⟨q, hq, rfl⟩ := Option.map_eq_some_iff.mp hx
      obtain ⟨d, hd, hdd, hok⟩ := hqs.get hq
      have li : i < ds.length := (List.getElem?_eq_some_iff.mp hd).1
      obtain ⟨z, hz⟩ : ∃ z, (namesL s ds.length)[i]? = some z := ⟨_, List.getElem?_eq_getElem (by rw [lz]; exact li)⟩
      have hrow : (List.zipWith mkRow (namesL s ds.length) ds)[i]? = some (mkRow z d) := by rw [List.getElem?_zipWith, hz, hd]
      have lu : us.length = i := by rw [hus.length, List.length_take, List.length_zipWith]; omega
      have hd2 := hdd.ex (e0.trans e)
      have app : ∀ (Hk2 : Hp) (v : Addr), Ex Hk Hk2 → RowAt Hk2 v (mkRow z d) → ∀ H2, Bag Hk2 H2 a → Nxt (fun Hc H => Bag Hc H a) (fun i σ' Hk => ∃ u, σ' = [some (.ref a), some (.ref t), some (.ref p1), some (.ref p2), u] ∧ Ex Hn Hk ∧ ∃ us, Hk p2 = some (.lst (us.map V.ref)) ∧ Each (RowAt Hk) us ((List.zipWith mkRow (namesL s ds.length) ds).take i)) (i + 1) [some (.ref a), some (.ref t), some (.ref p1), some (.ref p2), some (.ref q)] (upd H2 p2 (.lst (us.map V.ref ++ [.ref v]))) := fun Hk2 v e2 hv H2 B2 => by
        have hu2 := e2 _ _ hu
        have te := TEx.list (H := Hk2) (ys := us.map V.ref ++ [V.ref v]) hu2
        refine ⟨_, W.set (o' := .lst (us.map V.ref ++ [V.ref v])) B2 hu2 (fun _ z => by cases z), _, rfl, Ex.mut (e.trans e2) np2, us ++ [v], by rw [upd_same, List.map_append]; rfl, ?_⟩
        rw [take_snoc hrow]
        exact (hus.imp fun p r g => (g.ex e2).tex te).app (.cons (hv.tex te) .nil)
      refine w_app1 (P := fun v H' => ∃ q2, v = .ref q2 ∧ RowAt H' q2 (mkRow z d)) W wk (ev_var rfl) hu (?_ : EW _ _ _ _ _) (by rw [List.length_map, lu]; omega) (fun v Hk2 H2 e2 B2 ⟨q2, ev, hv⟩ => by
        rw [ev]; exact app Hk2 q2 e2 hv H2 B2)
      cases d with
      | put k =>
        have hd2 : Hk q = some (.tup [.str "put", .str k]) := hd2
        refine ew_if (b := true) (ewT W (et_test (ev_op (ev_op (ev_var rfl) (ev_c (v := .int 0)) (rv_ixT (.of hd2) rfl)) (ev_c (v := .str "put")) (rv_eq rfl)))) (fun _ H1 e3 => (ewU W (eu_tup (ea_cons ev_c (ea_cons (ev_op (ev_var rfl) (ev_lenL (ev_var rfl) (.of (e3 _ _ hu))) (rv_ixL (v := .str z) (.of (e3 _ _ (e _ _ hp1))) (by rw [List.length_map, lu]; exact atI_nat (by rw [List.getElem?_map, hz]; rfl)))) (ea_cons (ev_op (ev_var rfl) (ev_c (v := .int 1)) (rv_ixT (v := .str k) (.of (e3 _ _ hd2)) rfl)) ea_nil))) (by simp))).imp fun v H' _ ⟨q2, _, ev, hv⟩ => ⟨q2, ev, hv⟩) (fun h => by cases h)
      | call c =>
        obtain ⟨b, hd3, hb⟩ := hd2
        refine ew_if (b := false) (ewT W (et_test (ev_op (ev_op (ev_var rfl) (ev_c (v := .int 0)) (rv_ixT (.of hd3) rfl)) (ev_c (v := .str "put")) (rv_eq rfl)))) (fun h => by cases h) (fun _ H1 e3 => (ew W (ev_var rfl)).imp fun v H' e4 ev => ⟨q, ev, b, e4 _ _ (e3 _ _ hd3), e4 _ _ (e3 _ _ hb)⟩)
    · subst eσ
      have ll : (List.zipWith mkRow (namesL s ds.length) ds).length = ds.length := by rw [List.length_zipWith, lz, Nat.min_self]
      rw [lq, List.take_of_length_le (by rw [ll]; exact Nat.le_refl _)] at hus
      refine w_ret (ewU W (eu_tupK (ev_var rfl) (.of hu))) wk (fun v Hk2 H2 e2 B2 ⟨lg, _, ev, hlg⟩ => ?_)
      rw [ev]
      exact kk lg _ Hk2 H2 (e0.trans (e.trans e2)) B2 ⟨us, hlg, hus.imp fun p r g => g.ex e2⟩ (mk_good (names_ok s _) (names_nodup s hl) (fun d hd => by
        obtain ⟨i, hi, ei⟩ := List.mem_iff_getElem.mp hd
        have hqi : qs[i]? = some (qs[i]'(by rw [hqs.length]; exact hi)) := List.getElem?_eq_getElem _
        obtain ⟨d', hd', r⟩ := hqs.get hqi
        rw [List.getElem?_eq_getElem hi, ei] at hd'
        injection hd' with hd'
        rw [hd']; exact r.2) (by rw [lz]; exact hl)) ll
/-! _law_plain_log -/
def spPlainLog : Sp := fun vs H Q _ => ∃ (Hc : Hp) (a h : Addr) (ks : List Str) (cs : List (List Str)) (most : Nat), vs = [.ref a, .ref h, .int most] ∧ Bag Hc H a ∧ HouseAt Hc h ks cs ∧ HOk ks cs ∧ most ≤ 40 ∧
  ∀ lg rs Hc' H', Ex Hc Hc' → Bag Hc' H' a → LogAt Hc' lg rs → GoodLog ks cs rs → Q (.ref lg) H'
theorem scPlain : FnScope ["_law_bag_here", "_law_house_here", "_law_most"] ["_law_bag_here", "_law_house_here", "_law_most"] (defScope (top 43)) := ⟨rfl, rfl, rfl, by decide +kernel, rfl, by decide +kernel, by decide +kernel⟩
theorem d_plain_log (T : Txt K mg) : Dfn P w K mg base 4 "_law_plain_log" ["_law_bag_here", "_law_house_here", "_law_most"] spPlainLog := by
  refine mk_dfn (j := 27) T rfl scPlain (fun vs H Q E h => ?_) (fun _ _ _ _ _ _ us hl => match us, hl with | [_, _, _], _ => rfl) (fun cdv A outer s H vs Q E hr h => ?_)
  · obtain ⟨_, _, _, _, _, _, rfl, _⟩ := h
    rfl
  · obtain ⟨Hc, a, h, ks, cs, most, rfl, B, hh, hk, hm, kk⟩ := h
    refine ⟨_, (pss_one (ps_ret (pe_dfn (d_log_of T) (hr.mono (by decide)) (pa_cons (pv 0) (pa_cons (pe_dfn (d_stretch T) (hr.mono (by decide)) (pa_cons (pv 0) (pa_cons (pv 1) (pa_cons (pv 2) pa_nil)))) pa_nil))))), ?_⟩
    refine ⟨_, rfl, _, rfl, _, rfl, _, rfl, Hc, a, h, ks, cs, most, rfl, B, hh, hk, hm, fun t qs ds Hc1 H1 e1 B1 ht hqs hl => ?_⟩
    exact ⟨Hc1, a, t, ks, cs, qs, ds, rfl, B1, ht, hqs, by omega, fun lg rs Hc2 H2 e2 B2 hlg good _ => kk lg rs Hc2 H2 (e1.trans e2) B2 hlg good⟩
end
end KK
set_option maxHeartbeats 4000000
/-! _law_log, law. -/
namespace KK
open PySem PySem.Spec PyProof.Rows L2 Evl
/-! rows put in between -/
theorem rows_pre {ks : List Str} {cs : List (List Str)} : ∀ {a b : List Rw} {nm : List Str}, RowsOk ks cs nm (a ++ b) → RowsOk ks cs nm a
  | [], _, _, _ => trivial
  | r :: a, b, nm, h => ⟨h.1, rows_pre (a := a) h.2⟩
theorem rows_drop {ks : List Str} {cs : List (List Str)} {ns : List Str} (hn : ∀ z ∈ ns, NameOk z) : ∀ {b : List Rw} {nm : List Str}, RowsOk ks cs nm b → RowsOk ks cs nm (ns.map KP.Row.drop ++ b) := by
  induction ns with
  | nil => intro b nm h; exact h
  | cons z r ih => intro b nm h; exact ⟨hn z (by simp), ih (fun y hy => hn y (by simp [hy])) h⟩
theorem rows_mid {ks : List Str} {cs : List (List Str)} {ns : List Str} (hn : ∀ z ∈ ns, NameOk z) : ∀ {a b : List Rw} {nm : List Str}, RowsOk ks cs nm (a ++ b) → RowsOk ks cs nm (a ++ (ns.map KP.Row.drop ++ b))
  | [], _, _, h => rows_drop hn h
  | r :: a, b, nm, h => ⟨h.1, rows_mid hn (a := a) h.2⟩
theorem rows_name {ks : List Str} {cs : List (List Str)} : ∀ {a : List Rw} {nm : List Str}, RowsOk ks cs nm a → ∀ r ∈ a, isPut r = true → NameOk (putName r)
  | [], _, _, r, h, _ => by cases h
  | x :: a, nm, h, r, m, p => by
    rcases List.mem_cons.mp m with e | m
    · subst e
      cases r with
      | put n k => exact h.1.1
      | call c => cases p
      | drop n => cases p
    · exact rows_name h.2 r m p
theorem nobody_ok : NameOk "nobody" := by
  have h : 1 ≤ ("nobody" : Str).length ∧ ("nobody" : Str).length ≤ 6 ∧ ∀ c ∈ ("nobody" : Str).cps.toList, c ∈ letters.cps.toList := by decide +kernel
  exact h
section
variable {W : Hp → Hp → Prop} {K : PySem.W.Frag} {Hc H : Hp} {σ : L2.St} {te : TE} {D : Ends} {tz : TS} {j : Nat} {p : Addr} {xs : List V} {P : V → Hp → Prop}
theorem w_ext (w : Wld W) (w1 : W Hc H) (hσ : σ[j]? = some (some (.ref p))) (hp : Hc p = some (.lst xs)) (h : EW W te σ Hc P) (k : ∀ v Hc' H', Ex Hc Hc' → W Hc' H' → P v Hc' → ∃ b zs, v = .ref b ∧ Hc' b = some (.lst zs) ∧ xs.length + zs.length ≤ 100000 ∧ tz D σ (upd H' p (.lst (xs ++ zs)))) :
    tSeq (tDrop (tBM K "list" rExtend (tVar j) (tCons te tNil))) tz D σ H := ⟨_, hσ, .inl ⟨rfl, _, .of (w.ex w1 _ _ hp)⟩, h H w1 _ fun v Hc' H' e w2 pv => by
  obtain ⟨b, zs, ev, hb, l, q⟩ := k v Hc' H' e w2 pv
  exact ⟨p, b, xs, zs, rfl, by rw [ev], w.ex w2 _ _ (e _ _ hp), w.ex w2 _ _ hb, sz_of l, q⟩⟩
end
abbrev DropsAt (H : Hp) (us : List Addr) (ns : List Str) : Prop := Each (fun q n => H q = some (.tup [.str "drop", .str n])) us ns
theorem drops_rows {H : Hp} : ∀ {us : List Addr} {ns : List Str}, DropsAt H us ns → Each (RowAt H) us (ns.map KP.Row.drop)
  | _, _, .nil => .nil
  | _, _, .cons h r => .cons h (drops_rows r)
section
variable {P : Program} {w : World} {K : PySem.W.Frag} {mg : Str → Option Value} {base : Heap}
def spLog : Sp := fun vs H Q _ => ∃ (Hc : Hp) (a h : Addr) (ks : List Str) (cs : List (List Str)) (most : Nat), vs = [.ref a, .ref h, .int most] ∧ Bag Hc H a ∧ HouseAt Hc h ks cs ∧ HOk ks cs ∧ most ≤ 40 ∧
  ∀ lg rs Hc' H', Ex Hc Hc' → Bag Hc' H' a → LogAt Hc' lg rs → LogOk ks cs rs → Q (.ref lg) H'
abbrev N44 : List Str := ["_law_bag_here", "_law_house_here", "_law_most", "_law_log_here", "_law_found", "_law_names", "_law_row", "_law_many", "_law_ahead", "_law_one_here", "_law_k"]
theorem scLog : FnScope N44 ["_law_bag_here", "_law_house_here", "_law_most"] (defScope (top 44)) := ⟨rfl, rfl, rfl, by decide +kernel, rfl, by decide +kernel, by decide +kernel⟩
theorem d_log (T : Txt K mg) : Dfn P w K mg base 5 "_law_log" ["_law_bag_here", "_law_house_here", "_law_most"] spLog := by
  refine mk_dfn (j := 28) T rfl scLog (fun vs H Q E h => ?_) (fun _ _ _ _ _ _ us hl => match us, hl with | [_, _, _], _ => rfl) (fun cdv A outer s H vs Q E hr h => ?_)
  · obtain ⟨_, _, _, _, _, _, rfl, _⟩ := h
    rfl
  · obtain ⟨Hc, a, h, ks, cs, most, rfl, B, hh, hk, hm, kk⟩ := h
    refine ⟨_, (pss_cons (ps_par (i := 3) (j := 4) rfl scLog.nd rfl rfl (by decide) (by rfl) (by rfl) (pa_cons (pe_dfn (d_plain_log T) (hr.mono (by decide)) (pa_cons (pv 0) (pa_cons (pv 1) (pa_cons (pv 2) pa_nil)))) (pa_cons (pe_lst pa_nil) pa_nil)) rfl)
      (pss_cons (ps_set (i := 5) scLog.nd rfl (by first | exact Or.inl rfl | exact Or.inr rfl) (pe_op op_cat (pe_lc (own := [("_law_row", 6)]) rfl scLog.nd (pi_tup (pv 3)) (blkOk_by (N := N44) (sc := defScope (top 44)) (by decide +kernel)) (fun _ _ _ _ _ => (pg_name (i := 6) scLog.nd rfl (by first | exact Or.inl rfl | exact Or.inr rfl))) (fun _ _ _ _ _ => (pts_one (pt_cmpR op_eq (pe_ix (show IxR _ (rIxT K) from ix_tup) (pv 6) pe_int (fun _ _ => rfl)) pe_str (nomark _)))) (fun _ _ _ _ _ => (pe_ix (show IxR _ (rIxT K) from ix_tup) (pv 6) pe_int (fun _ _ => rfl)))) (pe_lst (pa_cons pe_str pa_nil))))
      (pss_cons (ps_for PassesOwn.never rfl (pi_list (pe_op op_cat (pe_callTy call_list_of (by rfl) (T.free "list") (by decide +kernel) (pa_cons (pv 3) pa_nil)) (pe_lst (pa_cons pe_non pa_nil)))) (pg_name (i := 6) scLog.nd rfl (by first | exact Or.inl rfl | exact Or.inr rfl)) (pss_cons (ps_set (i := 7) scLog.nd rfl (by first | exact Or.inl rfl | exact Or.inr rfl) (pe_dfn (d_one T) (hr.mono (by decide)) (pa_cons (pv 0) (pa_cons (pe_lst (pa_cons pe_int (pa_cons pe_int (pa_cons pe_int (pa_cons pe_int (pa_cons pe_int (pa_cons pe_int (pa_cons pe_int (pa_cons pe_int (pa_cons pe_int (pa_cons pe_int pa_nil))))))))))) pa_nil))))
        (pss_cons (ps_set (i := 8) scLog.nd rfl (by first | exact Or.inl rfl | exact Or.inr rfl) (pe_lc (own := [("_law_one_here", 9)]) rfl scLog.nd (pi_list (pv 4)) (blkOk_by (N := N44) (sc := defScope (top 44)) (by decide +kernel)) (fun _ _ _ _ _ => (pg_name (i := 9) scLog.nd rfl (by first | exact Or.inl rfl | exact Or.inr rfl))) (fun _ _ _ _ _ => (pts_one (pt_cmpR op_eq (pe_ix (show IxR _ (rIxT K) from ix_tup) (pv 9) pe_int (fun _ _ => rfl)) pe_str (nomark _)))) (fun _ _ _ _ _ => (pe_ix (show IxR _ (rIxT K) from ix_tup) (pv 9) pe_int (fun _ _ => rfl)))))
        (pss_cons (ps_expr (pe_bm PySem.F.plainAttrs_list PySem.F.slot_list_extend PySem.F.type_list_extend mt_extend (pv 4) (pa_cons (pe_lc (own := [("_law_k", 10)]) rfl scLog.nd (pi_range1 (by rfl) (T.free "range") (pa_cons (pv 7) pa_nil)) (blkOk_by (N := N44) (sc := defScope (top 44)) (by decide +kernel)) (fun _ _ _ _ _ => (pg_name (i := 10) scLog.nd rfl (by first | exact Or.inl rfl | exact Or.inr rfl))) (fun _ _ _ _ _ => pts_nil) (fun _ _ _ _ _ => (pe_tup (pa_cons pe_str (pa_cons (pe_dfn (d_one T) (hr.mono (by decide)) (pa_cons (pv 0) (pa_cons (pe_op op_cat (pe_op op_cat (pv 8) (pv 8)) (pv 5)) pa_nil))) pa_nil))))) pa_nil)))
        (pss_one (ps_if (pt_cmpR op_notN (pv 6) pe_non (nomark _)) (pss_one (ps_expr (pe_bm PySem.F.plainAttrs_list PySem.F.slot_list_append PySem.F.type_list_append mt_append (pv 4) (pa_cons (pv 6) pa_nil)))) pss_nil))))))
      (pss_one (ps_ret (pe_tupleOf (by rfl) (T.free "tuple") (pe_slice sl_list (pv 4) po_none (po_some (pv 2))))))))), ?_⟩
    have W := bagW a
    refine w_par (ewa_twoL (P1 := fun v H' => ∃ lg rs, v = .ref lg ∧ LogAt H' lg rs ∧ GoodLog ks cs rs) (ys := []) (ew_call (ewa_of W (ea_cons (ev_var rfl) (ea_cons (ev_var rfl) (ea_cons (ev_var rfl) ea_nil)))) fun vs H1 e1 ev H2 w2 Q E q => ⟨H1, a, h, ks, cs, most, by rw [show vs = _ from ev]; rfl, w2, hh.ex e1, hk, hm, fun lg rs Hc' H' e B hlg good => q _ Hc' H' e B ⟨lg, rs, rfl, hlg, good⟩⟩)
        (fun x H1 e1 _ => ewL W (el_lst ea_nil (by simp)))) B fun vs Hc1 H1 e1 B1 ⟨x, p, Hn, ev, e0, ⟨lg, rs, ex, hlg0, good⟩, en, np, hp⟩ => ⟨_, _, ev, ?_⟩
    subst ex
    obtain ⟨qs, hlg, hrs⟩ := id hlg0
    obtain ⟨zs, eqs, ers, hzs⟩ := hrs.pairs
    have lz : zs.length ≤ 40 := by have := congrArg List.length ers; rw [List.length_map] at this; have := good.len; omega
    have hlg' : Hn lg = some (.tup (zs.map fun z => V.ref z.1)) := by rw [hlg, eqs, List.map_map]; rfl
    -- the names
    refine w_set (P := isP fun xs => ∃ js : List Str, xs = js.map V.str ∧ js ≠ [] ∧ (∀ z ∈ js, NameOk z) ∧ js.length ≤ 41) ((ew_cat W (ew_lcTv (a := lg) (xs := (zs.filter fun z => isPut z.2).map fun z => V.str (putName z.2)) (ew W (ev_var rfl)) fun H2 e2 => ew_fmTn (ys := zs) (gv := fun z => V.ref z.1) W (.of (e2 _ _ (en _ _ hlg'))) (by omega) (fun _ _ => rfl) (fun z hz Hj ej => et_isput ((hzs z hz).ex (en.trans (e2.trans ej))) rfl) (fun z hz Hj ej pz => ev_row1 ((hzs z hz).ex (en.trans (e2.trans ej))) pz rfl)) (fun H2 e2 => ewL W (el_lst (vs := [.str "nobody"]) (ea_cons ev_c ea_nil) (by simp))) (by
          have := List.length_filter_le (fun z : Addr × Rw => isPut z.2) zs
          rw [List.length_map]; simp; omega)).imp fun v H' _ ⟨p1, _, ev, hp1⟩ => ⟨p1, _, ev, hp1, (zs.filter fun z => isPut z.2).map (fun z => putName z.2) ++ [("nobody" : Str)], by rw [List.map_append, List.map_map]; rfl, by simp, fun z hz => by
            rcases List.mem_append.mp hz with m | m
            · obtain ⟨y, hy, rfl⟩ := List.mem_map.mp m
              have hy := List.mem_filter.mp hy
              exact rows_name good.ok.rows y.2 (by rw [ers]; exact List.mem_map.mpr ⟨y, hy.1, rfl⟩) hy.2
            · rw [show z = ("nobody" : Str) by simpa using m]; exact nobody_ok, by
            have := List.length_filter_le (fun z : Addr × Rw => isPut z.2) zs
            rw [List.length_append, List.length_map]; simp; omega⟩) B1 (fun v Hc2 H2 e2 B2 ⟨pn, _, ev, hpn, js, ejs, js0, jsn, ljs⟩ => ?_)
    subst ev ejs
    have hp2 := e2 _ _ hp
    -- the loop
    refine w_forB (P := fun v H' => ∃ l, v = .ref l ∧ H' l = some (.lst (zs.map (fun z => V.ref z.1) ++ [V.non]))) ((ew_cat W (ewL W (el_listT (ev_var rfl) (.of (e2 _ _ (en _ _ hlg'))))) (fun H3 e3 => ewL W (el_lst (vs := [.non]) (ea_cons ev_c ea_nil) (by simp))) (by rw [List.length_map]; simp; omega)).imp fun v H' _ ⟨l, _, ev, hl⟩ => ⟨l, ev, hl⟩) B2 (fun v Hc3 H3 e3 B3 ⟨l, ev, hl⟩ => ?_)
    subst ev
    have e23 := e2.trans e3
    have lrs : rs.length = zs.length := by rw [ers, List.length_map]
    have pl : l ≠ p := fun z => by
      have h1 := e3 _ _ hp2
      rw [← z, hl] at h1
      injection h1 with h1
      injection h1 with h1
      simp at h1
    have pnp : pn ≠ p := fun z => by
      have h1 := hp2
      rw [← z, hpn] at h1
      injection h1 with h1
      injection h1 with h1
      exact js0 (List.map_eq_nil_iff.mp h1)
    refine w_forL (a := l) (xs := zs.map (fun z => V.ref z.1) ++ [V.non]) (Pv := fun i σ' Hk => ∃ u b c, σ' = [some (.ref a), some (.ref h), some (.int most), some (.ref lg), some (.ref p), some (.ref pn), u, b, c, none, none] ∧ Ex Hn Hk ∧ Hk l = some (.lst (zs.map (fun z => V.ref z.1) ++ [V.non])) ∧ Hk pn = some (.lst (js.map V.str)) ∧ ∃ us fs, Hk p = some (.lst (us.map V.ref)) ∧ Each (RowAt Hk) us fs ∧ RowsOk ks cs [] (fs ++ rs.drop i) ∧ fs.length ≤ 4 * i) W B3 (ew W ev_c)
      (fun Hk e => ⟨none, none, none, rfl, en.trans (e23.trans e), e _ _ hl, e _ _ (e3 _ _ hpn), [], [], e _ _ (e3 _ _ hp2), .nil, good.ok.rows, Nat.zero_le _⟩) (fun i σ' Hk ⟨_, _, _, _, _, hl, _⟩ => .of hl) (fun i x σ' Hk H' hx ⟨u, b, c, eσ, e, hl, hpn, us, fs, hu, hus, hok, lf⟩ wk => ?_) (fun σ' Hk H' ⟨u, b, c, eσ, e, hl, hpn, us, fs, hu, hus, hok, lf⟩ wk => ?_)
    · subst eσ
      have li : i < zs.length + 1 := by have := (List.getElem?_eq_some_iff.mp hx).1; simp at this; exact this
      obtain ⟨ys, eys, efs, hys⟩ := hus.pairs
      have ly : ys.length ≤ 4 * i := by have := congrArg List.length efs; rw [List.length_map] at this; omega
      -- many
      refine w_set (P := fun v _ => ∃ m : Nat, v = .int (m : Int) ∧ m ≤ 2) ((ew_one (P1 := fun x _ => ∃ i ∈ [(0 : Int), 0, 1, 0, 0, 0, 2, 0, 0, 1], x = .int i) (ew W (ev_var rfl)) (fun H4 e4 => ew_ints W (ns := [0, 0, 1, 0, 0, 0, 2, 0, 0, 1]) (ea_cons ev_c (ea_cons ev_c (ea_cons ev_c (ea_cons ev_c (ea_cons ev_c (ea_cons ev_c (ea_cons ev_c (ea_cons ev_c (ea_cons ev_c (ea_cons ev_c ea_nil)))))))))) (by decide) (by decide))).imp fun v H' _ ⟨i, hi, ev⟩ => ⟨i.toNat, by simp at hi; rw [ev, Int.toNat_of_nonneg (by omega)], by simp at hi; omega⟩) wk (fun v Hk1 H4 e4 B4 ⟨m, ev, hm2⟩ => ?_)
      subst ev
      have hu1 := e4 _ _ hu
      -- ahead
      refine w_set (P := isL Hk1 ((ys.filter fun y => isPut y.2).map fun y => V.str (putName y.2))) (ew_lcLv (a := p) (ew W (ev_var rfl)) fun H5 e5 => ew_fmLn (ys := ys) (gv := fun y => V.ref y.1) W (.of (by rw [e5 _ _ hu1, eys, List.map_map]; rfl)) (by omega) (fun _ _ => rfl) (fun y hy Hj ej => et_isput ((hys y hy).ex (e4.trans (e5.trans ej))) rfl) (fun y hy Hj ej py => ev_row1 ((hys y hy).ex (e4.trans (e5.trans ej))) py rfl)) B4 (fun v Hk2 H5 e5 B5 ⟨pa, _, ev, hpa⟩ => ?_)
      subst ev
      have hu2 := e5 _ _ hu1
      have hpn2 := e5 _ _ (e4 _ _ hpn)
      have aok : ∀ z ∈ (ys.filter fun y => isPut y.2).map (fun y => putName y.2), NameOk z := fun z hz => by
        obtain ⟨y, hy, rfl⟩ := List.mem_map.mp hz
        have hy := List.mem_filter.mp hy
        exact rows_name (rows_pre hok) y.2 (by rw [efs]; exact List.mem_map.mpr ⟨y, hy.1, rfl⟩) hy.2
      have la : ((ys.filter fun y => isPut y.2).map fun y => V.str (putName y.2)).length ≤ 200 := by
        have := List.length_filter_le (fun y : Addr × Rw => isPut y.2) ys
        rw [List.length_map]; omega
      have eav : ((ys.filter fun y => isPut y.2).map fun y => V.str (putName y.2)) = ((ys.filter fun y => isPut y.2).map (fun y => putName y.2)).map V.str := by rw [List.map_map]; rfl
      rw [eav] at hpa la
      generalize (ys.filter fun y => isPut y.2).map (fun y => putName y.2) = as at hpa la aok
      -- the drops
      refine w_ext (P := MadeL Hk2 (fun acc H' => ∃ vs ns, acc = vs.map V.ref ∧ DropsAt H' vs ns ∧ vs.length = m ∧ ∀ z ∈ ns, NameOk z)) W B5 rfl hu2 (ew_lcR (n := m) (PA := fun i acc H' => ∃ vs ns, acc = vs.map V.ref ∧ DropsAt H' vs ns ∧ vs.length = i ∧ ∀ z ∈ ns, NameOk z) W (ewa_of W (ea_cons (ev_var rfl) ea_nil)) (by omega) (fun _ => rfl) (fun i acc H H' te h => by
          obtain ⟨vs, ns, e1, e2, r⟩ := h
          exact ⟨vs, ns, e1, e2.imp fun q n g => te _ _ g, r⟩) (fun _ _ => ⟨[], [], rfl, .nil, rfl, fun _ h => by cases h⟩) (fun i acc Hj hi ej ⟨vs, ns, eacc, hvs, lvs, nok⟩ => ewt_yes (EW.imp (ew_tupP (PL := fun vs _ => ∃ z, vs = [.str "drop", .str z] ∧ NameOk z) W
          ((ewa_c (ewa_one (ew_one (P1 := fun x _ => ∃ z, x = .str z ∧ NameOk z) (ew W (ev_var rfl)) (fun H6 e6 => (ew_catP (A := fun xs => ∃ zs : List Str, xs = zs.map V.str ∧ (∀ z ∈ zs, NameOk z) ∧ zs.length ≤ 400) (B := fun xs => xs = js.map V.str) W (EW.imp (ew_catK (a := pa) (r := pa) W (ew W (ev_var rfl)) (fun H7 _ => ew W (ev_var rfl)) (e6 _ _ (ej _ _ hpa)) (e6 _ _ (ej _ _ hpa)) (by omega)) fun v H' _ ⟨p1, _, ev, hp1⟩ => ⟨p1, _, ev, hp1, as ++ as, by rw [List.map_append], fun z hz => (List.mem_append.mp hz).elim (aok z) (aok z), by rw [List.length_map] at la; rw [List.length_append]; omega⟩)
                (fun H7 e7 => (ew W (ev_var rfl)).imp fun v H' e8 ev => ⟨pn, _, ev, e8 _ _ (e7 _ _ (e6 _ _ (ej _ _ hpn2))), rfl⟩) (fun xs ys ⟨zs, e1, _, l1⟩ e2 => by rw [e1, e2, List.length_map, List.length_map]; omega)).imp fun v H' _ ⟨p1, xs, ev, hp1, x1, x2, exs, ⟨z1, ez1, n1, l1⟩, ez2⟩ => ⟨p1, xs, ev, .inl (.of hp1), by
                  rw [exs, ez2, List.length_append, List.length_map (as := js)]
                  have := List.length_pos_iff.mpr js0
                  omega, by rw [exs, ez1, ez2, List.length_append, List.length_map, List.length_map]; omega, fun x hx => by
                  rw [exs, ez1, ez2] at hx
                  rcases List.mem_append.mp hx with m | m
                  · obtain ⟨z, hz, rfl⟩ := List.mem_map.mp m
                    exact ⟨z, rfl, n1 z hz⟩
                  · obtain ⟨z, hz, rfl⟩ := List.mem_map.mp m
                    exact ⟨z, rfl, jsn z hz⟩⟩)))).imp fun vs H' _ ⟨r, e1, x, e2, z, e3, hz⟩ => ⟨z, by rw [e1, e2, e3], hz⟩) (fun vs H' ⟨z, e, _⟩ => by rw [e]; show 2 ≤ 100000; decide)) fun v H' e7 ⟨q, ws, H8, ev, hq, ⟨z, ews, hz⟩, _, _⟩ => ⟨vs ++ [q], ns ++ [z], by rw [eacc, ev, List.map_append]; rfl, (hvs.imp fun q n g => e7 _ _ g).app (.cons (by rw [hq, ews]) .nil), by rw [List.length_append, lvs]; rfl, fun y hy => (List.mem_append.mp hy).elim (nok y) (fun h => by rw [show y = z by simpa using h]; exact hz)⟩))) (fun v Hk3 H6 e6 B6 ⟨pd, acc, _, ev, hpd, vs, ns, eacc, hvs, lvs, nok⟩ => ⟨pd, vs.map V.ref, ev, by rw [hpd, eacc], by rw [List.length_map, List.length_map, hus.length, lvs]; omega, ?_⟩)
      have hu3 := e6 _ _ hu2
      have te := TEx.list (H := Hk3) (ys := us.map V.ref ++ vs.map V.ref) hu3
      have B7 := W.set (o' := .lst (us.map V.ref ++ vs.map V.ref)) B6 hu3 (fun _ z => by cases z)
      have e46 := e4.trans (e5.trans e6)
      have hx7 : Ex Hn (upd Hk3 p (.lst (us.map V.ref ++ vs.map V.ref))) := Ex.mut (e.trans e46) np
      have hl7 : upd Hk3 p (.lst (us.map V.ref ++ vs.map V.ref)) l = some (.lst (zs.map (fun z => V.ref z.1) ++ [V.non])) := by rw [upd_ne pl]; exact e46 _ _ hl
      have hpn7 : upd Hk3 p (.lst (us.map V.ref ++ vs.map V.ref)) pn = some (.lst (js.map V.str)) := by rw [upd_ne pnp]; exact e46 _ _ hpn
      have hp7 : upd Hk3 p (.lst (us.map V.ref ++ vs.map V.ref)) p = some (.lst ((us ++ vs).map V.ref)) := by rw [upd_same, List.map_append]
      have hus7 : Each (RowAt (upd Hk3 p (.lst (us.map V.ref ++ vs.map V.ref)))) (us ++ vs) (fs ++ ns.map KP.Row.drop) := (hus.imp fun q r g => (g.ex e46).tex te).app (drops_rows (hvs.imp fun q n g => te _ _ g))
      have hok7 : RowsOk ks cs [] ((fs ++ ns.map KP.Row.drop) ++ rs.drop i) := by
        rw [List.append_assoc]; exact rows_mid nok hok
      have lf7 : (fs ++ ns.map KP.Row.drop).length ≤ 4 * i + 2 := by rw [List.length_append, List.length_map, ← hvs.length, lvs]; omega
      generalize upd Hk3 p (.lst (us.map V.ref ++ vs.map V.ref)) = Hk7 at B7 hx7 hl7 hpn7 hp7 hus7
      generalize us ++ vs = us7 at hp7 hus7
      generalize fs ++ ns.map KP.Row.drop = fs7 at hus7 hok7 lf7
      -- the row itself
      by_cases hi : i < zs.length
      · have hzi : zs[i]? = some zs[i] := List.getElem?_eq_getElem hi
        have hri : rs[i]? = some zs[i].2 := by rw [ers, List.getElem?_map, hzi]; rfl
        have ex : x = .ref zs[i].1 := by
          rw [List.getElem?_append_left (by rw [List.length_map]; exact hi), List.getElem?_map, hzi] at hx
          injection hx with hx
          exact hx.symm
        subst ex
        refine seq_last (w_when (ewT W (et_test (ev_op (ev_var rfl) (ev_c (v := .non)) rv_notN))) B7 (fun Hk8 H8 e8 B8 pt => ?_) (fun Hk8 H8 e8 B8 pt => by cases pt))
        have hp8 := e8 _ _ hp7
        refine w_app1 (P := isV (.ref zs[i].1)) W B8 (ev_var rfl) hp8 (ew W (ev_var rfl)) (by rw [List.length_map, hus7.length]; omega) (fun v Hk9 H9 e9 B9 ev => ?_)
        rw [show v = V.ref zs[i].1 from ev]
        have hp9 := e9 _ _ hp8
        have te9 := TEx.list (H := Hk9) (ys := us7.map V.ref ++ [V.ref zs[i].1]) hp9
        refine ⟨_, W.set (o' := .lst (us7.map V.ref ++ [V.ref zs[i].1])) B9 hp9 (fun _ z => by cases z), _, _, _, rfl, Ex.mut (hx7.trans (e8.trans e9)) np, by rw [upd_ne pl]; exact e9 _ _ (e8 _ _ hl7), by rw [upd_ne pnp]; exact e9 _ _ (e8 _ _ hpn7), us7 ++ [zs[i].1], fs7 ++ [zs[i].2], by rw [upd_same, List.map_append]; rfl, (hus7.imp fun q r g => (g.ex (e8.trans e9)).tex te9).app (.cons (((hzs zs[i] (List.getElem_mem hi)).ex (hx7.trans (e8.trans e9))).tex te9) .nil), ?_, by rw [List.length_append]; simp; omega⟩
        rw [drop_cons hri] at hok7
        rw [List.append_assoc]; exact hok7
      · have ei : i = zs.length := by omega
        have ex : x = .non := by
          rw [List.getElem?_append_right (by rw [List.length_map]; omega), List.length_map, ei, Nat.sub_self] at hx
          injection hx with hx
          exact hx.symm
        subst ex
        refine seq_last (w_skip (b := false) (ewT W (et_test (ev_op (ev_var rfl) (ev_c (v := .non)) rv_notN))) rfl B7 (fun Hk8 H8 e8 B8 => ?_))
        refine ⟨Hk8, B8, _, _, _, rfl, hx7.trans e8, e8 _ _ hl7, e8 _ _ hpn7, us7, fs7, e8 _ _ hp7, hus7.imp fun q r g => g.ex e8, ?_, by omega⟩
        rw [List.drop_of_length_le (by omega)]
        rw [List.drop_of_length_le (by omega)] at hok7
        exact hok7
    · subst eσ
      refine w_ret (P := fun v H' => ∃ t fs2, v = .ref t ∧ LogAt H' t fs2 ∧ LogOk ks cs fs2) ((ew_tupB (K := K) (PL := fun xs H' => ∃ us2 fs2, xs = us2.map V.ref ∧ Each (RowAt H') us2 fs2 ∧ LogOk ks cs fs2) W ((ew_slTo (K := K) (PL := fun xs H' => xs = us.map V.ref ∧ Each (RowAt H') us fs) (PI := fun i => i = (most : Int)) W ((ew W (ev_var rfl)).imp fun v H' e4 ev => ⟨p, _, ev, e4 _ _ hu, rfl, hus.imp fun q r g => g.ex e4⟩) (fun H4 e4 => (ew W (ev_var rfl)).imp fun v H' _ ev => ⟨most, ev, by omega, rfl⟩)).imp fun v H' _ ⟨p1, xs, i, H5, _, ev, hp1, i0, ei, ⟨exs, hus5⟩, e5, e6⟩ => ⟨p1, _, ev, hp1, us.take i.toNat, fs.take i.toNat, by rw [exs, List.map_take], (hus5.take i.toNat).imp fun q r g => g.ex e6, { rows := rows_pre (b := fs.drop i.toNat) (by rw [List.take_append_drop]; exact rows_pre hok), len := by rw [List.length_take]; omega }⟩)).imp fun v H' _ ⟨t, xs, H6, _, ev, ht, ⟨us2, fs2, exs, hus2, ok2⟩, e7, e8⟩ => ⟨t, fs2, ev, ⟨us2, by rw [ht, exs], hus2.imp fun q r g => g.ex e8⟩, ok2⟩) wk (fun v Hk4 H4 e4 B4 ⟨t, fs2, ev, hlg4, ok4⟩ => ?_)
      rw [ev]
      exact kk t fs2 Hk4 H4 (e0.trans (e.trans e4)) B4 hlg4 ok4
end
end KK
set_option maxHeartbeats 4000000
/-! law. -/
namespace KK
open PySem PySem.Spec PyProof.Rows L2 Evl
section
variable {P : Program} {w : World} {K : PySem.W.Frag} {mg : Str → Option Value} {base : Heap}
def spLaw (K : PySem.W.Frag) : Sp := fun vs H Q _ => ∃ (s : Addr) (ns : List Int), vs = [.ref s] ∧ SqL K H s (ns.map V.int) ∧ ∀ H', Q (.bl true) H'
theorem scLaw : FnScope ["_law_script", "_law_bag_here", "_law_turn", "_law_house_here", "_law_most"] ["_law_script"] (defScope (top 48)) := ⟨rfl, rfl, rfl, by decide +kernel, rfl, by decide +kernel, by decide +kernel⟩
/-- one of three numbers -/
theorem ew_three {a : Addr} {Hc : Hp} {σ : L2.St} {x y z : Int} {i : Nat} (hσ : σ[i]? = some (some (.ref a))) (h : 1 ≤ x ∧ 1 ≤ y ∧ 1 ≤ z) : EW (fun Hc H => Bag Hc H a) (tCall (spOne K) [] E0 (tCons (tVar i) (tCons (tLst (tCons (tC (.int x)) (tCons (tC (.int y)) (tCons (tC (.int z)) tNil)))) tNil))) σ Hc fun v _ => ∃ n : Nat, v = .int (n : Int) ∧ 1 ≤ n ∧ (n : Int) ≤ max x (max y z) :=
  (ew_one (P1 := fun v _ => ∃ i ∈ [x, y, z], v = .int i) (ew (bagW a) (ev_var hσ)) (fun H5 e5 => ew_ints (bagW a) (ns := [x, y, z]) (ea_cons ev_c (ea_cons ev_c (ea_cons ev_c ea_nil))) (by simp) (by simp))).imp fun v H' _ ⟨j, hj, ev⟩ => by
    simp at hj
    exact ⟨j.toNat, by rw [ev, Int.toNat_of_nonneg (by omega)], by omega, by omega⟩
theorem law_ok (T : Txt K mg) (S : SlF K) {fd : FuncData} (F : FunD K "law" "law" (defArgs (top 48)) (defBody (top 48)) (defScope (top 48)) [] [] (He.ga K "law") fd) : FnOk P w K mg base CX0 10 (He.ga K "law") fd ["_law_script"] (spLaw K) := by
  refine FunD.ok F scLaw (fun vs H Q E h => ?_) (fun cdv A outer s H vs Q E hr h => ?_)
  · obtain ⟨_, _, rfl, _⟩ := h
    rfl
  · obtain ⟨s1, ns, rfl, hs, kk⟩ := h
    suffices hh : ∃ t, PSs (cxG P w K mg base ["_law_script", "_law_bag_here", "_law_turn", "_law_house_here", "_law_most"] "law" 48 cdv A outer s H E) (defBody (top 48)) t ∧ t { nx := fun _ H' => Q .non H', rt := Q } (L2.start ["_law_script", "_law_bag_here", "_law_turn", "_law_house_here", "_law_most"] [.ref s1]) H by
      obtain ⟨t, h1, h2⟩ := hh
      exact ⟨t, h1.nox, h2⟩
    refine ⟨_, (pss_cons (ps_set (i := 1) scLaw.nd rfl (by first | exact Or.inl rfl | exact Or.inr rfl) (pe_dfn (d_bag T) (hr.mono (by decide)) (pa_cons (pv 0) pa_nil)))
      (pss_cons (ps_for PassesOwn.never rfl (pi_range1 (by rfl) (T.free "range") (pa_cons pe_int pa_nil)) (pg_name (i := 2) scLaw.nd rfl (by first | exact Or.inl rfl | exact Or.inr rfl)) (pss_cons (ps_set (i := 3) scLaw.nd rfl (by first | exact Or.inl rfl | exact Or.inr rfl) (pe_dfn (d_house T) (hr.mono (by decide)) (pa_cons (pv 1) (pa_cons (pe_dfn (d_one T) (hr.mono (by decide)) (pa_cons (pv 1) (pa_cons (pe_lst (pa_cons pe_int (pa_cons pe_int (pa_cons pe_int pa_nil)))) pa_nil))) (pa_cons (pe_dfn (d_one T) (hr.mono (by decide)) (pa_cons (pv 1) (pa_cons (pe_lst (pa_cons pe_int (pa_cons pe_int (pa_cons pe_int pa_nil)))) pa_nil))) pa_nil)))))
        (pss_cons (ps_set (i := 4) scLaw.nd rfl (by first | exact Or.inl rfl | exact Or.inr rfl) (pe_dfn (d_one T) (hr.mono (by decide)) (pa_cons (pv 1) (pa_cons (pe_lst (pa_cons pe_int (pa_cons pe_int (pa_cons pe_int pa_nil)))) pa_nil))))
        (pss_cons (ps_if (pt_not (pt_val (pe_dfn (d_first_told T S) (hr.mono (by decide)) (pa_cons (pv 3) (pa_cons (pe_dfn (d_plain_log T) (hr.mono (by decide)) (pa_cons (pv 1) (pa_cons (pv 3) (pa_cons (pv 4) pa_nil)))) pa_nil))))) (pss_one (ps_ret pe_bl)) pss_nil)
        (pss_one (ps_if (pt_not (pt_val (pe_dfn (d_eldest T S) (hr.mono (by decide)) (pa_cons (pv 3) (pa_cons (pe_dfn (d_log T) (hr.mono (by decide)) (pa_cons (pv 1) (pa_cons (pv 3) (pa_cons (pv 4) pa_nil)))) pa_nil))))) (pss_one (ps_ret pe_bl)) pss_nil))))))
      (pss_one (ps_ret pe_bl)))), ?_⟩
    refine ⟨_, rfl, s1, ns, rfl, hs, fun a H1 B => ?_⟩
    have W := bagW a
    refine w_forR (n := 2) (Pv := fun i σ' Hk => ∃ u h m, σ' = [some (.ref s1), some (.ref a), u, h, m]) W B (ewa_of W (ea_cons (ev_c (v := .int 2)) ea_nil)) (by omega) (fun Hk e => ⟨none, none, none, rfl⟩) (fun i σ' Hk H' hi ⟨u, hh0, m0, eσ⟩ wk => ?_) (fun σ' Hk H' ⟨u, hh0, m0, eσ⟩ wk => ?_)
    · subst eσ
      refine w_set (P := fun v H' => ∃ h ks cs, v = .ref h ∧ HouseAt H' h ks cs ∧ HOk ks cs) (ew_call (P1 := fun vs _ => ∃ k n : Nat, vs = [.ref a, .int k, .int n] ∧ 1 ≤ k ∧ k ≤ 6 ∧ 1 ≤ n ∧ n ≤ 8) ((ewa_v rfl (ewa_two (ew_three (K := K) (i := 1) rfl ⟨by decide, by decide, by decide⟩) (fun x H3 _ _ => ewa_one (ew_three (K := K) (i := 1) rfl ⟨by decide, by decide, by decide⟩)))).imp fun vs H' _ ⟨r, e1, x, r2, H3, e2, _, ⟨k, ek, k1, k2⟩, _, y, e3, n, en, n1, n2⟩ => ⟨k, n, by rw [e1, e2, e3, ek, en], k1, by
          have : max (3 : Int) (max 4 6) = 6 := by decide
          omega, n1, by
          have : max (4 : Int) (max 3 8) = 8 := by decide
          omega⟩) fun vs H3 e3 ⟨k, n, ev, k1, k6, n1, n8⟩ H4 w4 Q E q => ⟨H3, a, k, n, by rw [ev]; rfl, w4, k1, k6, n1, n8, fun h ks cs Hc' H' e B hh ho => q _ Hc' H' e B ⟨h, ks, cs, rfl, hh, ho⟩⟩) wk (fun v Hk1 H2 e2 B2 ⟨h, ks, cs, ev, hh, ho⟩ => ?_)
      subst ev
      refine w_set (P := fun v _ => ∃ n : Nat, v = .int (n : Int) ∧ 1 ≤ n ∧ (n : Int) ≤ max 12 (max 25 40)) (ew_three (K := K) (i := 1) rfl ⟨by decide, by decide, by decide⟩) B2 (fun v Hk2 H3 e3 B3 ⟨most, ev, _, m2⟩ => ?_)
      subst ev
      have m40 : most ≤ 40 := by
        have : max (12 : Int) (max 25 40) = 40 := by decide
        omega
      have hh3 := hh.ex e3
      refine w_skip (b := false) (ewt_not (b := true) (ewt_Bv (ew_call (P1 := fun vs H' => ∃ lg rs, vs = [.ref h, .ref lg] ∧ LogAt H' lg rs ∧ GoodLog ks cs rs) ((ewa_v rfl (ewa_one (P1 := fun v H' => ∃ lg rs, v = .ref lg ∧ LogAt H' lg rs ∧ GoodLog ks cs rs) (ew_call (ewa_of W (ea_cons (ev_var rfl) (ea_cons (ev_var rfl) (ea_cons (ev_var rfl) ea_nil)))) fun vs H4 e4 ev H5 w5 Q E q => ⟨H4, a, h, ks, cs, most, by rw [show vs = _ from ev]; rfl, w5, hh3.ex e4, ho, m40, fun lg rs Hc' H' e B hlg good => q _ Hc' H' e B ⟨lg, rs, rfl, hlg, good⟩⟩))).imp fun vs H' _ ⟨r, e1, x, e2, lg, rs, ex, hlg, good⟩ => ⟨lg, rs, by rw [e1, e2, ex], hlg, good⟩)
        fun vs H4 e4 ⟨lg, rs, ev, hlg, good⟩ => spw_V W fun H5 e5 Q q E => ⟨h, lg, ks, cs, rs, by rw [ev]; rfl, hh3.ex (e4.trans e5), ho, hlg.ex e5, good.ok, q⟩))) rfl B3 (fun Hk4 H4 e4 B4 => ?_)
      have hh4 := hh3.ex e4
      refine seq_last (w_skip (b := false) (ewt_not (b := true) (ewt_Bv (ew_call (P1 := fun vs H' => ∃ lg rs, vs = [.ref h, .ref lg] ∧ LogAt H' lg rs ∧ LogOk ks cs rs) ((ewa_v rfl (ewa_one (P1 := fun v H' => ∃ lg rs, v = .ref lg ∧ LogAt H' lg rs ∧ LogOk ks cs rs) (ew_call (ewa_of W (ea_cons (ev_var rfl) (ea_cons (ev_var rfl) (ea_cons (ev_var rfl) ea_nil)))) fun vs H5 e5 ev H6 w6 Q E q => ⟨H5, a, h, ks, cs, most, by rw [show vs = _ from ev]; rfl, w6, hh4.ex e5, ho, m40, fun lg rs Hc' H' e B hlg ok => q _ Hc' H' e B ⟨lg, rs, rfl, hlg, ok⟩⟩))).imp fun vs H' _ ⟨r, e1, x, e2, lg, rs, ex, hlg, ok⟩ => ⟨lg, rs, by rw [e1, e2, ex], hlg, ok⟩)
        fun vs H5 e5 ⟨lg, rs, ev, hlg, ok⟩ => spw_V W fun H6 e6 Q q E => ⟨h, lg, ks, cs, rs, by rw [ev]; rfl, hh4.ex (e5.trans e6), ho, hlg.ex e6, ok, q⟩))) rfl B4 (fun Hk5 H5 e5 B5 => ?_))
      exact ⟨Hk5, B5, _, _, _, rfl⟩
    · subst eσ
      exact kk H'
end
end KK
set_option maxHeartbeats 0
/-! The head: what the top leaves, read by a Hook. -/
namespace KK
open PySem PySem.Spec PyProof.Rows L2 SlX
/-! ### the slots -/
def slP (K : PySem.W.Frag) (f : Str) : Addr := match PySem.W.findIn K (.ref (He.ga K "Store")) f with
  | some (some (.ref p)) => p
  | _ => 0
def slotB (K : PySem.W.Frag) (f : Str) (i : Nat) : Bool := He.eqO (PySem.W.findIn K (.ref (He.ga K "Store")) f) (some (some (.ref (slP K f)))) && (He.eqO (PySem.W.specialIn K (.ref (slP K f)) "__get__") (some (some (.builtin "member_descriptor.__get__"))) && (decide (PySem.W.takesIn K (.ref (slP K f)) = some true) &&
  (decide (PySem.W.typeIn K (.ref (slP K f)) = some (.type "member_descriptor")) && decide (PySem.W.slotIn K (slP K f) (He.ga K "Store") = some i))))
def slB (K : PySem.W.Frag) : Bool := (PySem.W.plainGet K (He.ga K "Store") Str.empty && (PySem.W.isClsIn K (He.ga K "Store") && (PySem.W.plainOver K (He.ga K "Store") && He.eqO (PySem.W.findIn K (.ref (He.ga K "Store")) "__setattr__") (some (some (.builtin "object.__setattr__")))))) &&
  (slotB K "its_house" 0 && (slotB K "its_rows" 2 && (slotB K "its_things" 3 && slotB K "its_names" 1)))
theorem slot_ok {K : PySem.W.Frag} {f : Str} {i : Nat} (hi : i < 1000) (h : slotB K f i = true) : ∃ q, Slot1 K (He.ga K "Store") f q i := by
  obtain ⟨h1, h⟩ := He.ba h
  obtain ⟨h2, h⟩ := He.ba h
  obtain ⟨h3, h⟩ := He.ba h
  obtain ⟨h4, h5⟩ := He.ba h
  exact ⟨slP K f, { at_ := He.eqO_ok h1, get := He.eqO_ok h2, tk := of_decide_eq_true h3, ty := of_decide_eq_true h4, ix := of_decide_eq_true h5, lt := hi }⟩
theorem sl_ok {K : PySem.W.Frag} (h : slB K = true) : SlF K := by
  obtain ⟨h1, h⟩ := He.ba h
  obtain ⟨a1, h1⟩ := He.ba h1
  obtain ⟨a2, h1⟩ := He.ba h1
  obtain ⟨a3, a4⟩ := He.ba h1
  obtain ⟨b1, h⟩ := He.ba h
  obtain ⟨b2, h⟩ := He.ba h
  obtain ⟨b3, b4⟩ := He.ba h
  exact { cls := { pg := a1, ic := a2, po := a3, sa := He.eqO_ok a4 }, sH := slot_ok (by decide) b1, sR := slot_ok (by decide) b2, sT := slot_ok (by decide) b3, sN := slot_ok (by decide) b4 }
/-! ### the text -/
theorem txt_of {K : PySem.W.Frag} {h : Heap} {mg : Str → Option Value} (X : K.In h) (G : h.Ns mainGlobals mg) (c : He.SaysD fa fn K) : Txt K mg where
  gl := fun x hx => He.glo_ok X G (c.facts hx)
  fr := fun x hx => He.free_ok X G (c.facts hx)
  num := fun x i hx => He.int_ok X G (c.facts hx)
  txt := fun x z hx => He.str_ok X G (c.facts hx)
  made := He.mkr_ok (c.facts (more_in (by simp)))
  mt := fun m hm => He.meth_ok (c.facts hm)
  df := fun d hd => c.defs hd
/-! ### the Hook -/
abbrev AlK : Type := He.AlD × Bool
def obK (g : Addr → Option Obj) : AlK := (He.obsDG 5 fa fn g, slB (He.frG g (He.asD g 5)))
def hk : PySem.W.Hook where
  α := AlK
  obs := fun s => obK s.heap.get?
  val := fun _ => (He.valD fn, true)
  says := fun _ h => ∃ K : PySem.W.Frag, K.In h ∧ He.SaysD fa fn K ∧ SlF K
  of := fun _ _ e => ⟨_, He.frG_in, congrArg Prod.fst e, sl_ok (congrArg Prod.snd e)⟩
  keeps := fun _ _ _ ⟨K, hK, c⟩ k => ⟨K, PySem.W.Frag.In.keeps hK k, c⟩
abbrev R : PySem.W.OpenRow := PySem.W.OpenLaw.row PySem.Challenge.rw_calledbest_k10_whole_the_eldest_of_a_kin
def ob (s : PySem.W.SharedT) : AlK := obK (HandSHeadRun.getT s)
theorem ob_eq (s : PySem.W.SharedT) : ob s = hk.obs s.abs := congrArg obK (funext (HandSHeadRun.getT_eq s))
def loose1 : List Str := ["_wall", "CallError", "NoCall", "NoKind", "Used", "Wrong", "LETTERS", "MOST_SIGNS", "MOST_KINDS", "MOST_CALLS", "is_name", "is_tuple_of", "are_names", "in_order", "is_part", "is_house", "is_set", "is_kind", "is_call", "Store", "do_row", "store_behind", "told_by", "there_at"]
def loose2 : List Str := ["_law_bag", "_law_take", "_law_one", "_law_mixed", "_law_alike", "_law_house", "_law_paths", "_law_bent_call", "_law_any_calls", "_law_named", "_law_forks", "_law_stretch", "_law_thing_names", "_law_log_of", "_law_plain_log", "_law_log", "_law_told_of", "_law_are_first_told", "_law_are_eldest_told"]
def loose : List Str := loose1 ++ loose2
theorem run (w : World) : HandSHeadRun.RunEq R (PySem.W.view R.prog [48]) hk ob 40000 loose w := by
  intro os
  kernel_rfl
theorem facts {P : Program} {w : World} {K : PySem.W.Frag} {h : Heap} {mg : Str → Option Value} {f : Addr} (X : K.In h) (G : h.Ns mainGlobals mg) (hfa : mg ("law" : Str) = some (.ref f)) (c : He.SaysD fa fn K) (S : SlF K) :
    ∃ fd : FuncData, (∀ (s : Shared) (v : Value), BindsTo s fd ⟨[v], []⟩ [("_law_script", v)]) ∧ ∀ base : Heap, K.In base → base.Ns mainGlobals mg → FnOk P w K mg base CX0 10 f fd ["_law_script"] (spLaw K) := by
  have T := txt_of X G c
  obtain ⟨fd, F⟩ := T.df (gdef "law" 48) (List.mem_append_left _ (List.mem_map.mpr ⟨("law", 48), by simp [fnL], rfl⟩))
  have e := hfa.symm.trans (T.glo "law")
  cases e
  have b := FunD.bindsA (ps := ["_law_script"]) F fun _ _ _ _ _ _ us hl => match us, hl with | [_], _ => rfl
  exact ⟨fd, fun s v => b s [v] rfl, fun base _ _ => law_ok T S F⟩
end KK
set_option maxHeartbeats 0
/-! The claim. -/
open PySem PySem.W PySem.Calls PyProof.Rows
theorem PySem.Challenge.cw_calledbest_k10_whole_the_eldest_of_a_kin_holds : PySem.Challenge.rw_calledbest_k10_whole_the_eldest_of_a_kin.Holds := by
  w_on; o_law
  refine HandSHeadRun.head_any (r := KK.R) (q := view KK.R.prog [48]) (H := KK.hk) (ob := KK.ob) (M := 40000) (loose := KK.loose) (d := HandSHeadRun.topDef KK.R.prog 48) (kwd := []) KK.ob_eq
    (by kernel_rfl) (fun s => by kernel_rfl) KK.run (by kernel_rfl) (by kernel_rfl) (by kernel_rfl) (by rfl) (by first | assumption | decide +kernel) (by decide +kernel) ⟨rfl, rfl, rfl, rfl, rfl, by decide +kernel⟩ ?hw ?hc
  case hw => w_witness2
  case hc =>
    refine L2.walk_ofE (l := PySem.Challenge.rw_calledbest_k10_whole_the_eldest_of_a_kin) (n := 63) (k := 10) (x := "_law_script") (CX := L2.CX0) rfl (by decide) (by kernel_rfl) ⟨rfl, by decide, by decide⟩ ?F (fun _ _ _ _ z => z)
    intro w mg fa h Y G hmg0
    obtain ⟨K, KX, c, S⟩ := Y
    have hmg : mg ("law" : PySem.Str) = some (.ref fa) := by
      have e : (HandSHeadRun.topDef KK.R.prog 48).name = ("law" : PySem.Str) := by kernel_rfl
      rw [← e]; exact hmg0
    obtain ⟨fd, hb, hF⟩ := KK.facts (P := (PySem.Challenge.rw_calledbest_k10_whole_the_eldest_of_a_kin).prog) (w := w) KX G hmg c S
    exact ⟨K, fd, KK.spLaw K, KX, hb, fun H a ns hl _ hS => ⟨a, ns, rfl, hS, fun _ => rfl⟩, hF⟩
